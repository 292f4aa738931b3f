import PyProof.Rows.All
import Wide.All
import OpenK.AllK
import Wide.FinOn
import PySem.Challenge.RW_pb0437_01
set_option Elab.async false
set_option maxRecDepth 100000
set_option linter.unusedVariables false
set_option pp.maxSteps 3000
set_option genInjectivity false
set_option genSizeOf false
set_option genSizeOfSpec false
section
open PySem PySem.W PyProof.Rows
namespace HD
noncomputable section
noncomputable abbrev pw : Program := PySem.Challenge.pw_pb0437_01
noncomputable def st (k : Nat) : Stmt := (pw.main.body[k]?).getD (.Pass ⟨0, 0, 0, 0⟩)
noncomputable def sb (x : Stmt) (j : Nat) : Stmt := match x with
  | .ClassDef _ _ _ b _ _ _ _ _ _ _ => (b[j]?).getD x
  | x => x
noncomputable def as_ : Stmt → Arguments
  | .FunctionDef _ a _ _ _ _ _ _ _ _ => a
  | _ => ⟨[], [], none, [], [], none, []⟩
noncomputable def bo_ : Stmt → List Stmt
  | .FunctionDef _ _ b _ _ _ _ _ _ _ => b
  | _ => []
noncomputable def sc_ : Stmt → Scope
  | .FunctionDef _ _ _ _ _ _ c _ _ _ => c
  | _ => pw.main.scope
noncomputable abbrev s (x : String) : Str := Str.ofString x
noncomputable abbrev r (a : Nat) : Value := .ref a
noncomputable abbrev i (a : Int) (t : Nat) : Value := .int a t
noncomputable abbrev t (a : String) (n : Nat) : Value := .str (Str.ofString a) n
noncomputable abbrev u (l : List Value) : Obj := { cls := .type "tuple", data := .seq l.toArray 0 }
noncomputable abbrev f (l : List Value) : Obj := { cls := .none, data := .fields l.toArray }
noncomputable abbrev k (c : String) (l : List Value) : Obj := { cls := .type c, data := .fields l.toArray }
noncomputable abbrev d (l : List DictEntry) (n : Nat) : Obj := { cls := .type "dict", data := .dict l.toArray n }
noncomputable abbrev e (P : Params) (x : String) (n : Nat) (v : Value) : DictEntry := ⟨PyData.keyHash P (Str.ofString x), .str (Str.ofString x) n, v⟩
noncomputable abbrev c (a b : String) (n : Nat) (l x1 x2 x3 fl : Int) (n0 : Nat) (bb : Bool) (t3 : Int) (t4 : Nat) : Obj := { cls := .type "code", data := .fields [.str (Str.ofString a) n, .str (Str.ofString b) (n + 1), .str (Str.ofString "/claim/cut.py") (n + 2), .int l 0, .int x1 0, .int x2 0, .int x3 0, .int fl 0, .ref n0, .bool bb, .int 181 0, .ref (n0 + 1), .none, .ref (n0 + 2), .ref (n0 + 3), .ref (n0 + 4), .int t3 0, .int l 0, .str (Str.ofString "/claim/cut.py") t4].toArray }
noncomputable abbrev g (a b : String) (A : Arguments) (B : List Stmt) (C : Scope) (dV pm cd : Value) : Obj := { cls := .type "function", data := .func { name := Str.ofString a, qualname := Str.ofString b, params := A, body := .stmts B, scope := C, globals := 3, closure := [], defaults := dV, kwdefaults := .none, pyModule := pm, code := cd } }
noncomputable abbrev h (a b : String) (A : Arguments) (B : List Stmt) (C : Scope) : Obj := { cls := .none, data := .func { name := Str.ofString a, qualname := Str.ofString b, params := A, body := .stmts B, scope := C, globals := 0, closure := [], defaults := .none, kwdefaults := .none } }
noncomputable def modl : List DictEntry → Nat → Value → List DictEntry
  | [], _, _ => []
  | ⟨a, b, _⟩ :: l, 0, v => ⟨a, b, v⟩ :: l
  | x :: l, n + 1, v => x :: modl l n v
noncomputable def dcut (o : Obj) (n ep : Nat) (ch : List (Nat × Value)) : Obj := match o with
  | ⟨c, d, .dict es _, sl⟩ => ⟨c, d, .dict (ch.foldl (fun l x => modl l x.1 x.2) (es.toList.take n)).toArray ep, sl⟩
  | o => o
noncomputable def odds : List Obj → List Obj
  | x :: _ :: l => x :: odds l
  | [x] => [x]
  | [] => []
noncomputable def bt : Nat → List Obj → BT
  | 0, _ => .nil
  | _, [] => .nil
  | n + 1, v :: l => .node v (bt n (odds l)) (bt n (odds l.tail))
noncomputable def setl : List Obj → Nat → Obj → List Obj
  | [], _, _ => []
  | _ :: l, 0, v => v :: l
  | x :: l, n + 1, v => x :: setl l n v
noncomputable def chg (ch : List (Nat × Obj)) (l : List Obj) : List Obj := ch.foldl (fun l x => setl l x.1 x.2) l
noncomputable def ev : Env := { scope := pw.main.scope, locals := mainNs, globals := mainNs, cells := [], code := .ref 13, frame := some 14 }
noncomputable abbrev bE : List Stmt := behindTheImports pw
noncomputable abbrev cE : Code := .body (behindTheImports pw) ev
noncomputable abbrev Bf : List Frame := [topFrame ⟨0, 0, 0, 0⟩]
noncomputable def qA0 : PSigma fun x : Arguments => as_ (st 0) = x := ⟨_, by conv => lhs; whnf⟩
noncomputable abbrev A0 : Arguments := qA0.1
noncomputable def qB0 : PSigma fun x : List Stmt => bo_ (st 0) = x := ⟨_, by conv => lhs; whnf⟩
noncomputable abbrev B0 : List Stmt := qB0.1
noncomputable def qC0 : PSigma fun x : Scope => sc_ (st 0) = x := ⟨_, by conv => lhs; whnf⟩
noncomputable abbrev C0 : Scope := qC0.1
noncomputable def qA2_0 : PSigma fun x : Arguments => as_ (sb (st 2) 0) = x := ⟨_, by conv => lhs; whnf⟩
noncomputable abbrev A2_0 : Arguments := qA2_0.1
noncomputable def qB2_0 : PSigma fun x : List Stmt => bo_ (sb (st 2) 0) = x := ⟨_, by conv => lhs; whnf⟩
noncomputable abbrev B2_0 : List Stmt := qB2_0.1
noncomputable def qC2_0 : PSigma fun x : Scope => sc_ (sb (st 2) 0) = x := ⟨_, by conv => lhs; whnf⟩
noncomputable abbrev C2_0 : Scope := qC2_0.1
noncomputable def A2_1 : Arguments := as_ (sb (st 2) 1)
noncomputable def B2_1 : List Stmt := bo_ (sb (st 2) 1)
noncomputable def C2_1 : Scope := sc_ (sb (st 2) 1)
noncomputable def qA5 : PSigma fun x : Arguments => as_ (st 5) = x := ⟨_, by conv => lhs; whnf⟩
noncomputable abbrev A5 : Arguments := qA5.1
noncomputable def qB5 : PSigma fun x : List Stmt => bo_ (st 5) = x := ⟨_, by conv => lhs; whnf⟩
noncomputable abbrev B5 : List Stmt := qB5.1
noncomputable def qC5 : PSigma fun x : Scope => sc_ (st 5) = x := ⟨_, by conv => lhs; whnf⟩
noncomputable abbrev C5 : Scope := qC5.1
noncomputable def qA6 : PSigma fun x : Arguments => as_ (st 6) = x := ⟨_, by conv => lhs; whnf⟩
noncomputable abbrev A6 : Arguments := qA6.1
noncomputable def qB6 : PSigma fun x : List Stmt => bo_ (st 6) = x := ⟨_, by conv => lhs; whnf⟩
noncomputable abbrev B6 : List Stmt := qB6.1
noncomputable def qC6 : PSigma fun x : Scope => sc_ (st 6) = x := ⟨_, by conv => lhs; whnf⟩
noncomputable abbrev C6 : Scope := qC6.1
noncomputable def qA7 : PSigma fun x : Arguments => as_ (st 7) = x := ⟨_, by conv => lhs; whnf⟩
noncomputable abbrev A7 : Arguments := qA7.1
noncomputable def qB7 : PSigma fun x : List Stmt => bo_ (st 7) = x := ⟨_, by conv => lhs; whnf⟩
noncomputable abbrev B7 : List Stmt := qB7.1
noncomputable def qC7 : PSigma fun x : Scope => sc_ (st 7) = x := ⟨_, by conv => lhs; whnf⟩
noncomputable abbrev C7 : Scope := qC7.1
noncomputable def A8 : Arguments := as_ (st 8)
noncomputable def B8 : List Stmt := bo_ (st 8)
noncomputable def C8 : Scope := sc_ (st 8)
noncomputable def A9 : Arguments := as_ (st 9)
noncomputable def B9 : List Stmt := bo_ (st 9)
noncomputable def C9 : Scope := sc_ (st 9)
noncomputable def qA13_0 : PSigma fun x : Arguments => as_ (sb (st 13) 0) = x := ⟨_, by conv => lhs; whnf⟩
noncomputable abbrev A13_0 : Arguments := qA13_0.1
noncomputable def qB13_0 : PSigma fun x : List Stmt => bo_ (sb (st 13) 0) = x := ⟨_, by conv => lhs; whnf⟩
noncomputable abbrev B13_0 : List Stmt := qB13_0.1
noncomputable def qC13_0 : PSigma fun x : Scope => sc_ (sb (st 13) 0) = x := ⟨_, by conv => lhs; whnf⟩
noncomputable abbrev C13_0 : Scope := qC13_0.1
noncomputable def A13_1 : Arguments := as_ (sb (st 13) 1)
noncomputable def B13_1 : List Stmt := bo_ (sb (st 13) 1)
noncomputable def C13_1 : Scope := sc_ (sb (st 13) 1)
noncomputable def A13_2 : Arguments := as_ (sb (st 13) 2)
noncomputable def B13_2 : List Stmt := bo_ (sb (st 13) 2)
noncomputable def C13_2 : Scope := sc_ (sb (st 13) 2)
noncomputable def A13_3 : Arguments := as_ (sb (st 13) 3)
noncomputable def B13_3 : List Stmt := bo_ (sb (st 13) 3)
noncomputable def C13_3 : Scope := sc_ (sb (st 13) 3)
noncomputable def A13_4 : Arguments := as_ (sb (st 13) 4)
noncomputable def B13_4 : List Stmt := bo_ (sb (st 13) 4)
noncomputable def C13_4 : Scope := sc_ (sb (st 13) 4)
noncomputable def qA13_5 : PSigma fun x : Arguments => as_ (sb (st 13) 5) = x := ⟨_, by conv => lhs; whnf⟩
noncomputable abbrev A13_5 : Arguments := qA13_5.1
noncomputable def qB13_5 : PSigma fun x : List Stmt => bo_ (sb (st 13) 5) = x := ⟨_, by conv => lhs; whnf⟩
noncomputable abbrev B13_5 : List Stmt := qB13_5.1
noncomputable def qC13_5 : PSigma fun x : Scope => sc_ (sb (st 13) 5) = x := ⟨_, by conv => lhs; whnf⟩
noncomputable abbrev C13_5 : Scope := qC13_5.1
noncomputable def qA13_6 : PSigma fun x : Arguments => as_ (sb (st 13) 6) = x := ⟨_, by conv => lhs; whnf⟩
noncomputable abbrev A13_6 : Arguments := qA13_6.1
noncomputable def qB13_6 : PSigma fun x : List Stmt => bo_ (sb (st 13) 6) = x := ⟨_, by conv => lhs; whnf⟩
noncomputable abbrev B13_6 : List Stmt := qB13_6.1
noncomputable def qC13_6 : PSigma fun x : Scope => sc_ (sb (st 13) 6) = x := ⟨_, by conv => lhs; whnf⟩
noncomputable abbrev C13_6 : Scope := qC13_6.1
noncomputable def qA13_7 : PSigma fun x : Arguments => as_ (sb (st 13) 7) = x := ⟨_, by conv => lhs; whnf⟩
noncomputable abbrev A13_7 : Arguments := qA13_7.1
noncomputable def qB13_7 : PSigma fun x : List Stmt => bo_ (sb (st 13) 7) = x := ⟨_, by conv => lhs; whnf⟩
noncomputable abbrev B13_7 : List Stmt := qB13_7.1
noncomputable def qC13_7 : PSigma fun x : Scope => sc_ (sb (st 13) 7) = x := ⟨_, by conv => lhs; whnf⟩
noncomputable abbrev C13_7 : Scope := qC13_7.1
noncomputable def qA13_8 : PSigma fun x : Arguments => as_ (sb (st 13) 8) = x := ⟨_, by conv => lhs; whnf⟩
noncomputable abbrev A13_8 : Arguments := qA13_8.1
noncomputable def qB13_8 : PSigma fun x : List Stmt => bo_ (sb (st 13) 8) = x := ⟨_, by conv => lhs; whnf⟩
noncomputable abbrev B13_8 : List Stmt := qB13_8.1
noncomputable def qC13_8 : PSigma fun x : Scope => sc_ (sb (st 13) 8) = x := ⟨_, by conv => lhs; whnf⟩
noncomputable abbrev C13_8 : Scope := qC13_8.1
noncomputable def qA13_9 : PSigma fun x : Arguments => as_ (sb (st 13) 9) = x := ⟨_, by conv => lhs; whnf⟩
noncomputable abbrev A13_9 : Arguments := qA13_9.1
noncomputable def qB13_9 : PSigma fun x : List Stmt => bo_ (sb (st 13) 9) = x := ⟨_, by conv => lhs; whnf⟩
noncomputable abbrev B13_9 : List Stmt := qB13_9.1
noncomputable def qC13_9 : PSigma fun x : Scope => sc_ (sb (st 13) 9) = x := ⟨_, by conv => lhs; whnf⟩
noncomputable abbrev C13_9 : Scope := qC13_9.1
noncomputable def qA13_10 : PSigma fun x : Arguments => as_ (sb (st 13) 10) = x := ⟨_, by conv => lhs; whnf⟩
noncomputable abbrev A13_10 : Arguments := qA13_10.1
noncomputable def qB13_10 : PSigma fun x : List Stmt => bo_ (sb (st 13) 10) = x := ⟨_, by conv => lhs; whnf⟩
noncomputable abbrev B13_10 : List Stmt := qB13_10.1
noncomputable def qC13_10 : PSigma fun x : Scope => sc_ (sb (st 13) 10) = x := ⟨_, by conv => lhs; whnf⟩
noncomputable abbrev C13_10 : Scope := qC13_10.1
noncomputable def A13_11 : Arguments := as_ (sb (st 13) 11)
noncomputable def B13_11 : List Stmt := bo_ (sb (st 13) 11)
noncomputable def C13_11 : Scope := sc_ (sb (st 13) 11)
noncomputable def qA13_12 : PSigma fun x : Arguments => as_ (sb (st 13) 12) = x := ⟨_, by conv => lhs; whnf⟩
noncomputable abbrev A13_12 : Arguments := qA13_12.1
noncomputable def qB13_12 : PSigma fun x : List Stmt => bo_ (sb (st 13) 12) = x := ⟨_, by conv => lhs; whnf⟩
noncomputable abbrev B13_12 : List Stmt := qB13_12.1
noncomputable def qC13_12 : PSigma fun x : Scope => sc_ (sb (st 13) 12) = x := ⟨_, by conv => lhs; whnf⟩
noncomputable abbrev C13_12 : Scope := qC13_12.1
noncomputable def qA13_13 : PSigma fun x : Arguments => as_ (sb (st 13) 13) = x := ⟨_, by conv => lhs; whnf⟩
noncomputable abbrev A13_13 : Arguments := qA13_13.1
noncomputable def qB13_13 : PSigma fun x : List Stmt => bo_ (sb (st 13) 13) = x := ⟨_, by conv => lhs; whnf⟩
noncomputable abbrev B13_13 : List Stmt := qB13_13.1
noncomputable def qC13_13 : PSigma fun x : Scope => sc_ (sb (st 13) 13) = x := ⟨_, by conv => lhs; whnf⟩
noncomputable abbrev C13_13 : Scope := qC13_13.1
noncomputable def qA13_14 : PSigma fun x : Arguments => as_ (sb (st 13) 14) = x := ⟨_, by conv => lhs; whnf⟩
noncomputable abbrev A13_14 : Arguments := qA13_14.1
noncomputable def qB13_14 : PSigma fun x : List Stmt => bo_ (sb (st 13) 14) = x := ⟨_, by conv => lhs; whnf⟩
noncomputable abbrev B13_14 : List Stmt := qB13_14.1
noncomputable def qC13_14 : PSigma fun x : Scope => sc_ (sb (st 13) 14) = x := ⟨_, by conv => lhs; whnf⟩
noncomputable abbrev C13_14 : Scope := qC13_14.1
noncomputable def qA13_15 : PSigma fun x : Arguments => as_ (sb (st 13) 15) = x := ⟨_, by conv => lhs; whnf⟩
noncomputable abbrev A13_15 : Arguments := qA13_15.1
noncomputable def qB13_15 : PSigma fun x : List Stmt => bo_ (sb (st 13) 15) = x := ⟨_, by conv => lhs; whnf⟩
noncomputable abbrev B13_15 : List Stmt := qB13_15.1
noncomputable def qC13_15 : PSigma fun x : Scope => sc_ (sb (st 13) 15) = x := ⟨_, by conv => lhs; whnf⟩
noncomputable abbrev C13_15 : Scope := qC13_15.1
noncomputable def A13_16 : Arguments := as_ (sb (st 13) 16)
noncomputable def B13_16 : List Stmt := bo_ (sb (st 13) 16)
noncomputable def C13_16 : Scope := sc_ (sb (st 13) 16)
noncomputable def qA15_0 : PSigma fun x : Arguments => as_ (sb (st 15) 0) = x := ⟨_, by conv => lhs; whnf⟩
noncomputable abbrev A15_0 : Arguments := qA15_0.1
noncomputable def qB15_0 : PSigma fun x : List Stmt => bo_ (sb (st 15) 0) = x := ⟨_, by conv => lhs; whnf⟩
noncomputable abbrev B15_0 : List Stmt := qB15_0.1
noncomputable def qC15_0 : PSigma fun x : Scope => sc_ (sb (st 15) 0) = x := ⟨_, by conv => lhs; whnf⟩
noncomputable abbrev C15_0 : Scope := qC15_0.1
noncomputable def A15_1 : Arguments := as_ (sb (st 15) 1)
noncomputable def B15_1 : List Stmt := bo_ (sb (st 15) 1)
noncomputable def C15_1 : Scope := sc_ (sb (st 15) 1)
noncomputable def A18 : Arguments := as_ (st 18)
noncomputable def B18 : List Stmt := bo_ (st 18)
noncomputable def C18 : Scope := sc_ (st 18)
noncomputable def qA28_0 : PSigma fun x : Arguments => as_ (sb (st 28) 0) = x := ⟨_, by conv => lhs; whnf⟩
noncomputable abbrev A28_0 : Arguments := qA28_0.1
noncomputable def qB28_0 : PSigma fun x : List Stmt => bo_ (sb (st 28) 0) = x := ⟨_, by conv => lhs; whnf⟩
noncomputable abbrev B28_0 : List Stmt := qB28_0.1
noncomputable def qC28_0 : PSigma fun x : Scope => sc_ (sb (st 28) 0) = x := ⟨_, by conv => lhs; whnf⟩
noncomputable abbrev C28_0 : Scope := qC28_0.1
noncomputable def A28_1 : Arguments := as_ (sb (st 28) 1)
noncomputable def B28_1 : List Stmt := bo_ (sb (st 28) 1)
noncomputable def C28_1 : Scope := sc_ (sb (st 28) 1)
noncomputable def A28_2 : Arguments := as_ (sb (st 28) 2)
noncomputable def B28_2 : List Stmt := bo_ (sb (st 28) 2)
noncomputable def C28_2 : Scope := sc_ (sb (st 28) 2)
noncomputable def A28_3 : Arguments := as_ (sb (st 28) 3)
noncomputable def B28_3 : List Stmt := bo_ (sb (st 28) 3)
noncomputable def C28_3 : Scope := sc_ (sb (st 28) 3)
noncomputable def A28_4 : Arguments := as_ (sb (st 28) 4)
noncomputable def B28_4 : List Stmt := bo_ (sb (st 28) 4)
noncomputable def C28_4 : Scope := sc_ (sb (st 28) 4)
noncomputable def A28_5 : Arguments := as_ (sb (st 28) 5)
noncomputable def B28_5 : List Stmt := bo_ (sb (st 28) 5)
noncomputable def C28_5 : Scope := sc_ (sb (st 28) 5)
noncomputable def A28_6 : Arguments := as_ (sb (st 28) 6)
noncomputable def B28_6 : List Stmt := bo_ (sb (st 28) 6)
noncomputable def C28_6 : Scope := sc_ (sb (st 28) 6)
noncomputable def A28_7 : Arguments := as_ (sb (st 28) 7)
noncomputable def B28_7 : List Stmt := bo_ (sb (st 28) 7)
noncomputable def C28_7 : Scope := sc_ (sb (st 28) 7)
noncomputable def A28_8 : Arguments := as_ (sb (st 28) 8)
noncomputable def B28_8 : List Stmt := bo_ (sb (st 28) 8)
noncomputable def C28_8 : Scope := sc_ (sb (st 28) 8)
noncomputable def A29 : Arguments := as_ (st 29)
noncomputable def B29 : List Stmt := bo_ (st 29)
noncomputable def C29 : Scope := sc_ (st 29)
noncomputable def A30 : Arguments := as_ (st 30)
noncomputable def B30 : List Stmt := bo_ (st 30)
noncomputable def C30 : Scope := sc_ (st 30)
noncomputable def A31 : Arguments := as_ (st 31)
noncomputable def B31 : List Stmt := bo_ (st 31)
noncomputable def C31 : Scope := sc_ (st 31)
noncomputable def A32 : Arguments := as_ (st 32)
noncomputable def B32 : List Stmt := bo_ (st 32)
noncomputable def C32 : Scope := sc_ (st 32)
noncomputable def A33 : Arguments := as_ (st 33)
noncomputable def B33 : List Stmt := bo_ (st 33)
noncomputable def C33 : Scope := sc_ (st 33)
noncomputable def qA39_0 : PSigma fun x : Arguments => as_ (sb (st 39) 0) = x := ⟨_, by conv => lhs; whnf⟩
noncomputable abbrev A39_0 : Arguments := qA39_0.1
noncomputable def qB39_0 : PSigma fun x : List Stmt => bo_ (sb (st 39) 0) = x := ⟨_, by conv => lhs; whnf⟩
noncomputable abbrev B39_0 : List Stmt := qB39_0.1
noncomputable def qC39_0 : PSigma fun x : Scope => sc_ (sb (st 39) 0) = x := ⟨_, by conv => lhs; whnf⟩
noncomputable abbrev C39_0 : Scope := qC39_0.1
noncomputable def A39_1 : Arguments := as_ (sb (st 39) 1)
noncomputable def B39_1 : List Stmt := bo_ (sb (st 39) 1)
noncomputable def C39_1 : Scope := sc_ (sb (st 39) 1)
noncomputable def A39_2 : Arguments := as_ (sb (st 39) 2)
noncomputable def B39_2 : List Stmt := bo_ (sb (st 39) 2)
noncomputable def C39_2 : Scope := sc_ (sb (st 39) 2)
noncomputable def A39_3 : Arguments := as_ (sb (st 39) 3)
noncomputable def B39_3 : List Stmt := bo_ (sb (st 39) 3)
noncomputable def C39_3 : Scope := sc_ (sb (st 39) 3)
noncomputable def A39_4 : Arguments := as_ (sb (st 39) 4)
noncomputable def B39_4 : List Stmt := bo_ (sb (st 39) 4)
noncomputable def C39_4 : Scope := sc_ (sb (st 39) 4)
noncomputable def A39_5 : Arguments := as_ (sb (st 39) 5)
noncomputable def B39_5 : List Stmt := bo_ (sb (st 39) 5)
noncomputable def C39_5 : Scope := sc_ (sb (st 39) 5)
noncomputable def qA40 : PSigma fun x : Arguments => as_ (st 40) = x := ⟨_, by conv => lhs; whnf⟩
noncomputable abbrev A40 : Arguments := qA40.1
noncomputable def qB40 : PSigma fun x : List Stmt => bo_ (st 40) = x := ⟨_, by conv => lhs; whnf⟩
noncomputable abbrev B40 : List Stmt := qB40.1
noncomputable def qC40 : PSigma fun x : Scope => sc_ (st 40) = x := ⟨_, by conv => lhs; whnf⟩
noncomputable abbrev C40 : Scope := qC40.1
noncomputable def qA41 : PSigma fun x : Arguments => as_ (st 41) = x := ⟨_, by conv => lhs; whnf⟩
noncomputable abbrev A41 : Arguments := qA41.1
noncomputable def qB41 : PSigma fun x : List Stmt => bo_ (st 41) = x := ⟨_, by conv => lhs; whnf⟩
noncomputable abbrev B41 : List Stmt := qB41.1
noncomputable def qC41 : PSigma fun x : Scope => sc_ (st 41) = x := ⟨_, by conv => lhs; whnf⟩
noncomputable abbrev C41 : Scope := qC41.1
noncomputable def qA42 : PSigma fun x : Arguments => as_ (st 42) = x := ⟨_, by conv => lhs; whnf⟩
noncomputable abbrev A42 : Arguments := qA42.1
noncomputable def qB42 : PSigma fun x : List Stmt => bo_ (st 42) = x := ⟨_, by conv => lhs; whnf⟩
noncomputable abbrev B42 : List Stmt := qB42.1
noncomputable def qC42 : PSigma fun x : Scope => sc_ (st 42) = x := ⟨_, by conv => lhs; whnf⟩
noncomputable abbrev C42 : Scope := qC42.1
noncomputable def qA46_0 : PSigma fun x : Arguments => as_ (sb (st 46) 0) = x := ⟨_, by conv => lhs; whnf⟩
noncomputable abbrev A46_0 : Arguments := qA46_0.1
noncomputable def qB46_0 : PSigma fun x : List Stmt => bo_ (sb (st 46) 0) = x := ⟨_, by conv => lhs; whnf⟩
noncomputable abbrev B46_0 : List Stmt := qB46_0.1
noncomputable def qC46_0 : PSigma fun x : Scope => sc_ (sb (st 46) 0) = x := ⟨_, by conv => lhs; whnf⟩
noncomputable abbrev C46_0 : Scope := qC46_0.1
noncomputable def qA46_1 : PSigma fun x : Arguments => as_ (sb (st 46) 1) = x := ⟨_, by conv => lhs; whnf⟩
noncomputable abbrev A46_1 : Arguments := qA46_1.1
noncomputable def qB46_1 : PSigma fun x : List Stmt => bo_ (sb (st 46) 1) = x := ⟨_, by conv => lhs; whnf⟩
noncomputable abbrev B46_1 : List Stmt := qB46_1.1
noncomputable def qC46_1 : PSigma fun x : Scope => sc_ (sb (st 46) 1) = x := ⟨_, by conv => lhs; whnf⟩
noncomputable abbrev C46_1 : Scope := qC46_1.1
noncomputable def qA46_2 : PSigma fun x : Arguments => as_ (sb (st 46) 2) = x := ⟨_, by conv => lhs; whnf⟩
noncomputable abbrev A46_2 : Arguments := qA46_2.1
noncomputable def qB46_2 : PSigma fun x : List Stmt => bo_ (sb (st 46) 2) = x := ⟨_, by conv => lhs; whnf⟩
noncomputable abbrev B46_2 : List Stmt := qB46_2.1
noncomputable def qC46_2 : PSigma fun x : Scope => sc_ (sb (st 46) 2) = x := ⟨_, by conv => lhs; whnf⟩
noncomputable abbrev C46_2 : Scope := qC46_2.1
noncomputable def qA46_3 : PSigma fun x : Arguments => as_ (sb (st 46) 3) = x := ⟨_, by conv => lhs; whnf⟩
noncomputable abbrev A46_3 : Arguments := qA46_3.1
noncomputable def qB46_3 : PSigma fun x : List Stmt => bo_ (sb (st 46) 3) = x := ⟨_, by conv => lhs; whnf⟩
noncomputable abbrev B46_3 : List Stmt := qB46_3.1
noncomputable def qC46_3 : PSigma fun x : Scope => sc_ (sb (st 46) 3) = x := ⟨_, by conv => lhs; whnf⟩
noncomputable abbrev C46_3 : Scope := qC46_3.1
noncomputable def qA46_4 : PSigma fun x : Arguments => as_ (sb (st 46) 4) = x := ⟨_, by conv => lhs; whnf⟩
noncomputable abbrev A46_4 : Arguments := qA46_4.1
noncomputable def qB46_4 : PSigma fun x : List Stmt => bo_ (sb (st 46) 4) = x := ⟨_, by conv => lhs; whnf⟩
noncomputable abbrev B46_4 : List Stmt := qB46_4.1
noncomputable def qC46_4 : PSigma fun x : Scope => sc_ (sb (st 46) 4) = x := ⟨_, by conv => lhs; whnf⟩
noncomputable abbrev C46_4 : Scope := qC46_4.1
noncomputable def A46_5 : Arguments := as_ (sb (st 46) 5)
noncomputable def B46_5 : List Stmt := bo_ (sb (st 46) 5)
noncomputable def C46_5 : Scope := sc_ (sb (st 46) 5)
noncomputable def A46_6 : Arguments := as_ (sb (st 46) 6)
noncomputable def B46_6 : List Stmt := bo_ (sb (st 46) 6)
noncomputable def C46_6 : Scope := sc_ (sb (st 46) 6)
noncomputable def A46_7 : Arguments := as_ (sb (st 46) 7)
noncomputable def B46_7 : List Stmt := bo_ (sb (st 46) 7)
noncomputable def C46_7 : Scope := sc_ (sb (st 46) 7)
noncomputable def A46_8 : Arguments := as_ (sb (st 46) 8)
noncomputable def B46_8 : List Stmt := bo_ (sb (st 46) 8)
noncomputable def C46_8 : Scope := sc_ (sb (st 46) 8)
noncomputable def A46_9 : Arguments := as_ (sb (st 46) 9)
noncomputable def B46_9 : List Stmt := bo_ (sb (st 46) 9)
noncomputable def C46_9 : Scope := sc_ (sb (st 46) 9)
noncomputable def A46_10 : Arguments := as_ (sb (st 46) 10)
noncomputable def B46_10 : List Stmt := bo_ (sb (st 46) 10)
noncomputable def C46_10 : Scope := sc_ (sb (st 46) 10)
noncomputable def A46_11 : Arguments := as_ (sb (st 46) 11)
noncomputable def B46_11 : List Stmt := bo_ (sb (st 46) 11)
noncomputable def C46_11 : Scope := sc_ (sb (st 46) 11)
noncomputable def qA47 : PSigma fun x : Arguments => as_ (st 47) = x := ⟨_, by conv => lhs; whnf⟩
noncomputable abbrev A47 : Arguments := qA47.1
noncomputable def qB47 : PSigma fun x : List Stmt => bo_ (st 47) = x := ⟨_, by conv => lhs; whnf⟩
noncomputable abbrev B47 : List Stmt := qB47.1
noncomputable def qC47 : PSigma fun x : Scope => sc_ (st 47) = x := ⟨_, by conv => lhs; whnf⟩
noncomputable abbrev C47 : Scope := qC47.1
noncomputable def qA49_0 : PSigma fun x : Arguments => as_ (sb (st 49) 0) = x := ⟨_, by conv => lhs; whnf⟩
noncomputable abbrev A49_0 : Arguments := qA49_0.1
noncomputable def qB49_0 : PSigma fun x : List Stmt => bo_ (sb (st 49) 0) = x := ⟨_, by conv => lhs; whnf⟩
noncomputable abbrev B49_0 : List Stmt := qB49_0.1
noncomputable def qC49_0 : PSigma fun x : Scope => sc_ (sb (st 49) 0) = x := ⟨_, by conv => lhs; whnf⟩
noncomputable abbrev C49_0 : Scope := qC49_0.1
noncomputable def qA49_1 : PSigma fun x : Arguments => as_ (sb (st 49) 1) = x := ⟨_, by conv => lhs; whnf⟩
noncomputable abbrev A49_1 : Arguments := qA49_1.1
noncomputable def qB49_1 : PSigma fun x : List Stmt => bo_ (sb (st 49) 1) = x := ⟨_, by conv => lhs; whnf⟩
noncomputable abbrev B49_1 : List Stmt := qB49_1.1
noncomputable def qC49_1 : PSigma fun x : Scope => sc_ (sb (st 49) 1) = x := ⟨_, by conv => lhs; whnf⟩
noncomputable abbrev C49_1 : Scope := qC49_1.1
noncomputable def qA49_2 : PSigma fun x : Arguments => as_ (sb (st 49) 2) = x := ⟨_, by conv => lhs; whnf⟩
noncomputable abbrev A49_2 : Arguments := qA49_2.1
noncomputable def qB49_2 : PSigma fun x : List Stmt => bo_ (sb (st 49) 2) = x := ⟨_, by conv => lhs; whnf⟩
noncomputable abbrev B49_2 : List Stmt := qB49_2.1
noncomputable def qC49_2 : PSigma fun x : Scope => sc_ (sb (st 49) 2) = x := ⟨_, by conv => lhs; whnf⟩
noncomputable abbrev C49_2 : Scope := qC49_2.1
noncomputable def qA49_3 : PSigma fun x : Arguments => as_ (sb (st 49) 3) = x := ⟨_, by conv => lhs; whnf⟩
noncomputable abbrev A49_3 : Arguments := qA49_3.1
noncomputable def qB49_3 : PSigma fun x : List Stmt => bo_ (sb (st 49) 3) = x := ⟨_, by conv => lhs; whnf⟩
noncomputable abbrev B49_3 : List Stmt := qB49_3.1
noncomputable def qC49_3 : PSigma fun x : Scope => sc_ (sb (st 49) 3) = x := ⟨_, by conv => lhs; whnf⟩
noncomputable abbrev C49_3 : Scope := qC49_3.1
noncomputable def A49_4 : Arguments := as_ (sb (st 49) 4)
noncomputable def B49_4 : List Stmt := bo_ (sb (st 49) 4)
noncomputable def C49_4 : Scope := sc_ (sb (st 49) 4)
noncomputable def A49_5 : Arguments := as_ (sb (st 49) 5)
noncomputable def B49_5 : List Stmt := bo_ (sb (st 49) 5)
noncomputable def C49_5 : Scope := sc_ (sb (st 49) 5)
noncomputable def A49_6 : Arguments := as_ (sb (st 49) 6)
noncomputable def B49_6 : List Stmt := bo_ (sb (st 49) 6)
noncomputable def C49_6 : Scope := sc_ (sb (st 49) 6)
noncomputable def qA49_7 : PSigma fun x : Arguments => as_ (sb (st 49) 7) = x := ⟨_, by conv => lhs; whnf⟩
noncomputable abbrev A49_7 : Arguments := qA49_7.1
noncomputable def qB49_7 : PSigma fun x : List Stmt => bo_ (sb (st 49) 7) = x := ⟨_, by conv => lhs; whnf⟩
noncomputable abbrev B49_7 : List Stmt := qB49_7.1
noncomputable def qC49_7 : PSigma fun x : Scope => sc_ (sb (st 49) 7) = x := ⟨_, by conv => lhs; whnf⟩
noncomputable abbrev C49_7 : Scope := qC49_7.1
noncomputable def qA49_8 : PSigma fun x : Arguments => as_ (sb (st 49) 8) = x := ⟨_, by conv => lhs; whnf⟩
noncomputable abbrev A49_8 : Arguments := qA49_8.1
noncomputable def qB49_8 : PSigma fun x : List Stmt => bo_ (sb (st 49) 8) = x := ⟨_, by conv => lhs; whnf⟩
noncomputable abbrev B49_8 : List Stmt := qB49_8.1
noncomputable def qC49_8 : PSigma fun x : Scope => sc_ (sb (st 49) 8) = x := ⟨_, by conv => lhs; whnf⟩
noncomputable abbrev C49_8 : Scope := qC49_8.1
noncomputable def qA49_9 : PSigma fun x : Arguments => as_ (sb (st 49) 9) = x := ⟨_, by conv => lhs; whnf⟩
noncomputable abbrev A49_9 : Arguments := qA49_9.1
noncomputable def qB49_9 : PSigma fun x : List Stmt => bo_ (sb (st 49) 9) = x := ⟨_, by conv => lhs; whnf⟩
noncomputable abbrev B49_9 : List Stmt := qB49_9.1
noncomputable def qC49_9 : PSigma fun x : Scope => sc_ (sb (st 49) 9) = x := ⟨_, by conv => lhs; whnf⟩
noncomputable abbrev C49_9 : Scope := qC49_9.1
noncomputable def qA49_10 : PSigma fun x : Arguments => as_ (sb (st 49) 10) = x := ⟨_, by conv => lhs; whnf⟩
noncomputable abbrev A49_10 : Arguments := qA49_10.1
noncomputable def qB49_10 : PSigma fun x : List Stmt => bo_ (sb (st 49) 10) = x := ⟨_, by conv => lhs; whnf⟩
noncomputable abbrev B49_10 : List Stmt := qB49_10.1
noncomputable def qC49_10 : PSigma fun x : Scope => sc_ (sb (st 49) 10) = x := ⟨_, by conv => lhs; whnf⟩
noncomputable abbrev C49_10 : Scope := qC49_10.1
noncomputable def qA49_11 : PSigma fun x : Arguments => as_ (sb (st 49) 11) = x := ⟨_, by conv => lhs; whnf⟩
noncomputable abbrev A49_11 : Arguments := qA49_11.1
noncomputable def qB49_11 : PSigma fun x : List Stmt => bo_ (sb (st 49) 11) = x := ⟨_, by conv => lhs; whnf⟩
noncomputable abbrev B49_11 : List Stmt := qB49_11.1
noncomputable def qC49_11 : PSigma fun x : Scope => sc_ (sb (st 49) 11) = x := ⟨_, by conv => lhs; whnf⟩
noncomputable abbrev C49_11 : Scope := qC49_11.1
noncomputable def A49_12 : Arguments := as_ (sb (st 49) 12)
noncomputable def B49_12 : List Stmt := bo_ (sb (st 49) 12)
noncomputable def C49_12 : Scope := sc_ (sb (st 49) 12)
noncomputable def A49_13 : Arguments := as_ (sb (st 49) 13)
noncomputable def B49_13 : List Stmt := bo_ (sb (st 49) 13)
noncomputable def C49_13 : Scope := sc_ (sb (st 49) 13)
noncomputable def qA50 : PSigma fun x : Arguments => as_ (st 50) = x := ⟨_, by conv => lhs; whnf⟩
noncomputable abbrev A50 : Arguments := qA50.1
noncomputable def qB50 : PSigma fun x : List Stmt => bo_ (st 50) = x := ⟨_, by conv => lhs; whnf⟩
noncomputable abbrev B50 : List Stmt := qB50.1
noncomputable def qC50 : PSigma fun x : Scope => sc_ (st 50) = x := ⟨_, by conv => lhs; whnf⟩
noncomputable abbrev C50 : Scope := qC50.1
noncomputable def qA51 : PSigma fun x : Arguments => as_ (st 51) = x := ⟨_, by conv => lhs; whnf⟩
noncomputable abbrev A51 : Arguments := qA51.1
noncomputable def qB51 : PSigma fun x : List Stmt => bo_ (st 51) = x := ⟨_, by conv => lhs; whnf⟩
noncomputable abbrev B51 : List Stmt := qB51.1
noncomputable def qC51 : PSigma fun x : Scope => sc_ (st 51) = x := ⟨_, by conv => lhs; whnf⟩
noncomputable abbrev C51 : Scope := qC51.1
noncomputable def qA52 : PSigma fun x : Arguments => as_ (st 52) = x := ⟨_, by conv => lhs; whnf⟩
noncomputable abbrev A52 : Arguments := qA52.1
noncomputable def qB52 : PSigma fun x : List Stmt => bo_ (st 52) = x := ⟨_, by conv => lhs; whnf⟩
noncomputable abbrev B52 : List Stmt := qB52.1
noncomputable def qC52 : PSigma fun x : Scope => sc_ (st 52) = x := ⟨_, by conv => lhs; whnf⟩
noncomputable abbrev C52 : Scope := qC52.1
noncomputable def qA53 : PSigma fun x : Arguments => as_ (st 53) = x := ⟨_, by conv => lhs; whnf⟩
noncomputable abbrev A53 : Arguments := qA53.1
noncomputable def qB53 : PSigma fun x : List Stmt => bo_ (st 53) = x := ⟨_, by conv => lhs; whnf⟩
noncomputable abbrev B53 : List Stmt := qB53.1
noncomputable def qC53 : PSigma fun x : Scope => sc_ (st 53) = x := ⟨_, by conv => lhs; whnf⟩
noncomputable abbrev C53 : Scope := qC53.1
noncomputable def qA55_0 : PSigma fun x : Arguments => as_ (sb (st 55) 0) = x := ⟨_, by conv => lhs; whnf⟩
noncomputable abbrev A55_0 : Arguments := qA55_0.1
noncomputable def qB55_0 : PSigma fun x : List Stmt => bo_ (sb (st 55) 0) = x := ⟨_, by conv => lhs; whnf⟩
noncomputable abbrev B55_0 : List Stmt := qB55_0.1
noncomputable def qC55_0 : PSigma fun x : Scope => sc_ (sb (st 55) 0) = x := ⟨_, by conv => lhs; whnf⟩
noncomputable abbrev C55_0 : Scope := qC55_0.1
noncomputable def A55_1 : Arguments := as_ (sb (st 55) 1)
noncomputable def B55_1 : List Stmt := bo_ (sb (st 55) 1)
noncomputable def C55_1 : Scope := sc_ (sb (st 55) 1)
noncomputable def A55_2 : Arguments := as_ (sb (st 55) 2)
noncomputable def B55_2 : List Stmt := bo_ (sb (st 55) 2)
noncomputable def C55_2 : Scope := sc_ (sb (st 55) 2)
noncomputable def A55_3 : Arguments := as_ (sb (st 55) 3)
noncomputable def B55_3 : List Stmt := bo_ (sb (st 55) 3)
noncomputable def C55_3 : Scope := sc_ (sb (st 55) 3)
noncomputable def qA56_0 : PSigma fun x : Arguments => as_ (sb (st 56) 0) = x := ⟨_, by conv => lhs; whnf⟩
noncomputable abbrev A56_0 : Arguments := qA56_0.1
noncomputable def qB56_0 : PSigma fun x : List Stmt => bo_ (sb (st 56) 0) = x := ⟨_, by conv => lhs; whnf⟩
noncomputable abbrev B56_0 : List Stmt := qB56_0.1
noncomputable def qC56_0 : PSigma fun x : Scope => sc_ (sb (st 56) 0) = x := ⟨_, by conv => lhs; whnf⟩
noncomputable abbrev C56_0 : Scope := qC56_0.1
noncomputable def A56_1 : Arguments := as_ (sb (st 56) 1)
noncomputable def B56_1 : List Stmt := bo_ (sb (st 56) 1)
noncomputable def C56_1 : Scope := sc_ (sb (st 56) 1)
noncomputable def A56_2 : Arguments := as_ (sb (st 56) 2)
noncomputable def B56_2 : List Stmt := bo_ (sb (st 56) 2)
noncomputable def C56_2 : Scope := sc_ (sb (st 56) 2)
noncomputable def qA57_0 : PSigma fun x : Arguments => as_ (sb (st 57) 0) = x := ⟨_, by conv => lhs; whnf⟩
noncomputable abbrev A57_0 : Arguments := qA57_0.1
noncomputable def qB57_0 : PSigma fun x : List Stmt => bo_ (sb (st 57) 0) = x := ⟨_, by conv => lhs; whnf⟩
noncomputable abbrev B57_0 : List Stmt := qB57_0.1
noncomputable def qC57_0 : PSigma fun x : Scope => sc_ (sb (st 57) 0) = x := ⟨_, by conv => lhs; whnf⟩
noncomputable abbrev C57_0 : Scope := qC57_0.1
noncomputable def A57_1 : Arguments := as_ (sb (st 57) 1)
noncomputable def B57_1 : List Stmt := bo_ (sb (st 57) 1)
noncomputable def C57_1 : Scope := sc_ (sb (st 57) 1)
noncomputable def A57_2 : Arguments := as_ (sb (st 57) 2)
noncomputable def B57_2 : List Stmt := bo_ (sb (st 57) 2)
noncomputable def C57_2 : Scope := sc_ (sb (st 57) 2)
noncomputable def A57_3 : Arguments := as_ (sb (st 57) 3)
noncomputable def B57_3 : List Stmt := bo_ (sb (st 57) 3)
noncomputable def C57_3 : Scope := sc_ (sb (st 57) 3)
noncomputable def qA58_0 : PSigma fun x : Arguments => as_ (sb (st 58) 0) = x := ⟨_, by conv => lhs; whnf⟩
noncomputable abbrev A58_0 : Arguments := qA58_0.1
noncomputable def qB58_0 : PSigma fun x : List Stmt => bo_ (sb (st 58) 0) = x := ⟨_, by conv => lhs; whnf⟩
noncomputable abbrev B58_0 : List Stmt := qB58_0.1
noncomputable def qC58_0 : PSigma fun x : Scope => sc_ (sb (st 58) 0) = x := ⟨_, by conv => lhs; whnf⟩
noncomputable abbrev C58_0 : Scope := qC58_0.1
noncomputable def A58_1 : Arguments := as_ (sb (st 58) 1)
noncomputable def B58_1 : List Stmt := bo_ (sb (st 58) 1)
noncomputable def C58_1 : Scope := sc_ (sb (st 58) 1)
noncomputable def A58_2 : Arguments := as_ (sb (st 58) 2)
noncomputable def B58_2 : List Stmt := bo_ (sb (st 58) 2)
noncomputable def C58_2 : Scope := sc_ (sb (st 58) 2)
noncomputable def A58_3 : Arguments := as_ (sb (st 58) 3)
noncomputable def B58_3 : List Stmt := bo_ (sb (st 58) 3)
noncomputable def C58_3 : Scope := sc_ (sb (st 58) 3)
noncomputable def A58_4 : Arguments := as_ (sb (st 58) 4)
noncomputable def B58_4 : List Stmt := bo_ (sb (st 58) 4)
noncomputable def C58_4 : Scope := sc_ (sb (st 58) 4)
noncomputable def A58_5 : Arguments := as_ (sb (st 58) 5)
noncomputable def B58_5 : List Stmt := bo_ (sb (st 58) 5)
noncomputable def C58_5 : Scope := sc_ (sb (st 58) 5)
noncomputable def A60 : Arguments := as_ (st 60)
noncomputable def B60 : List Stmt := bo_ (st 60)
noncomputable def C60 : Scope := sc_ (st 60)
noncomputable def A73 : Arguments := as_ (st 73)
noncomputable def B73 : List Stmt := bo_ (st 73)
noncomputable def C73 : Scope := sc_ (st 73)
noncomputable def qA74 : PSigma fun x : Arguments => as_ (st 74) = x := ⟨_, by conv => lhs; whnf⟩
noncomputable abbrev A74 : Arguments := qA74.1
noncomputable def qB74 : PSigma fun x : List Stmt => bo_ (st 74) = x := ⟨_, by conv => lhs; whnf⟩
noncomputable abbrev B74 : List Stmt := qB74.1
noncomputable def qC74 : PSigma fun x : Scope => sc_ (st 74) = x := ⟨_, by conv => lhs; whnf⟩
noncomputable abbrev C74 : Scope := qC74.1
noncomputable def qA75 : PSigma fun x : Arguments => as_ (st 75) = x := ⟨_, by conv => lhs; whnf⟩
noncomputable abbrev A75 : Arguments := qA75.1
noncomputable def qB75 : PSigma fun x : List Stmt => bo_ (st 75) = x := ⟨_, by conv => lhs; whnf⟩
noncomputable abbrev B75 : List Stmt := qB75.1
noncomputable def qC75 : PSigma fun x : Scope => sc_ (st 75) = x := ⟨_, by conv => lhs; whnf⟩
noncomputable abbrev C75 : Scope := qC75.1
noncomputable def qA76 : PSigma fun x : Arguments => as_ (st 76) = x := ⟨_, by conv => lhs; whnf⟩
noncomputable abbrev A76 : Arguments := qA76.1
noncomputable def qB76 : PSigma fun x : List Stmt => bo_ (st 76) = x := ⟨_, by conv => lhs; whnf⟩
noncomputable abbrev B76 : List Stmt := qB76.1
noncomputable def qC76 : PSigma fun x : Scope => sc_ (st 76) = x := ⟨_, by conv => lhs; whnf⟩
noncomputable abbrev C76 : Scope := qC76.1
noncomputable def qA77 : PSigma fun x : Arguments => as_ (st 77) = x := ⟨_, by conv => lhs; whnf⟩
noncomputable abbrev A77 : Arguments := qA77.1
noncomputable def qB77 : PSigma fun x : List Stmt => bo_ (st 77) = x := ⟨_, by conv => lhs; whnf⟩
noncomputable abbrev B77 : List Stmt := qB77.1
noncomputable def qC77 : PSigma fun x : Scope => sc_ (st 77) = x := ⟨_, by conv => lhs; whnf⟩
noncomputable abbrev C77 : Scope := qC77.1
noncomputable def qA78 : PSigma fun x : Arguments => as_ (st 78) = x := ⟨_, by conv => lhs; whnf⟩
noncomputable abbrev A78 : Arguments := qA78.1
noncomputable def qB78 : PSigma fun x : List Stmt => bo_ (st 78) = x := ⟨_, by conv => lhs; whnf⟩
noncomputable abbrev B78 : List Stmt := qB78.1
noncomputable def qC78 : PSigma fun x : Scope => sc_ (st 78) = x := ⟨_, by conv => lhs; whnf⟩
noncomputable abbrev C78 : Scope := qC78.1
noncomputable def A79 : Arguments := as_ (st 79)
noncomputable def B79 : List Stmt := bo_ (st 79)
noncomputable def C79 : Scope := sc_ (st 79)
noncomputable def A80 : Arguments := as_ (st 80)
noncomputable def B80 : List Stmt := bo_ (st 80)
noncomputable def C80 : Scope := sc_ (st 80)
noncomputable def qA81 : PSigma fun x : Arguments => as_ (st 81) = x := ⟨_, by conv => lhs; whnf⟩
noncomputable abbrev A81 : Arguments := qA81.1
noncomputable def qB81 : PSigma fun x : List Stmt => bo_ (st 81) = x := ⟨_, by conv => lhs; whnf⟩
noncomputable abbrev B81 : List Stmt := qB81.1
noncomputable def qC81 : PSigma fun x : Scope => sc_ (st 81) = x := ⟨_, by conv => lhs; whnf⟩
noncomputable abbrev C81 : Scope := qC81.1
noncomputable def A82 : Arguments := as_ (st 82)
noncomputable def B82 : List Stmt := bo_ (st 82)
noncomputable def C82 : Scope := sc_ (st 82)
noncomputable def A83 : Arguments := as_ (st 83)
noncomputable def B83 : List Stmt := bo_ (st 83)
noncomputable def C83 : Scope := sc_ (st 83)
noncomputable def A84 : Arguments := as_ (st 84)
noncomputable def B84 : List Stmt := bo_ (st 84)
noncomputable def C84 : Scope := sc_ (st 84)
noncomputable def qA85 : PSigma fun x : Arguments => as_ (st 85) = x := ⟨_, by conv => lhs; whnf⟩
noncomputable abbrev A85 : Arguments := qA85.1
noncomputable def qB85 : PSigma fun x : List Stmt => bo_ (st 85) = x := ⟨_, by conv => lhs; whnf⟩
noncomputable abbrev B85 : List Stmt := qB85.1
noncomputable def qC85 : PSigma fun x : Scope => sc_ (st 85) = x := ⟨_, by conv => lhs; whnf⟩
noncomputable abbrev C85 : Scope := qC85.1
noncomputable def A86 : Arguments := as_ (st 86)
noncomputable def B86 : List Stmt := bo_ (st 86)
noncomputable def C86 : Scope := sc_ (st 86)
noncomputable def A87 : Arguments := as_ (st 87)
noncomputable def B87 : List Stmt := bo_ (st 87)
noncomputable def C87 : Scope := sc_ (st 87)
noncomputable def A88 : Arguments := as_ (st 88)
noncomputable def B88 : List Stmt := bo_ (st 88)
noncomputable def C88 : Scope := sc_ (st 88)
noncomputable def A89 : Arguments := as_ (st 89)
noncomputable def B89 : List Stmt := bo_ (st 89)
noncomputable def C89 : Scope := sc_ (st 89)
noncomputable def A90 : Arguments := as_ (st 90)
noncomputable def B90 : List Stmt := bo_ (st 90)
noncomputable def C90 : Scope := sc_ (st 90)
noncomputable def A91 : Arguments := as_ (st 91)
noncomputable def B91 : List Stmt := bo_ (st 91)
noncomputable def C91 : Scope := sc_ (st 91)
noncomputable def A92 : Arguments := as_ (st 92)
noncomputable def B92 : List Stmt := bo_ (st 92)
noncomputable def C92 : Scope := sc_ (st 92)
noncomputable def A94 : Arguments := as_ (st 94)
noncomputable def B94 : List Stmt := bo_ (st 94)
noncomputable def C94 : Scope := sc_ (st 94)
noncomputable def A95 : Arguments := as_ (st 95)
noncomputable def B95 : List Stmt := bo_ (st 95)
noncomputable def C95 : Scope := sc_ (st 95)
noncomputable def A96 : Arguments := as_ (st 96)
noncomputable def B96 : List Stmt := bo_ (st 96)
noncomputable def C96 : Scope := sc_ (st 96)
noncomputable def A97 : Arguments := as_ (st 97)
noncomputable def B97 : List Stmt := bo_ (st 97)
noncomputable def C97 : Scope := sc_ (st 97)
noncomputable def A98 : Arguments := as_ (st 98)
noncomputable def B98 : List Stmt := bo_ (st 98)
noncomputable def C98 : Scope := sc_ (st 98)
noncomputable def qA99 : PSigma fun x : Arguments => as_ (st 99) = x := ⟨_, by conv => lhs; whnf⟩
noncomputable abbrev A99 : Arguments := qA99.1
noncomputable def qB99 : PSigma fun x : List Stmt => bo_ (st 99) = x := ⟨_, by conv => lhs; whnf⟩
noncomputable abbrev B99 : List Stmt := qB99.1
noncomputable def qC99 : PSigma fun x : Scope => sc_ (st 99) = x := ⟨_, by conv => lhs; whnf⟩
noncomputable abbrev C99 : Scope := qC99.1
noncomputable def qA100 : PSigma fun x : Arguments => as_ (st 100) = x := ⟨_, by conv => lhs; whnf⟩
noncomputable abbrev A100 : Arguments := qA100.1
noncomputable def qB100 : PSigma fun x : List Stmt => bo_ (st 100) = x := ⟨_, by conv => lhs; whnf⟩
noncomputable abbrev B100 : List Stmt := qB100.1
noncomputable def qC100 : PSigma fun x : Scope => sc_ (st 100) = x := ⟨_, by conv => lhs; whnf⟩
noncomputable abbrev C100 : Scope := qC100.1
noncomputable def qA103 : PSigma fun x : Arguments => as_ (st 103) = x := ⟨_, by conv => lhs; whnf⟩
noncomputable abbrev A103 : Arguments := qA103.1
noncomputable def qB103 : PSigma fun x : List Stmt => bo_ (st 103) = x := ⟨_, by conv => lhs; whnf⟩
noncomputable abbrev B103 : List Stmt := qB103.1
noncomputable def qC103 : PSigma fun x : Scope => sc_ (st 103) = x := ⟨_, by conv => lhs; whnf⟩
noncomputable abbrev C103 : Scope := qC103.1
noncomputable def qA104 : PSigma fun x : Arguments => as_ (st 104) = x := ⟨_, by conv => lhs; whnf⟩
noncomputable abbrev A104 : Arguments := qA104.1
noncomputable def qB104 : PSigma fun x : List Stmt => bo_ (st 104) = x := ⟨_, by conv => lhs; whnf⟩
noncomputable abbrev B104 : List Stmt := qB104.1
noncomputable def qC104 : PSigma fun x : Scope => sc_ (st 104) = x := ⟨_, by conv => lhs; whnf⟩
noncomputable abbrev C104 : Scope := qC104.1
noncomputable def qA105 : PSigma fun x : Arguments => as_ (st 105) = x := ⟨_, by conv => lhs; whnf⟩
noncomputable abbrev A105 : Arguments := qA105.1
noncomputable def qB105 : PSigma fun x : List Stmt => bo_ (st 105) = x := ⟨_, by conv => lhs; whnf⟩
noncomputable abbrev B105 : List Stmt := qB105.1
noncomputable def qC105 : PSigma fun x : Scope => sc_ (st 105) = x := ⟨_, by conv => lhs; whnf⟩
noncomputable abbrev C105 : Scope := qC105.1
noncomputable def qA106 : PSigma fun x : Arguments => as_ (st 106) = x := ⟨_, by conv => lhs; whnf⟩
noncomputable abbrev A106 : Arguments := qA106.1
noncomputable def qB106 : PSigma fun x : List Stmt => bo_ (st 106) = x := ⟨_, by conv => lhs; whnf⟩
noncomputable abbrev B106 : List Stmt := qB106.1
noncomputable def qC106 : PSigma fun x : Scope => sc_ (st 106) = x := ⟨_, by conv => lhs; whnf⟩
noncomputable abbrev C106 : Scope := qC106.1
noncomputable def qA107 : PSigma fun x : Arguments => as_ (st 107) = x := ⟨_, by conv => lhs; whnf⟩
noncomputable abbrev A107 : Arguments := qA107.1
noncomputable def qB107 : PSigma fun x : List Stmt => bo_ (st 107) = x := ⟨_, by conv => lhs; whnf⟩
noncomputable abbrev B107 : List Stmt := qB107.1
noncomputable def qC107 : PSigma fun x : Scope => sc_ (st 107) = x := ⟨_, by conv => lhs; whnf⟩
noncomputable abbrev C107 : Scope := qC107.1
noncomputable def qA108 : PSigma fun x : Arguments => as_ (st 108) = x := ⟨_, by conv => lhs; whnf⟩
noncomputable abbrev A108 : Arguments := qA108.1
noncomputable def qB108 : PSigma fun x : List Stmt => bo_ (st 108) = x := ⟨_, by conv => lhs; whnf⟩
noncomputable abbrev B108 : List Stmt := qB108.1
noncomputable def qC108 : PSigma fun x : Scope => sc_ (st 108) = x := ⟨_, by conv => lhs; whnf⟩
noncomputable abbrev C108 : Scope := qC108.1
noncomputable def qA109 : PSigma fun x : Arguments => as_ (st 109) = x := ⟨_, by conv => lhs; whnf⟩
noncomputable abbrev A109 : Arguments := qA109.1
noncomputable def qB109 : PSigma fun x : List Stmt => bo_ (st 109) = x := ⟨_, by conv => lhs; whnf⟩
noncomputable abbrev B109 : List Stmt := qB109.1
noncomputable def qC109 : PSigma fun x : Scope => sc_ (st 109) = x := ⟨_, by conv => lhs; whnf⟩
noncomputable abbrev C109 : Scope := qC109.1
noncomputable def qA110 : PSigma fun x : Arguments => as_ (st 110) = x := ⟨_, by conv => lhs; whnf⟩
noncomputable abbrev A110 : Arguments := qA110.1
noncomputable def qB110 : PSigma fun x : List Stmt => bo_ (st 110) = x := ⟨_, by conv => lhs; whnf⟩
noncomputable abbrev B110 : List Stmt := qB110.1
noncomputable def qC110 : PSigma fun x : Scope => sc_ (st 110) = x := ⟨_, by conv => lhs; whnf⟩
noncomputable abbrev C110 : Scope := qC110.1
noncomputable def qA111 : PSigma fun x : Arguments => as_ (st 111) = x := ⟨_, by conv => lhs; whnf⟩
noncomputable abbrev A111 : Arguments := qA111.1
noncomputable def qB111 : PSigma fun x : List Stmt => bo_ (st 111) = x := ⟨_, by conv => lhs; whnf⟩
noncomputable abbrev B111 : List Stmt := qB111.1
noncomputable def qC111 : PSigma fun x : Scope => sc_ (st 111) = x := ⟨_, by conv => lhs; whnf⟩
noncomputable abbrev C111 : Scope := qC111.1
noncomputable def o2 (P : Params) : Obj := { cls := .none, data := .dict #[e P "type.__subclasses__.Exception.0" 230 (i 46 0), e P "type.__subclasses__.Exception.n" 231 (i 1 0)] 2 }
noncomputable def o3 (P : Params) : Obj := d [e P "__name__" 165 (t "law_pb0437_01" 1656), e P "__doc__" 166 .none, e P "__package__" 167 .none, e P "__loader__" 168 (.builtin "__main__.__loader__#opaque"), e P "__spec__" 169 .none, e P "__annotations__" 170 (r 6), e P "__builtins__" 171 (r 4), e P "__file__" 173 (t "/claim/cut.py" 172), e P "__cached__" 174 .none, e P "_wall" 193 (r 21), e P "MintError" 233 (r 46), e P "OperandError" 249 (r 59), e P "MachineError" 265 (r 71), e P "mask" 272 (r 80), e P "wrap" 280 (r 87), e P "bit" 288 (r 94), e P "ones" 298 (r 101), e P "parity" 305 (r 108), e P "STACK_debug" 309 (i 4 308), e P "FRAME" 311 (i 5 310), e P "Debugger" 489 (r 234), e P "Decoded" 533 (r 262), e P "CONDITIONS" 537 (t "o no b ae e ne be a s ns p np l ge le g" 536), e P "condition_names" 543 (r 273), e P "CF" 547 (i 0 546), e P "PF" 549 (i 2 548), e P "AF" 551 (i 4 550), e P "ZF" 553 (i 6 552), e P "SF" 555 (i 7 554), e P "DF" 557 (i 10 556), e P "OF" 559 (i 11 558), e P "FLAG_NAMES" 561 (t "cf pf af zf sf of df" 560), e P "Flags" 662 (r 346), e P "condition_number" 669 (r 357), e P "holds_number" 679 (r 364), e P "holds" 687 (r 371), e P "szp" 697 (r 378), e P "sub_flags" 712 (r 385), e P "NAMES_8" 716 (t "al cl dl bl spl bpl sil dil" 715), e P "NAMES_16" 718 (t "ax cx dx bx sp bp si di" 717), e P "NAMES_32" 720 (t "eax ecx edx ebx esp ebp esi edi" 719), e P "NAMES_64" 722 (t "rax rcx rdx rbx rsp rbp rsi rdi" 721), e P "Register" 792 (r 437), e P "early_names" 799 (r 448), e P "late_ending" 806 (r 455), e P "gpr" 815 (r 462), e P "STACK_machine" 819 (i 4 818), e P "TRAPS" 821 (t "ud2 int int3 syscall cpuid" 820), e P "Memory" 945 (r 552), e P "joined" 954 (r 1017), e P "joined_machine" 955 (r 563), e P "State" 1108 (r 669), e P "done" 1118 (r 680), e P "proceed" 1128 (r 687), e P "need_running" 1135 (r 694), e P "step_row" 1145 (r 701), e P "Operand" 1197 (r 739), e P "Reg" 1236 (r 774), e P "Rel" 1286 (r 815), e P "Instruction" 1359 (r 868), e P "string_stem" 1369 (r 879), e P "RAX" 1373 (i 0 1372), e P "RCX" 1375 (i 1 1374), e P "RSP" 1377 (i 4 1376), e P "RBP" 1379 (i 5 1378), e P "RSI" 1381 (i 6 1380), e P "RDI" 1383 (i 7 1382), e P "ALL_LANES" 1389 (i 340282366920938463463374607431768211455 1388), e P "LETTERS" 1391 (t "bwdq" 1390), e P "WHOLE_MOVES" 1393 (t "movaps movups movdqa movdqu" 1392), e P "ALIGNED_MOVES" 1395 (t "movaps movdqa" 1394), e P "BIT_NAMES" 1397 (t "pxor por pand pandn xorps orps andps" 1396), e P "exchange" 1409 (r 886), e P "move_deed" 1421 (r 893), e P "push_operand" 1431 (r 900), e P "pop_operand" 1442 (r 907), e P "stack_deed" 1451 (r 914), e P "target_of" 1459 (r 921), e P "count_down" 1466 (r 928), e P "is_taken" 1474 (r 935), e P "jump_deed" 1484 (r 942), e P "go_on" 1494 (r 949), e P "string_round" 1506 (r 956), e P "is_last" 1515 (r 963), e P "string_deed" 1526 (r 970), e P "is_xmm" 1533 (r 977), e P "need_aligned" 1541 (r 984), e P "whole_move" 1551 (r 991), e P "part_size" 1558 (r 998), e P "part_move" 1570 (r 1005), e P "lanes" 1576 (r 1010), e P "joined_transfers" 1587 (r 1017), e P "lane_size" 1597 (r 1024), e P "lane_worth" 1607 (r 1031), e P "lane_result" 1613 (r 1036), e P "bit_result" 1622 (r 1043), e P "vector_move" 1633 (r 1050), e P "vector_deed" 1647 (r 1057), e P "transfer_deed" 1655 (r 1064), e P "_law_above" 1659 (i 1193046 1658), e P "_law_pull" 1667 (r 1071), e P "_law_below" 1675 (r 1078), e P "_law_bodies" 1687 (r 1085), e P "_law_begins" 1696 (r 1092), e P "_law_program" 1712 (r 1099), e P "_law_nest" 1729 (r 1106), e P "_law_stands" 1735 (r 1111), e P "_law_behind" 1745 (r 1118), e P "law" 1768 (r 1125)] 109
noncomputable def o11 (P : Params) : Obj := u []
noncomputable def o12 (P : Params) : Obj := f [(i 1 0), (i 0 0), (r 20), (i 5 0), (i 0 0), (r 27), (i 16 0), (i 0 0), (r 55), (i 18 0), (i 0 0), (r 67), (i 20 0), (i 0 0), (r 79), (i 22 0), (i 0 0), (r 86), (i 24 0), (i 0 0), (r 93), (i 26 0), (i 0 0), (r 100), (i 33 0), (i 0 0), (r 107), (i 38 0), (i 0 0), (r 114), (i 135 0), (i 0 0), (r 244), (i 147 0), (i 0 0), (r 272), (i 158 0), (i 0 0), (r 279), (i 209 0), (i 0 0), (r 356), (i 213 0), (i 0 0), (r 363), (i 232 0), (i 0 0), (r 370), (i 234 0), (i 0 0), (r 377), (i 240 0), (i 0 0), (r 384), (i 253 0), (i 0 0), (r 391), (i 275 0), (i 0 0), (r 447), (i 285 0), (i 0 0), (r 454), (i 293 0), (i 0 0), (r 461), (i 303 0), (i 0 0), (r 468), (i 351 0), (i 0 0), (r 562), (i 356 0), (i 0 0), (r 569), (i 461 0), (i 0 0), (r 679), (i 471 0), (i 0 0), (r 686), (i 479 0), (i 0 0), (r 693), (i 482 0), (i 0 0), (r 700), (i 490 0), (i 0 0), (r 707), (i 503 0), (i 0 0), (r 749), (i 514 0), (i 0 0), (r 782), (i 529 0), (i 0 0), (r 823), (i 555 0), (i 0 0), (r 878), (i 573 0), (i 0 0), (r 885), (i 580 0), (i 0 0), (r 892), (i 596 0), (i 0 0), (r 899), (i 600 0), (i 0 0), (r 906), (i 605 0), (i 0 0), (r 913), (i 621 0), (i 0 0), (r 920), (i 627 0), (i 0 0), (r 927), (i 630 0), (i 0 0), (r 934), (i 642 0), (i 0 0), (r 941), (i 659 0), (i 0 0), (r 948), (i 662 0), (i 0 0), (r 955), (i 683 0), (i 0 0), (r 962), (i 689 0), (i 0 0), (r 969), (i 704 0), (i 0 0), (r 976), (i 706 0), (i 0 0), (r 983), (i 709 0), (i 0 0), (r 990), (i 714 0), (i 0 0), (r 997), (i 720 0), (i 0 0), (r 1004), (i 726 0), (i 0 0), (r 1009), (i 728 0), (i 0 0), (r 1016), (i 734 0), (i 0 0), (r 1023), (i 739 0), (i 0 0), (r 1030), (i 745 0), (i 0 0), (r 1035), (i 749 0), (i 0 0), (r 1042), (i 757 0), (i 0 0), (r 1049), (i 766 0), (i 0 0), (r 1056), (i 784 0), (i 0 0), (r 1063), (i 792 0), (i 0 0), (r 1070), (i 798 0), (i 0 0), (r 1077), (i 800 0), (i 0 0), (r 1084), (i 812 0), (i 0 0), (r 1091), (i 814 0), (i 0 0), (r 1098), (i 828 0), (i 0 0), (r 1105), (i 838 0), (i 0 0), (r 1110), (i 845 0), (i 0 0), (r 1117), (i 850 0), (i 0 0), (r 1124)]
noncomputable def o13 (P : Params) : Obj := { cls := (.type "code"), data := .fields #[(t "<module>" 182), (t "<module>" 183), (t "/claim/cut.py" 184), (i 1 0), (i 0 0), (i 0 0), (i 0 0), (i 0 0), (r 11), (.bool false), (i 181 0), (r 12), .none, .none, .none, .none, (i 185 0), (i 1 0), (t "/claim/cut.py" 186)] }
noncomputable def o14 (P : Params) : Obj := { cls := (.type "frame"), data := .plain, slots := #[(some (r 13)), (some (r 3)), (some (r 3)), none, (some (t "__main__" 164)), none, (some (r 0))] }
noncomputable def o15 (P : Params) : Obj := u []
noncomputable def o16 (P : Params) : Obj := f []
noncomputable def o17 (P : Params) : Obj := u [(t "k" 190)]
noncomputable def o18 (P : Params) : Obj := u []
noncomputable def o19 (P : Params) : Obj := h "_wall" "_wall" A0 B0 C0
noncomputable def o20 (P : Params) : Obj := c "_wall" "_wall" 187 1 1 0 0 3 15 true 191 192
noncomputable def o21 (P : Params) : Obj := g "_wall" "_wall" A0 B0 C0 .none (t "__main__" 164) (r 20)
noncomputable def o22 (P : Params) : Obj := u [(.type "Exception")]
noncomputable def o23 (P : Params) : Obj := k "builtin_function_or_method" [(.builtin "type.__prepare__"), (.type "type")]
noncomputable def o24 (P : Params) : Obj := d [e P "__module__" 203 (t "octetmint.basics" 194), e P "__qualname__" 205 (t "MintError" 204), e P "__firstlineno__" 207 (i 5 206), e P "__init__" 216 (r 36), e P "told" 223 (r 43), e P "__static_attributes__" 226 (r 44)] 6
noncomputable def o25 (P : Params) : Obj := u []
noncomputable def o26 (P : Params) : Obj := f [(i 7 0), (i 4 0), (r 35), (i 12 0), (i 4 0), (r 42)]
noncomputable def o27 (P : Params) : Obj := { cls := (.type "code"), data := .fields #[(t "MintError" 198), (t "MintError" 199), (t "/claim/cut.py" 200), (i 5 0), (i 0 0), (i 0 0), (i 0 0), (i 0 0), (r 25), (.bool false), (i 181 0), (r 26), .none, .none, .none, .none, (i 201 0), (i 5 0), (t "/claim/cut.py" 202)] }
noncomputable def o28 (P : Params) : Obj := { cls := (.type "frame"), data := .plain, slots := #[(some (r 27)), (some (r 3)), (some (r 24)), none, (some (t "octetmint.basics" 194)), none, (some (r 0))] }
noncomputable def o29 (P : Params) : Obj := u [.none]
noncomputable def o30 (P : Params) : Obj := u []
noncomputable def o31 (P : Params) : Obj := f []
noncomputable def o32 (P : Params) : Obj := u [(t "self" 211), (t "what" 212), (t "at" 213)]
noncomputable def o33 (P : Params) : Obj := u []
noncomputable def o34 (P : Params) : Obj := h "__init__" "MintError.__init__" A2_0 B2_0 C2_0
noncomputable def o35 (P : Params) : Obj := c "__init__" "MintError.__init__" 208 7 3 0 0 3 30 true 214 215
noncomputable def o36 (P : Params) : Obj := g "__init__" "MintError.__init__" A2_0 B2_0 C2_0 (r 29) (t "octetmint.basics" 194) (r 35)
noncomputable def o37 (P : Params) : Obj := u []
noncomputable def o38 (P : Params) : Obj := f []
noncomputable def o39 (P : Params) : Obj := u [(t "self" 220)]
noncomputable def o40 (P : Params) : Obj := u []
noncomputable def o41 (P : Params) : Obj := h "told" "MintError.told" A2_1 B2_1 C2_1
noncomputable def o42 (P : Params) : Obj := c "told" "MintError.told" 217 12 1 0 0 3 37 true 221 222
noncomputable def o43 (P : Params) : Obj := g "told" "MintError.told" A2_1 B2_1 C2_1 .none (t "octetmint.basics" 194) (r 42)
noncomputable def o44 (P : Params) : Obj := u [(t "at" 224), (t "what" 225)]
noncomputable def o45 (P : Params) : Obj := d [e P "__module__" 203 (t "octetmint.basics" 194), e P "__firstlineno__" 207 (i 5 206), e P "__init__" 216 (r 36), e P "told" 223 (r 43), e P "__static_attributes__" 226 (r 44), e P "__weakref__" 228 (r 47), e P "__doc__" 229 .none] 3
noncomputable def o46 (P : Params) : Obj := { cls := (.type "type"), data := .cls { name := s "MintError", bases := [(.type "Exception")], mro := [(r 46), (.type "Exception"), (.type "BaseException"), (.type "object")], ns := 45, qualname := s "MintError", subclasses := [(r 59), (r 71)] }, slots := #[(some (r 22)), none, (some (t "MintError" 196)), (some (t "MintError" 204)), (some (.builtin "Exception.__new__")), (some (.bool true))] }
noncomputable def o47 (P : Params) : Obj := k "getset_descriptor" [(t "__weakref__" 227), (r 46), (.builtin "ExceptionGroup.__weakref__"), .none]
noncomputable def o48 (P : Params) : Obj := k "super" [(r 46), (r 46), (r 46)]
noncomputable def o49 (P : Params) : Obj := k "builtin_function_or_method" [(.builtin "object.__init_subclass__"), (r 46)]
noncomputable def o50 (P : Params) : Obj := u [(r 46)]
noncomputable def o51 (P : Params) : Obj := k "builtin_function_or_method" [(.builtin "type.__prepare__"), (.type "type")]
noncomputable def o52 (P : Params) : Obj := d [e P "__module__" 241 (t "octetmint.basics" 194), e P "__qualname__" 243 (t "OperandError" 242), e P "__firstlineno__" 245 (i 16 244), e P "__static_attributes__" 246 (r 57)] 4
noncomputable def o53 (P : Params) : Obj := u []
noncomputable def o54 (P : Params) : Obj := f []
noncomputable def o55 (P : Params) : Obj := { cls := (.type "code"), data := .fields #[(t "OperandError" 236), (t "OperandError" 237), (t "/claim/cut.py" 238), (i 16 0), (i 0 0), (i 0 0), (i 0 0), (i 0 0), (r 53), (.bool false), (i 181 0), (r 54), .none, .none, .none, .none, (i 239 0), (i 16 0), (t "/claim/cut.py" 240)] }
noncomputable def o56 (P : Params) : Obj := { cls := (.type "frame"), data := .plain, slots := #[(some (r 55)), (some (r 3)), (some (r 52)), none, (some (t "octetmint.basics" 194)), none, (some (r 0))] }
noncomputable def o57 (P : Params) : Obj := u []
noncomputable def o58 (P : Params) : Obj := d [e P "__module__" 241 (t "octetmint.basics" 194), e P "__firstlineno__" 245 (i 16 244), e P "__static_attributes__" 246 (r 57), e P "__doc__" 247 .none] 2
noncomputable def o59 (P : Params) : Obj := { cls := (.type "type"), data := .cls { name := s "OperandError", bases := [(r 46)], mro := [(r 59), (r 46), (.type "Exception"), (.type "BaseException"), (.type "object")], ns := 58, qualname := s "OperandError" }, slots := #[(some (r 50)), none, (some (t "OperandError" 234)), (some (t "OperandError" 242)), (some (.builtin "Exception.__new__")), (some (.bool true))] }
noncomputable def o60 (P : Params) : Obj := k "super" [(r 59), (r 59), (r 59)]
noncomputable def o61 (P : Params) : Obj := k "builtin_function_or_method" [(.builtin "object.__init_subclass__"), (r 59)]
noncomputable def o62 (P : Params) : Obj := u [(r 46)]
noncomputable def o63 (P : Params) : Obj := k "builtin_function_or_method" [(.builtin "type.__prepare__"), (.type "type")]
noncomputable def o64 (P : Params) : Obj := d [e P "__module__" 257 (t "octetmint.basics" 194), e P "__qualname__" 259 (t "MachineError" 258), e P "__firstlineno__" 261 (i 18 260), e P "__static_attributes__" 262 (r 69)] 4
noncomputable def o65 (P : Params) : Obj := u []
noncomputable def o66 (P : Params) : Obj := f []
noncomputable def o67 (P : Params) : Obj := { cls := (.type "code"), data := .fields #[(t "MachineError" 252), (t "MachineError" 253), (t "/claim/cut.py" 254), (i 18 0), (i 0 0), (i 0 0), (i 0 0), (i 0 0), (r 65), (.bool false), (i 181 0), (r 66), .none, .none, .none, .none, (i 255 0), (i 18 0), (t "/claim/cut.py" 256)] }
noncomputable def o68 (P : Params) : Obj := { cls := (.type "frame"), data := .plain, slots := #[(some (r 67)), (some (r 3)), (some (r 64)), none, (some (t "octetmint.basics" 194)), none, (some (r 0))] }
noncomputable def o69 (P : Params) : Obj := u []
noncomputable def o70 (P : Params) : Obj := d [e P "__module__" 257 (t "octetmint.basics" 194), e P "__firstlineno__" 261 (i 18 260), e P "__static_attributes__" 262 (r 69), e P "__doc__" 263 .none] 2
noncomputable def o71 (P : Params) : Obj := { cls := (.type "type"), data := .cls { name := s "MachineError", bases := [(r 46)], mro := [(r 71), (r 46), (.type "Exception"), (.type "BaseException"), (.type "object")], ns := 70, qualname := s "MachineError" }, slots := #[(some (r 62)), none, (some (t "MachineError" 250)), (some (t "MachineError" 258)), (some (.builtin "Exception.__new__")), (some (.bool true))] }
noncomputable def o72 (P : Params) : Obj := k "super" [(r 71), (r 71), (r 71)]
noncomputable def o73 (P : Params) : Obj := k "builtin_function_or_method" [(.builtin "object.__init_subclass__"), (r 71)]
noncomputable def o74 (P : Params) : Obj := u []
noncomputable def o75 (P : Params) : Obj := f []
noncomputable def o76 (P : Params) : Obj := u [(t "size" 269)]
noncomputable def o77 (P : Params) : Obj := u []
noncomputable def o78 (P : Params) : Obj := h "mask" "mask" A5 B5 C5
noncomputable def o79 (P : Params) : Obj := c "mask" "mask" 266 20 1 0 0 3 74 true 270 271
noncomputable def o80 (P : Params) : Obj := g "mask" "mask" A5 B5 C5 .none (t "octetmint.basics" 194) (r 79)
noncomputable def o81 (P : Params) : Obj := u []
noncomputable def o82 (P : Params) : Obj := f []
noncomputable def o83 (P : Params) : Obj := u [(t "worth" 276), (t "size" 277)]
noncomputable def o84 (P : Params) : Obj := u []
noncomputable def o85 (P : Params) : Obj := h "wrap" "wrap" A6 B6 C6
noncomputable def o86 (P : Params) : Obj := c "wrap" "wrap" 273 22 2 0 0 3 81 true 278 279
noncomputable def o87 (P : Params) : Obj := g "wrap" "wrap" A6 B6 C6 .none (t "octetmint.basics" 194) (r 86)
noncomputable def o88 (P : Params) : Obj := u []
noncomputable def o89 (P : Params) : Obj := f []
noncomputable def o90 (P : Params) : Obj := u [(t "worth" 284), (t "n" 285)]
noncomputable def o91 (P : Params) : Obj := u []
noncomputable def o92 (P : Params) : Obj := h "bit" "bit" A7 B7 C7
noncomputable def o93 (P : Params) : Obj := c "bit" "bit" 281 24 2 0 0 3 88 true 286 287
noncomputable def o94 (P : Params) : Obj := g "bit" "bit" A7 B7 C7 .none (t "octetmint.basics" 194) (r 93)
noncomputable def o95 (P : Params) : Obj := u []
noncomputable def o96 (P : Params) : Obj := f []
noncomputable def o97 (P : Params) : Obj := u [(t "worth" 292), (t "size" 293), (t "rest" 294), (t "count" 295)]
noncomputable def o98 (P : Params) : Obj := u []
noncomputable def o99 (P : Params) : Obj := h "ones" "ones" A8 B8 C8
noncomputable def o100 (P : Params) : Obj := c "ones" "ones" 289 26 2 0 0 3 95 true 296 297
noncomputable def o101 (P : Params) : Obj := g "ones" "ones" A8 B8 C8 .none (t "octetmint.basics" 194) (r 100)
noncomputable def o102 (P : Params) : Obj := u []
noncomputable def o103 (P : Params) : Obj := f []
noncomputable def o104 (P : Params) : Obj := u [(t "worth" 302)]
noncomputable def o105 (P : Params) : Obj := u []
noncomputable def o106 (P : Params) : Obj := h "parity" "parity" A9 B9 C9
noncomputable def o107 (P : Params) : Obj := c "parity" "parity" 299 33 1 0 0 3 102 true 303 304
noncomputable def o108 (P : Params) : Obj := g "parity" "parity" A9 B9 C9 .none (t "octetmint.basics" 194) (r 107)
noncomputable def o109 (P : Params) : Obj := u []
noncomputable def o110 (P : Params) : Obj := k "builtin_function_or_method" [(.builtin "type.__prepare__"), (.type "type")]
noncomputable def o111 (P : Params) : Obj := d [e P "__module__" 319 (t "octetmint.debug" 306), e P "__qualname__" 321 (t "Debugger" 320), e P "__firstlineno__" 323 (i 38 322), e P "__init__" 332 (r 122), e P "break_at" 342 (r 130), e P "clear" 350 (r 137), e P "watch" 359 (r 144), e P "unwatch" 366 (r 151), e P "seen" 372 (r 156), e P "is_met" 380 (r 163), e P "returned" 388 (r 170), e P "step" 399 (r 177), e P "led" 410 (r 184), e P "go" 418 (r 191), e P "run_to" 427 (r 198), e P "step_over" 437 (r 205), e P "finish" 447 (r 212), e P "where" 453 (r 217), e P "backtrace" 464 (r 224), e P "stack_rows" 472 (r 231), e P "__static_attributes__" 482 (r 232)] 21
noncomputable def o112 (P : Params) : Obj := u []
noncomputable def o113 (P : Params) : Obj := f [(i 40 0), (i 4 0), (r 121), (i 51 0), (i 4 0), (r 129), (i 54 0), (i 4 0), (r 136), (i 57 0), (i 4 0), (r 143), (i 60 0), (i 4 0), (r 150), (i 63 0), (i 4 0), (r 155), (i 66 0), (i 4 0), (r 162), (i 72 0), (i 4 0), (r 169), (i 78 0), (i 4 0), (r 176), (i 96 0), (i 4 0), (r 183), (i 107 0), (i 4 0), (r 190), (i 110 0), (i 4 0), (r 197), (i 113 0), (i 4 0), (r 204), (i 117 0), (i 4 0), (r 211), (i 121 0), (i 4 0), (r 216), (i 124 0), (i 4 0), (r 223), (i 132 0), (i 4 0), (r 230)]
noncomputable def o114 (P : Params) : Obj := { cls := (.type "code"), data := .fields #[(t "Debugger" 314), (t "Debugger" 315), (t "/claim/cut.py" 316), (i 38 0), (i 0 0), (i 0 0), (i 0 0), (i 0 0), (r 112), (.bool false), (i 181 0), (r 113), .none, .none, .none, .none, (i 317 0), (i 38 0), (t "/claim/cut.py" 318)] }
noncomputable def o115 (P : Params) : Obj := { cls := (.type "frame"), data := .plain, slots := #[(some (r 114)), (some (r 3)), (some (r 111)), none, (some (t "octetmint.debug" 306)), none, (some (r 0))] }
noncomputable def o116 (P : Params) : Obj := u []
noncomputable def o117 (P : Params) : Obj := f []
noncomputable def o118 (P : Params) : Obj := u [(t "self" 327), (t "state" 328), (t "advance" 329)]
noncomputable def o119 (P : Params) : Obj := u []
noncomputable def o120 (P : Params) : Obj := h "__init__" "Debugger.__init__" A13_0 B13_0 C13_0
noncomputable def o121 (P : Params) : Obj := c "__init__" "Debugger.__init__" 324 40 3 0 0 3 116 true 330 331
noncomputable def o122 (P : Params) : Obj := g "__init__" "Debugger.__init__" A13_0 B13_0 C13_0 .none (t "octetmint.debug" 306) (r 121)
noncomputable def o123 (P : Params) : Obj := u [(i 0 333)]
noncomputable def o124 (P : Params) : Obj := u []
noncomputable def o125 (P : Params) : Obj := f []
noncomputable def o126 (P : Params) : Obj := u [(t "self" 337), (t "place" 338), (t "passes" 339)]
noncomputable def o127 (P : Params) : Obj := u []
noncomputable def o128 (P : Params) : Obj := h "break_at" "Debugger.break_at" A13_1 B13_1 C13_1
noncomputable def o129 (P : Params) : Obj := c "break_at" "Debugger.break_at" 334 51 3 0 0 3 124 true 340 341
noncomputable def o130 (P : Params) : Obj := g "break_at" "Debugger.break_at" A13_1 B13_1 C13_1 (r 123) (t "octetmint.debug" 306) (r 129)
noncomputable def o131 (P : Params) : Obj := u []
noncomputable def o132 (P : Params) : Obj := f []
noncomputable def o133 (P : Params) : Obj := u [(t "self" 346), (t "place" 347)]
noncomputable def o134 (P : Params) : Obj := u []
noncomputable def o135 (P : Params) : Obj := h "clear" "Debugger.clear" A13_2 B13_2 C13_2
noncomputable def o136 (P : Params) : Obj := c "clear" "Debugger.clear" 343 54 2 0 0 3 131 true 348 349
noncomputable def o137 (P : Params) : Obj := g "clear" "Debugger.clear" A13_2 B13_2 C13_2 .none (t "octetmint.debug" 306) (r 136)
noncomputable def o138 (P : Params) : Obj := u []
noncomputable def o139 (P : Params) : Obj := f []
noncomputable def o140 (P : Params) : Obj := u [(t "self" 354), (t "place" 355), (t "width" 356)]
noncomputable def o141 (P : Params) : Obj := u []
noncomputable def o142 (P : Params) : Obj := h "watch" "Debugger.watch" A13_3 B13_3 C13_3
noncomputable def o143 (P : Params) : Obj := c "watch" "Debugger.watch" 351 57 3 0 0 3 138 true 357 358
noncomputable def o144 (P : Params) : Obj := g "watch" "Debugger.watch" A13_3 B13_3 C13_3 .none (t "octetmint.debug" 306) (r 143)
noncomputable def o145 (P : Params) : Obj := u []
noncomputable def o146 (P : Params) : Obj := f []
noncomputable def o147 (P : Params) : Obj := u [(t "self" 363)]
noncomputable def o148 (P : Params) : Obj := u []
noncomputable def o149 (P : Params) : Obj := h "unwatch" "Debugger.unwatch" A13_4 B13_4 C13_4
noncomputable def o150 (P : Params) : Obj := c "unwatch" "Debugger.unwatch" 360 60 1 0 0 3 145 true 364 365
noncomputable def o151 (P : Params) : Obj := g "unwatch" "Debugger.unwatch" A13_4 B13_4 C13_4 .none (t "octetmint.debug" 306) (r 150)
noncomputable def o152 (P : Params) : Obj := u []
noncomputable def o153 (P : Params) : Obj := f []
noncomputable def o154 (P : Params) : Obj := h "seen" "Debugger.seen" A13_5 B13_5 C13_5
noncomputable def o155 (P : Params) : Obj := { cls := (.type "code"), data := .fields #[(t "seen" 367), (t "Debugger.seen" 368), (t "/claim/cut.py" 369), (i 63 0), (i 1 0), (i 0 0), (i 0 0), (i 3 0), (r 152), (.bool true), (i 181 0), (r 153), .none, .none, .none, (r 154), (i 370 0), (i 63 0), (t "/claim/cut.py" 371)] }
noncomputable def o156 (P : Params) : Obj := g "seen" "Debugger.seen" A13_5 B13_5 C13_5 .none (t "octetmint.debug" 306) (r 155)
noncomputable def o157 (P : Params) : Obj := u []
noncomputable def o158 (P : Params) : Obj := f []
noncomputable def o159 (P : Params) : Obj := u [(t "self" 376), (t "passes" 377)]
noncomputable def o160 (P : Params) : Obj := u []
noncomputable def o161 (P : Params) : Obj := h "is_met" "Debugger.is_met" A13_6 B13_6 C13_6
noncomputable def o162 (P : Params) : Obj := c "is_met" "Debugger.is_met" 373 66 1 0 0 3 157 true 378 379
noncomputable def o163 (P : Params) : Obj := g "is_met" "Debugger.is_met" A13_6 B13_6 C13_6 .none (t "octetmint.debug" 306) (r 162)
noncomputable def o164 (P : Params) : Obj := u []
noncomputable def o165 (P : Params) : Obj := f []
noncomputable def o166 (P : Params) : Obj := u [(t "self" 384), (t "top" 385)]
noncomputable def o167 (P : Params) : Obj := u []
noncomputable def o168 (P : Params) : Obj := h "returned" "Debugger.returned" A13_7 B13_7 C13_7
noncomputable def o169 (P : Params) : Obj := c "returned" "Debugger.returned" 381 72 2 0 0 3 164 true 386 387
noncomputable def o170 (P : Params) : Obj := g "returned" "Debugger.returned" A13_7 B13_7 C13_7 .none (t "octetmint.debug" 306) (r 169)
noncomputable def o171 (P : Params) : Obj := u []
noncomputable def o172 (P : Params) : Obj := f []
noncomputable def o173 (P : Params) : Obj := u [(t "self" 392), (t "before" 393), (t "top" 394), (t "found" 395), (t "error" 396)]
noncomputable def o174 (P : Params) : Obj := u []
noncomputable def o175 (P : Params) : Obj := h "step" "Debugger.step" A13_8 B13_8 C13_8
noncomputable def o176 (P : Params) : Obj := c "step" "Debugger.step" 389 78 1 0 0 3 171 true 397 398
noncomputable def o177 (P : Params) : Obj := g "step" "Debugger.step" A13_8 B13_8 C13_8 .none (t "octetmint.debug" 306) (r 176)
noncomputable def o178 (P : Params) : Obj := u []
noncomputable def o179 (P : Params) : Obj := f []
noncomputable def o180 (P : Params) : Obj := u [(t "self" 403), (t "most" 404), (t "is_over" 405), (t "turn" 406), (t "reason" 407)]
noncomputable def o181 (P : Params) : Obj := u []
noncomputable def o182 (P : Params) : Obj := h "led" "Debugger.led" A13_9 B13_9 C13_9
noncomputable def o183 (P : Params) : Obj := c "led" "Debugger.led" 400 96 3 0 0 3 178 true 408 409
noncomputable def o184 (P : Params) : Obj := g "led" "Debugger.led" A13_9 B13_9 C13_9 .none (t "octetmint.debug" 306) (r 183)
noncomputable def o185 (P : Params) : Obj := u []
noncomputable def o186 (P : Params) : Obj := f []
noncomputable def o187 (P : Params) : Obj := u [(t "self" 414), (t "most" 415)]
noncomputable def o188 (P : Params) : Obj := u []
noncomputable def o189 (P : Params) : Obj := h "go" "Debugger.go" A13_10 B13_10 C13_10
noncomputable def o190 (P : Params) : Obj := c "go" "Debugger.go" 411 107 2 0 0 3 185 true 416 417
noncomputable def o191 (P : Params) : Obj := g "go" "Debugger.go" A13_10 B13_10 C13_10 .none (t "octetmint.debug" 306) (r 190)
noncomputable def o192 (P : Params) : Obj := u []
noncomputable def o193 (P : Params) : Obj := f []
noncomputable def o194 (P : Params) : Obj := u [(t "self" 422), (t "place" 423), (t "most" 424)]
noncomputable def o195 (P : Params) : Obj := u []
noncomputable def o196 (P : Params) : Obj := h "run_to" "Debugger.run_to" A13_11 B13_11 C13_11
noncomputable def o197 (P : Params) : Obj := c "run_to" "Debugger.run_to" 419 110 3 0 0 3 192 true 425 426
noncomputable def o198 (P : Params) : Obj := g "run_to" "Debugger.run_to" A13_11 B13_11 C13_11 .none (t "octetmint.debug" 306) (r 197)
noncomputable def o199 (P : Params) : Obj := u []
noncomputable def o200 (P : Params) : Obj := f []
noncomputable def o201 (P : Params) : Obj := u [(t "self" 431), (t "most" 432)]
noncomputable def o202 (P : Params) : Obj := u [(t "self" 433), (t "depth" 434)]
noncomputable def o203 (P : Params) : Obj := h "step_over" "Debugger.step_over" A13_12 B13_12 C13_12
noncomputable def o204 (P : Params) : Obj := c "step_over" "Debugger.step_over" 428 113 2 0 0 3 199 true 435 436
noncomputable def o205 (P : Params) : Obj := g "step_over" "Debugger.step_over" A13_12 B13_12 C13_12 .none (t "octetmint.debug" 306) (r 204)
noncomputable def o206 (P : Params) : Obj := u []
noncomputable def o207 (P : Params) : Obj := f []
noncomputable def o208 (P : Params) : Obj := u [(t "self" 441), (t "most" 442)]
noncomputable def o209 (P : Params) : Obj := u [(t "self" 443), (t "top" 444)]
noncomputable def o210 (P : Params) : Obj := h "finish" "Debugger.finish" A13_13 B13_13 C13_13
noncomputable def o211 (P : Params) : Obj := c "finish" "Debugger.finish" 438 117 2 0 0 3 206 true 445 446
noncomputable def o212 (P : Params) : Obj := g "finish" "Debugger.finish" A13_13 B13_13 C13_13 .none (t "octetmint.debug" 306) (r 211)
noncomputable def o213 (P : Params) : Obj := u []
noncomputable def o214 (P : Params) : Obj := f []
noncomputable def o215 (P : Params) : Obj := h "where" "Debugger.where" A13_14 B13_14 C13_14
noncomputable def o216 (P : Params) : Obj := { cls := (.type "code"), data := .fields #[(t "where" 448), (t "Debugger.where" 449), (t "/claim/cut.py" 450), (i 121 0), (i 1 0), (i 0 0), (i 0 0), (i 3 0), (r 213), (.bool true), (i 181 0), (r 214), .none, .none, .none, (r 215), (i 451 0), (i 121 0), (t "/claim/cut.py" 452)] }
noncomputable def o217 (P : Params) : Obj := g "where" "Debugger.where" A13_14 B13_14 C13_14 .none (t "octetmint.debug" 306) (r 216)
noncomputable def o218 (P : Params) : Obj := u []
noncomputable def o219 (P : Params) : Obj := f []
noncomputable def o220 (P : Params) : Obj := u [(t "self" 457), (t "most" 458), (t "found" 459), (t "base" 460), (t "older" 461)]
noncomputable def o221 (P : Params) : Obj := u []
noncomputable def o222 (P : Params) : Obj := h "backtrace" "Debugger.backtrace" A13_15 B13_15 C13_15
noncomputable def o223 (P : Params) : Obj := c "backtrace" "Debugger.backtrace" 454 124 2 0 0 3 218 true 462 463
noncomputable def o224 (P : Params) : Obj := g "backtrace" "Debugger.backtrace" A13_15 B13_15 C13_15 .none (t "octetmint.debug" 306) (r 223)
noncomputable def o225 (P : Params) : Obj := u []
noncomputable def o226 (P : Params) : Obj := f []
noncomputable def o227 (P : Params) : Obj := u [(t "self" 468), (t "count" 469)]
noncomputable def o228 (P : Params) : Obj := u []
noncomputable def o229 (P : Params) : Obj := h "stack_rows" "Debugger.stack_rows" A13_16 B13_16 C13_16
noncomputable def o230 (P : Params) : Obj := c "stack_rows" "Debugger.stack_rows" 465 132 2 0 0 3 225 true 470 471
noncomputable def o231 (P : Params) : Obj := g "stack_rows" "Debugger.stack_rows" A13_16 B13_16 C13_16 .none (t "octetmint.debug" 306) (r 230)
noncomputable def o232 (P : Params) : Obj := u [(t "advance" 473), (t "broken" 474), (t "calls" 475), (t "count" 476), (t "latest" 477), (t "points" 478), (t "state" 479), (t "watches" 480), (t "what" 481)]
noncomputable def o233 (P : Params) : Obj := d [e P "__module__" 319 (t "octetmint.debug" 306), e P "__firstlineno__" 323 (i 38 322), e P "__init__" 332 (r 122), e P "break_at" 342 (r 130), e P "clear" 350 (r 137), e P "watch" 359 (r 144), e P "unwatch" 366 (r 151), e P "seen" 372 (r 156), e P "is_met" 380 (r 163), e P "returned" 388 (r 170), e P "step" 399 (r 177), e P "led" 410 (r 184), e P "go" 418 (r 191), e P "run_to" 427 (r 198), e P "step_over" 437 (r 205), e P "finish" 447 (r 212), e P "where" 453 (r 217), e P "backtrace" 464 (r 224), e P "stack_rows" 472 (r 231), e P "__static_attributes__" 482 (r 232), e P "__dict__" 484 (r 235), e P "__weakref__" 486 (r 236), e P "__doc__" 487 .none] 4
noncomputable def o234 (P : Params) : Obj := { cls := (.type "type"), data := .cls { name := s "Debugger", bases := [(.type "object")], mro := [(r 234), (.type "object")], ns := 233, qualname := s "Debugger" }, slots := #[none, none, (some (t "Debugger" 312)), (some (t "Debugger" 320)), (some (.builtin "object.__new__")), (some (.bool true))] }
noncomputable def o235 (P : Params) : Obj := k "getset_descriptor" [(t "__dict__" 483), (r 234), (.builtin "function.__dict__"), (.builtin "function.__dict__#set")]
noncomputable def o236 (P : Params) : Obj := k "getset_descriptor" [(t "__weakref__" 485), (r 234), (.builtin "ExceptionGroup.__weakref__"), .none]
noncomputable def o237 (P : Params) : Obj := k "super" [(r 234), (r 234), (r 234)]
noncomputable def o238 (P : Params) : Obj := k "builtin_function_or_method" [(.builtin "object.__init_subclass__"), (r 234)]
noncomputable def o239 (P : Params) : Obj := u []
noncomputable def o240 (P : Params) : Obj := k "builtin_function_or_method" [(.builtin "type.__prepare__"), (.type "type")]
noncomputable def o241 (P : Params) : Obj := d [e P "__module__" 499 (t "octetmint.decoder" 490), e P "__qualname__" 501 (t "Decoded" 500), e P "__firstlineno__" 503 (i 135 502), e P "__init__" 514 (r 252), e P "told" 521 (r 259), e P "__static_attributes__" 526 (r 260)] 6
noncomputable def o242 (P : Params) : Obj := u []
noncomputable def o243 (P : Params) : Obj := f [(i 137 0), (i 4 0), (r 251), (i 143 0), (i 4 0), (r 258)]
noncomputable def o244 (P : Params) : Obj := { cls := (.type "code"), data := .fields #[(t "Decoded" 494), (t "Decoded" 495), (t "/claim/cut.py" 496), (i 135 0), (i 0 0), (i 0 0), (i 0 0), (i 0 0), (r 242), (.bool false), (i 181 0), (r 243), .none, .none, .none, .none, (i 497 0), (i 135 0), (t "/claim/cut.py" 498)] }
noncomputable def o245 (P : Params) : Obj := { cls := (.type "frame"), data := .plain, slots := #[(some (r 244)), (some (r 3)), (some (r 241)), none, (some (t "octetmint.decoder" 490)), none, (some (r 0))] }
noncomputable def o246 (P : Params) : Obj := u []
noncomputable def o247 (P : Params) : Obj := f []
noncomputable def o248 (P : Params) : Obj := u [(t "self" 507), (t "instruction" 508), (t "length" 509), (t "form" 510), (t "prefixes" 511)]
noncomputable def o249 (P : Params) : Obj := u []
noncomputable def o250 (P : Params) : Obj := h "__init__" "Decoded.__init__" A15_0 B15_0 C15_0
noncomputable def o251 (P : Params) : Obj := c "__init__" "Decoded.__init__" 504 137 5 0 0 3 246 true 512 513
noncomputable def o252 (P : Params) : Obj := g "__init__" "Decoded.__init__" A15_0 B15_0 C15_0 .none (t "octetmint.decoder" 490) (r 251)
noncomputable def o253 (P : Params) : Obj := u []
noncomputable def o254 (P : Params) : Obj := f []
noncomputable def o255 (P : Params) : Obj := u [(t "self" 518)]
noncomputable def o256 (P : Params) : Obj := u []
noncomputable def o257 (P : Params) : Obj := h "told" "Decoded.told" A15_1 B15_1 C15_1
noncomputable def o258 (P : Params) : Obj := c "told" "Decoded.told" 515 143 1 0 0 3 253 true 519 520
noncomputable def o259 (P : Params) : Obj := g "told" "Decoded.told" A15_1 B15_1 C15_1 .none (t "octetmint.decoder" 490) (r 258)
noncomputable def o260 (P : Params) : Obj := u [(t "form" 522), (t "instruction" 523), (t "length" 524), (t "prefixes" 525)]
noncomputable def o261 (P : Params) : Obj := d [e P "__module__" 499 (t "octetmint.decoder" 490), e P "__firstlineno__" 503 (i 135 502), e P "__init__" 514 (r 252), e P "told" 521 (r 259), e P "__static_attributes__" 526 (r 260), e P "__dict__" 528 (r 263), e P "__weakref__" 530 (r 264), e P "__doc__" 531 .none] 4
noncomputable def o262 (P : Params) : Obj := { cls := (.type "type"), data := .cls { name := s "Decoded", bases := [(.type "object")], mro := [(r 262), (.type "object")], ns := 261, qualname := s "Decoded" }, slots := #[none, none, (some (t "Decoded" 492)), (some (t "Decoded" 500)), (some (.builtin "object.__new__")), (some (.bool true))] }
noncomputable def o263 (P : Params) : Obj := k "getset_descriptor" [(t "__dict__" 527), (r 262), (.builtin "function.__dict__"), (.builtin "function.__dict__#set")]
noncomputable def o264 (P : Params) : Obj := k "getset_descriptor" [(t "__weakref__" 529), (r 262), (.builtin "ExceptionGroup.__weakref__"), .none]
noncomputable def o265 (P : Params) : Obj := k "super" [(r 262), (r 262), (r 262)]
noncomputable def o266 (P : Params) : Obj := k "builtin_function_or_method" [(.builtin "object.__init_subclass__"), (r 262)]
noncomputable def o267 (P : Params) : Obj := u []
noncomputable def o268 (P : Params) : Obj := f []
noncomputable def o269 (P : Params) : Obj := u []
noncomputable def o270 (P : Params) : Obj := u []
noncomputable def o271 (P : Params) : Obj := h "condition_names" "condition_names" A18 B18 C18
noncomputable def o272 (P : Params) : Obj := c "condition_names" "condition_names" 538 147 0 0 0 3 267 true 541 542
noncomputable def o273 (P : Params) : Obj := g "condition_names" "condition_names" A18 B18 C18 .none (t "octetmint.forms" 534) (r 272)
noncomputable def o274 (P : Params) : Obj := u []
noncomputable def o275 (P : Params) : Obj := k "builtin_function_or_method" [(.builtin "type.__prepare__"), (.type "type")]
noncomputable def o276 (P : Params) : Obj := d [e P "__module__" 569 (t "octetmint.flags" 544), e P "__qualname__" 571 (t "Flags" 570), e P "__firstlineno__" 573 (i 158 572), e P "__init__" 580 (r 287), e P "told" 587 (r 294), e P "pack" 595 (r 301), e P "unpack" 603 (r 308), e P "unpack_low" 611 (r 315), e P "copy" 619 (r 322), e P "get" 628 (r 329), e P "put" 640 (r 336), e P "show" 647 (r 343), e P "__static_attributes__" 655 (r 344)] 13
noncomputable def o277 (P : Params) : Obj := u []
noncomputable def o278 (P : Params) : Obj := f [(i 160 0), (i 4 0), (r 286), (i 169 0), (i 4 0), (r 293), (i 172 0), (i 4 0), (r 300), (i 176 0), (i 4 0), (r 307), (i 185 0), (i 4 0), (r 314), (i 188 0), (i 4 0), (r 321), (i 193 0), (i 4 0), (r 328), (i 199 0), (i 4 0), (r 335), (i 207 0), (i 4 0), (r 342)]
noncomputable def o279 (P : Params) : Obj := { cls := (.type "code"), data := .fields #[(t "Flags" 564), (t "Flags" 565), (t "/claim/cut.py" 566), (i 158 0), (i 0 0), (i 0 0), (i 0 0), (i 0 0), (r 277), (.bool false), (i 181 0), (r 278), .none, .none, .none, .none, (i 567 0), (i 158 0), (t "/claim/cut.py" 568)] }
noncomputable def o280 (P : Params) : Obj := { cls := (.type "frame"), data := .plain, slots := #[(some (r 279)), (some (r 3)), (some (r 276)), none, (some (t "octetmint.flags" 544)), none, (some (r 0))] }
noncomputable def o281 (P : Params) : Obj := u []
noncomputable def o282 (P : Params) : Obj := f []
noncomputable def o283 (P : Params) : Obj := u [(t "self" 577)]
noncomputable def o284 (P : Params) : Obj := u []
noncomputable def o285 (P : Params) : Obj := h "__init__" "Flags.__init__" A28_0 B28_0 C28_0
noncomputable def o286 (P : Params) : Obj := c "__init__" "Flags.__init__" 574 160 1 0 0 3 281 true 578 579
noncomputable def o287 (P : Params) : Obj := g "__init__" "Flags.__init__" A28_0 B28_0 C28_0 .none (t "octetmint.flags" 544) (r 286)
noncomputable def o288 (P : Params) : Obj := u []
noncomputable def o289 (P : Params) : Obj := f []
noncomputable def o290 (P : Params) : Obj := u [(t "self" 584)]
noncomputable def o291 (P : Params) : Obj := u []
noncomputable def o292 (P : Params) : Obj := h "told" "Flags.told" A28_1 B28_1 C28_1
noncomputable def o293 (P : Params) : Obj := c "told" "Flags.told" 581 169 1 0 0 3 288 true 585 586
noncomputable def o294 (P : Params) : Obj := g "told" "Flags.told" A28_1 B28_1 C28_1 .none (t "octetmint.flags" 544) (r 293)
noncomputable def o295 (P : Params) : Obj := u []
noncomputable def o296 (P : Params) : Obj := f []
noncomputable def o297 (P : Params) : Obj := u [(t "self" 591), (t "low" 592)]
noncomputable def o298 (P : Params) : Obj := u []
noncomputable def o299 (P : Params) : Obj := h "pack" "Flags.pack" A28_2 B28_2 C28_2
noncomputable def o300 (P : Params) : Obj := c "pack" "Flags.pack" 588 172 1 0 0 3 295 true 593 594
noncomputable def o301 (P : Params) : Obj := g "pack" "Flags.pack" A28_2 B28_2 C28_2 .none (t "octetmint.flags" 544) (r 300)
noncomputable def o302 (P : Params) : Obj := u []
noncomputable def o303 (P : Params) : Obj := f []
noncomputable def o304 (P : Params) : Obj := u [(t "self" 599), (t "number" 600)]
noncomputable def o305 (P : Params) : Obj := u []
noncomputable def o306 (P : Params) : Obj := h "unpack" "Flags.unpack" A28_3 B28_3 C28_3
noncomputable def o307 (P : Params) : Obj := c "unpack" "Flags.unpack" 596 176 2 0 0 3 302 true 601 602
noncomputable def o308 (P : Params) : Obj := g "unpack" "Flags.unpack" A28_3 B28_3 C28_3 .none (t "octetmint.flags" 544) (r 307)
noncomputable def o309 (P : Params) : Obj := u []
noncomputable def o310 (P : Params) : Obj := f []
noncomputable def o311 (P : Params) : Obj := u [(t "self" 607), (t "octet" 608)]
noncomputable def o312 (P : Params) : Obj := u []
noncomputable def o313 (P : Params) : Obj := h "unpack_low" "Flags.unpack_low" A28_4 B28_4 C28_4
noncomputable def o314 (P : Params) : Obj := c "unpack_low" "Flags.unpack_low" 604 185 2 0 0 3 309 true 609 610
noncomputable def o315 (P : Params) : Obj := g "unpack_low" "Flags.unpack_low" A28_4 B28_4 C28_4 .none (t "octetmint.flags" 544) (r 314)
noncomputable def o316 (P : Params) : Obj := u []
noncomputable def o317 (P : Params) : Obj := f []
noncomputable def o318 (P : Params) : Obj := u [(t "self" 615), (t "found" 616)]
noncomputable def o319 (P : Params) : Obj := u []
noncomputable def o320 (P : Params) : Obj := h "copy" "Flags.copy" A28_5 B28_5 C28_5
noncomputable def o321 (P : Params) : Obj := c "copy" "Flags.copy" 612 188 1 0 0 3 316 true 617 618
noncomputable def o322 (P : Params) : Obj := g "copy" "Flags.copy" A28_5 B28_5 C28_5 .none (t "octetmint.flags" 544) (r 321)
noncomputable def o323 (P : Params) : Obj := u []
noncomputable def o324 (P : Params) : Obj := f []
noncomputable def o325 (P : Params) : Obj := u [(t "self" 623), (t "name" 624), (t "names" 625)]
noncomputable def o326 (P : Params) : Obj := u []
noncomputable def o327 (P : Params) : Obj := h "get" "Flags.get" A28_6 B28_6 C28_6
noncomputable def o328 (P : Params) : Obj := c "get" "Flags.get" 620 193 2 0 0 3 323 true 626 627
noncomputable def o329 (P : Params) : Obj := g "get" "Flags.get" A28_6 B28_6 C28_6 .none (t "octetmint.flags" 544) (r 328)
noncomputable def o330 (P : Params) : Obj := u []
noncomputable def o331 (P : Params) : Obj := f []
noncomputable def o332 (P : Params) : Obj := u [(t "self" 632), (t "name" 633), (t "worth" 634), (t "spots" 635), (t "spot" 636), (t "number" 637)]
noncomputable def o333 (P : Params) : Obj := u []
noncomputable def o334 (P : Params) : Obj := h "put" "Flags.put" A28_7 B28_7 C28_7
noncomputable def o335 (P : Params) : Obj := c "put" "Flags.put" 629 199 3 0 0 3 330 true 638 639
noncomputable def o336 (P : Params) : Obj := g "put" "Flags.put" A28_7 B28_7 C28_7 .none (t "octetmint.flags" 544) (r 335)
noncomputable def o337 (P : Params) : Obj := u []
noncomputable def o338 (P : Params) : Obj := f []
noncomputable def o339 (P : Params) : Obj := u [(t "self" 644)]
noncomputable def o340 (P : Params) : Obj := u []
noncomputable def o341 (P : Params) : Obj := h "show" "Flags.show" A28_8 B28_8 C28_8
noncomputable def o342 (P : Params) : Obj := c "show" "Flags.show" 641 207 1 0 0 3 337 true 645 646
noncomputable def o343 (P : Params) : Obj := g "show" "Flags.show" A28_8 B28_8 C28_8 .none (t "octetmint.flags" 544) (r 342)
noncomputable def o344 (P : Params) : Obj := u [(t "af" 648), (t "cf" 649), (t "df" 650), (t "of" 651), (t "pf" 652), (t "sf" 653), (t "zf" 654)]
noncomputable def o345 (P : Params) : Obj := d [e P "__module__" 569 (t "octetmint.flags" 544), e P "__firstlineno__" 573 (i 158 572), e P "__init__" 580 (r 287), e P "told" 587 (r 294), e P "pack" 595 (r 301), e P "unpack" 603 (r 308), e P "unpack_low" 611 (r 315), e P "copy" 619 (r 322), e P "get" 628 (r 329), e P "put" 640 (r 336), e P "show" 647 (r 343), e P "__static_attributes__" 655 (r 344), e P "__dict__" 657 (r 347), e P "__weakref__" 659 (r 348), e P "__doc__" 660 .none] 4
noncomputable def o346 (P : Params) : Obj := { cls := (.type "type"), data := .cls { name := s "Flags", bases := [(.type "object")], mro := [(r 346), (.type "object")], ns := 345, qualname := s "Flags" }, slots := #[none, none, (some (t "Flags" 562)), (some (t "Flags" 570)), (some (.builtin "object.__new__")), (some (.bool true))] }
noncomputable def o347 (P : Params) : Obj := k "getset_descriptor" [(t "__dict__" 656), (r 346), (.builtin "function.__dict__"), (.builtin "function.__dict__#set")]
noncomputable def o348 (P : Params) : Obj := k "getset_descriptor" [(t "__weakref__" 658), (r 346), (.builtin "ExceptionGroup.__weakref__"), .none]
noncomputable def o349 (P : Params) : Obj := k "super" [(r 346), (r 346), (r 346)]
noncomputable def o350 (P : Params) : Obj := k "builtin_function_or_method" [(.builtin "object.__init_subclass__"), (r 346)]
noncomputable def o351 (P : Params) : Obj := u []
noncomputable def o352 (P : Params) : Obj := f []
noncomputable def o353 (P : Params) : Obj := u [(t "condition" 666)]
noncomputable def o354 (P : Params) : Obj := u []
noncomputable def o355 (P : Params) : Obj := h "condition_number" "condition_number" A29 B29 C29
noncomputable def o356 (P : Params) : Obj := c "condition_number" "condition_number" 663 209 1 0 0 3 351 true 667 668
noncomputable def o357 (P : Params) : Obj := g "condition_number" "condition_number" A29 B29 C29 .none (t "octetmint.flags" 544) (r 356)
noncomputable def o358 (P : Params) : Obj := u []
noncomputable def o359 (P : Params) : Obj := f []
noncomputable def o360 (P : Params) : Obj := u [(t "flags" 673), (t "number" 674), (t "pair" 675), (t "truth" 676)]
noncomputable def o361 (P : Params) : Obj := u []
noncomputable def o362 (P : Params) : Obj := h "holds_number" "holds_number" A30 B30 C30
noncomputable def o363 (P : Params) : Obj := c "holds_number" "holds_number" 670 213 2 0 0 3 358 true 677 678
noncomputable def o364 (P : Params) : Obj := g "holds_number" "holds_number" A30 B30 C30 .none (t "octetmint.flags" 544) (r 363)
noncomputable def o365 (P : Params) : Obj := u []
noncomputable def o366 (P : Params) : Obj := f []
noncomputable def o367 (P : Params) : Obj := u [(t "flags" 683), (t "condition" 684)]
noncomputable def o368 (P : Params) : Obj := u []
noncomputable def o369 (P : Params) : Obj := h "holds" "holds" A31 B31 C31
noncomputable def o370 (P : Params) : Obj := c "holds" "holds" 680 232 2 0 0 3 365 true 685 686
noncomputable def o371 (P : Params) : Obj := g "holds" "holds" A31 B31 C31 .none (t "octetmint.flags" 544) (r 370)
noncomputable def o372 (P : Params) : Obj := u []
noncomputable def o373 (P : Params) : Obj := f []
noncomputable def o374 (P : Params) : Obj := u [(t "flags" 691), (t "result" 692), (t "size" 693), (t "told" 694)]
noncomputable def o375 (P : Params) : Obj := u []
noncomputable def o376 (P : Params) : Obj := h "szp" "szp" A32 B32 C32
noncomputable def o377 (P : Params) : Obj := c "szp" "szp" 688 234 3 0 0 3 372 true 695 696
noncomputable def o378 (P : Params) : Obj := g "szp" "szp" A32 B32 C32 .none (t "octetmint.flags" 544) (r 377)
noncomputable def o379 (P : Params) : Obj := u []
noncomputable def o380 (P : Params) : Obj := f []
noncomputable def o381 (P : Params) : Obj := u [(t "flags" 701), (t "a" 702), (t "b" 703), (t "borrow" 704), (t "size" 705), (t "one" 706), (t "two" 707), (t "rest" 708), (t "result" 709)]
noncomputable def o382 (P : Params) : Obj := u []
noncomputable def o383 (P : Params) : Obj := h "sub_flags" "sub_flags" A33 B33 C33
noncomputable def o384 (P : Params) : Obj := c "sub_flags" "sub_flags" 698 240 5 0 0 3 379 true 710 711
noncomputable def o385 (P : Params) : Obj := g "sub_flags" "sub_flags" A33 B33 C33 .none (t "octetmint.flags" 544) (r 384)
noncomputable def o386 (P : Params) : Obj := u []
noncomputable def o387 (P : Params) : Obj := k "builtin_function_or_method" [(.builtin "type.__prepare__"), (.type "type")]
noncomputable def o388 (P : Params) : Obj := d [e P "__module__" 730 (t "octetmint.registers" 713), e P "__qualname__" 732 (t "Register" 731), e P "__firstlineno__" 734 (i 253 733), e P "__init__" 745 (r 399), e P "code" 752 (r 406), e P "is_extended" 759 (r 413), e P "is_high" 766 (r 420), e P "needs_rex" 773 (r 427), e P "told" 780 (r 434), e P "__static_attributes__" 785 (r 435)] 10
noncomputable def o389 (P : Params) : Obj := u []
noncomputable def o390 (P : Params) : Obj := f [(i 255 0), (i 4 0), (r 398), (i 261 0), (i 4 0), (r 405), (i 264 0), (i 4 0), (r 412), (i 267 0), (i 4 0), (r 419), (i 270 0), (i 4 0), (r 426), (i 273 0), (i 4 0), (r 433)]
noncomputable def o391 (P : Params) : Obj := { cls := (.type "code"), data := .fields #[(t "Register" 725), (t "Register" 726), (t "/claim/cut.py" 727), (i 253 0), (i 0 0), (i 0 0), (i 0 0), (i 0 0), (r 389), (.bool false), (i 181 0), (r 390), .none, .none, .none, .none, (i 728 0), (i 253 0), (t "/claim/cut.py" 729)] }
noncomputable def o392 (P : Params) : Obj := { cls := (.type "frame"), data := .plain, slots := #[(some (r 391)), (some (r 3)), (some (r 388)), none, (some (t "octetmint.registers" 713)), none, (some (r 0))] }
noncomputable def o393 (P : Params) : Obj := u []
noncomputable def o394 (P : Params) : Obj := f []
noncomputable def o395 (P : Params) : Obj := u [(t "self" 738), (t "name" 739), (t "kind" 740), (t "number" 741), (t "size" 742)]
noncomputable def o396 (P : Params) : Obj := u []
noncomputable def o397 (P : Params) : Obj := h "__init__" "Register.__init__" A39_0 B39_0 C39_0
noncomputable def o398 (P : Params) : Obj := c "__init__" "Register.__init__" 735 255 5 0 0 3 393 true 743 744
noncomputable def o399 (P : Params) : Obj := g "__init__" "Register.__init__" A39_0 B39_0 C39_0 .none (t "octetmint.registers" 713) (r 398)
noncomputable def o400 (P : Params) : Obj := u []
noncomputable def o401 (P : Params) : Obj := f []
noncomputable def o402 (P : Params) : Obj := u [(t "self" 749)]
noncomputable def o403 (P : Params) : Obj := u []
noncomputable def o404 (P : Params) : Obj := h "code" "Register.code" A39_1 B39_1 C39_1
noncomputable def o405 (P : Params) : Obj := c "code" "Register.code" 746 261 1 0 0 3 400 true 750 751
noncomputable def o406 (P : Params) : Obj := g "code" "Register.code" A39_1 B39_1 C39_1 .none (t "octetmint.registers" 713) (r 405)
noncomputable def o407 (P : Params) : Obj := u []
noncomputable def o408 (P : Params) : Obj := f []
noncomputable def o409 (P : Params) : Obj := u [(t "self" 756)]
noncomputable def o410 (P : Params) : Obj := u []
noncomputable def o411 (P : Params) : Obj := h "is_extended" "Register.is_extended" A39_2 B39_2 C39_2
noncomputable def o412 (P : Params) : Obj := c "is_extended" "Register.is_extended" 753 264 1 0 0 3 407 true 757 758
noncomputable def o413 (P : Params) : Obj := g "is_extended" "Register.is_extended" A39_2 B39_2 C39_2 .none (t "octetmint.registers" 713) (r 412)
noncomputable def o414 (P : Params) : Obj := u []
noncomputable def o415 (P : Params) : Obj := f []
noncomputable def o416 (P : Params) : Obj := u [(t "self" 763)]
noncomputable def o417 (P : Params) : Obj := u []
noncomputable def o418 (P : Params) : Obj := h "is_high" "Register.is_high" A39_3 B39_3 C39_3
noncomputable def o419 (P : Params) : Obj := c "is_high" "Register.is_high" 760 267 1 0 0 3 414 true 764 765
noncomputable def o420 (P : Params) : Obj := g "is_high" "Register.is_high" A39_3 B39_3 C39_3 .none (t "octetmint.registers" 713) (r 419)
noncomputable def o421 (P : Params) : Obj := u []
noncomputable def o422 (P : Params) : Obj := f []
noncomputable def o423 (P : Params) : Obj := u [(t "self" 770)]
noncomputable def o424 (P : Params) : Obj := u []
noncomputable def o425 (P : Params) : Obj := h "needs_rex" "Register.needs_rex" A39_4 B39_4 C39_4
noncomputable def o426 (P : Params) : Obj := c "needs_rex" "Register.needs_rex" 767 270 1 0 0 3 421 true 771 772
noncomputable def o427 (P : Params) : Obj := g "needs_rex" "Register.needs_rex" A39_4 B39_4 C39_4 .none (t "octetmint.registers" 713) (r 426)
noncomputable def o428 (P : Params) : Obj := u []
noncomputable def o429 (P : Params) : Obj := f []
noncomputable def o430 (P : Params) : Obj := u [(t "self" 777)]
noncomputable def o431 (P : Params) : Obj := u []
noncomputable def o432 (P : Params) : Obj := h "told" "Register.told" A39_5 B39_5 C39_5
noncomputable def o433 (P : Params) : Obj := c "told" "Register.told" 774 273 1 0 0 3 428 true 778 779
noncomputable def o434 (P : Params) : Obj := g "told" "Register.told" A39_5 B39_5 C39_5 .none (t "octetmint.registers" 713) (r 433)
noncomputable def o435 (P : Params) : Obj := u [(t "kind" 781), (t "name" 782), (t "number" 783), (t "size" 784)]
noncomputable def o436 (P : Params) : Obj := d [e P "__module__" 730 (t "octetmint.registers" 713), e P "__firstlineno__" 734 (i 253 733), e P "__init__" 745 (r 399), e P "code" 752 (r 406), e P "is_extended" 759 (r 413), e P "is_high" 766 (r 420), e P "needs_rex" 773 (r 427), e P "told" 780 (r 434), e P "__static_attributes__" 785 (r 435), e P "__dict__" 787 (r 438), e P "__weakref__" 789 (r 439), e P "__doc__" 790 .none] 4
noncomputable def o437 (P : Params) : Obj := { cls := (.type "type"), data := .cls { name := s "Register", bases := [(.type "object")], mro := [(r 437), (.type "object")], ns := 436, qualname := s "Register" }, slots := #[none, none, (some (t "Register" 723)), (some (t "Register" 731)), (some (.builtin "object.__new__")), (some (.bool true))] }
noncomputable def o438 (P : Params) : Obj := k "getset_descriptor" [(t "__dict__" 786), (r 437), (.builtin "function.__dict__"), (.builtin "function.__dict__#set")]
noncomputable def o439 (P : Params) : Obj := k "getset_descriptor" [(t "__weakref__" 788), (r 437), (.builtin "ExceptionGroup.__weakref__"), .none]
noncomputable def o440 (P : Params) : Obj := k "super" [(r 437), (r 437), (r 437)]
noncomputable def o441 (P : Params) : Obj := k "builtin_function_or_method" [(.builtin "object.__init_subclass__"), (r 437)]
noncomputable def o442 (P : Params) : Obj := u []
noncomputable def o443 (P : Params) : Obj := f []
noncomputable def o444 (P : Params) : Obj := u [(t "size" 796)]
noncomputable def o445 (P : Params) : Obj := u []
noncomputable def o446 (P : Params) : Obj := h "early_names" "early_names" A40 B40 C40
noncomputable def o447 (P : Params) : Obj := c "early_names" "early_names" 793 275 1 0 0 3 442 true 797 798
noncomputable def o448 (P : Params) : Obj := g "early_names" "early_names" A40 B40 C40 .none (t "octetmint.registers" 713) (r 447)
noncomputable def o449 (P : Params) : Obj := u []
noncomputable def o450 (P : Params) : Obj := f []
noncomputable def o451 (P : Params) : Obj := u [(t "size" 803)]
noncomputable def o452 (P : Params) : Obj := u []
noncomputable def o453 (P : Params) : Obj := h "late_ending" "late_ending" A41 B41 C41
noncomputable def o454 (P : Params) : Obj := c "late_ending" "late_ending" 800 285 1 0 0 3 449 true 804 805
noncomputable def o455 (P : Params) : Obj := g "late_ending" "late_ending" A41 B41 C41 .none (t "octetmint.registers" 713) (r 454)
noncomputable def o456 (P : Params) : Obj := u []
noncomputable def o457 (P : Params) : Obj := f []
noncomputable def o458 (P : Params) : Obj := u [(t "number" 810), (t "size" 811), (t "names" 812)]
noncomputable def o459 (P : Params) : Obj := u []
noncomputable def o460 (P : Params) : Obj := h "gpr" "gpr" A42 B42 C42
noncomputable def o461 (P : Params) : Obj := c "gpr" "gpr" 807 293 2 0 0 3 456 true 813 814
noncomputable def o462 (P : Params) : Obj := g "gpr" "gpr" A42 B42 C42 .none (t "octetmint.registers" 713) (r 461)
noncomputable def o463 (P : Params) : Obj := u []
noncomputable def o464 (P : Params) : Obj := k "builtin_function_or_method" [(.builtin "type.__prepare__"), (.type "type")]
noncomputable def o465 (P : Params) : Obj := d [e P "__module__" 829 (t "octetmint.machine" 816), e P "__qualname__" 831 (t "Memory" 830), e P "__firstlineno__" 833 (i 303 832), e P "__init__" 840 (r 476), e P "octet" 848 (r 483), e P "set_octet" 857 (r 490), e P "read" 868 (r 497), e P "write" 879 (r 504), e P "load" 890 (r 511), e P "octets" 896 (r 516), e P "written" 902 (r 521), e P "spans" 909 (r 528), e P "find" 920 (r 535), e P "copy" 929 (r 542), e P "told" 936 (r 549), e P "__static_attributes__" 938 (r 550)] 16
noncomputable def o466 (P : Params) : Obj := u []
noncomputable def o467 (P : Params) : Obj := f [(i 305 0), (i 4 0), (r 475), (i 308 0), (i 4 0), (r 482), (i 311 0), (i 4 0), (r 489), (i 314 0), (i 4 0), (r 496), (i 320 0), (i 4 0), (r 503), (i 324 0), (i 4 0), (r 510), (i 328 0), (i 4 0), (r 515), (i 331 0), (i 4 0), (r 520), (i 334 0), (i 4 0), (r 527), (i 337 0), (i 4 0), (r 534), (i 343 0), (i 4 0), (r 541), (i 349 0), (i 4 0), (r 548)]
noncomputable def o468 (P : Params) : Obj := { cls := (.type "code"), data := .fields #[(t "Memory" 824), (t "Memory" 825), (t "/claim/cut.py" 826), (i 303 0), (i 0 0), (i 0 0), (i 0 0), (i 0 0), (r 466), (.bool false), (i 181 0), (r 467), .none, .none, .none, .none, (i 827 0), (i 303 0), (t "/claim/cut.py" 828)] }
noncomputable def o469 (P : Params) : Obj := { cls := (.type "frame"), data := .plain, slots := #[(some (r 468)), (some (r 3)), (some (r 465)), none, (some (t "octetmint.machine" 816)), none, (some (r 0))] }
noncomputable def o470 (P : Params) : Obj := u []
noncomputable def o471 (P : Params) : Obj := f []
noncomputable def o472 (P : Params) : Obj := u [(t "self" 837)]
noncomputable def o473 (P : Params) : Obj := u []
noncomputable def o474 (P : Params) : Obj := h "__init__" "Memory.__init__" A46_0 B46_0 C46_0
noncomputable def o475 (P : Params) : Obj := c "__init__" "Memory.__init__" 834 305 1 0 0 3 470 true 838 839
noncomputable def o476 (P : Params) : Obj := g "__init__" "Memory.__init__" A46_0 B46_0 C46_0 .none (t "octetmint.machine" 816) (r 475)
noncomputable def o477 (P : Params) : Obj := u []
noncomputable def o478 (P : Params) : Obj := f []
noncomputable def o479 (P : Params) : Obj := u [(t "self" 844), (t "place" 845)]
noncomputable def o480 (P : Params) : Obj := u []
noncomputable def o481 (P : Params) : Obj := h "octet" "Memory.octet" A46_1 B46_1 C46_1
noncomputable def o482 (P : Params) : Obj := c "octet" "Memory.octet" 841 308 2 0 0 3 477 true 846 847
noncomputable def o483 (P : Params) : Obj := g "octet" "Memory.octet" A46_1 B46_1 C46_1 .none (t "octetmint.machine" 816) (r 482)
noncomputable def o484 (P : Params) : Obj := u []
noncomputable def o485 (P : Params) : Obj := f []
noncomputable def o486 (P : Params) : Obj := u [(t "self" 852), (t "place" 853), (t "octet" 854)]
noncomputable def o487 (P : Params) : Obj := u []
noncomputable def o488 (P : Params) : Obj := h "set_octet" "Memory.set_octet" A46_2 B46_2 C46_2
noncomputable def o489 (P : Params) : Obj := c "set_octet" "Memory.set_octet" 849 311 3 0 0 3 484 true 855 856
noncomputable def o490 (P : Params) : Obj := g "set_octet" "Memory.set_octet" A46_2 B46_2 C46_2 .none (t "octetmint.machine" 816) (r 489)
noncomputable def o491 (P : Params) : Obj := u []
noncomputable def o492 (P : Params) : Obj := f []
noncomputable def o493 (P : Params) : Obj := u [(t "self" 861), (t "place" 862), (t "width" 863), (t "worth" 864), (t "at" 865)]
noncomputable def o494 (P : Params) : Obj := u []
noncomputable def o495 (P : Params) : Obj := h "read" "Memory.read" A46_3 B46_3 C46_3
noncomputable def o496 (P : Params) : Obj := c "read" "Memory.read" 858 314 3 0 0 3 491 true 866 867
noncomputable def o497 (P : Params) : Obj := g "read" "Memory.read" A46_3 B46_3 C46_3 .none (t "octetmint.machine" 816) (r 496)
noncomputable def o498 (P : Params) : Obj := u []
noncomputable def o499 (P : Params) : Obj := f []
noncomputable def o500 (P : Params) : Obj := u [(t "self" 872), (t "place" 873), (t "width" 874), (t "worth" 875), (t "at" 876)]
noncomputable def o501 (P : Params) : Obj := u []
noncomputable def o502 (P : Params) : Obj := h "write" "Memory.write" A46_4 B46_4 C46_4
noncomputable def o503 (P : Params) : Obj := c "write" "Memory.write" 869 320 4 0 0 3 498 true 877 878
noncomputable def o504 (P : Params) : Obj := g "write" "Memory.write" A46_4 B46_4 C46_4 .none (t "octetmint.machine" 816) (r 503)
noncomputable def o505 (P : Params) : Obj := u []
noncomputable def o506 (P : Params) : Obj := f []
noncomputable def o507 (P : Params) : Obj := u [(t "self" 883), (t "place" 884), (t "octets" 885), (t "at" 886), (t "octet" 887)]
noncomputable def o508 (P : Params) : Obj := u []
noncomputable def o509 (P : Params) : Obj := h "load" "Memory.load" A46_5 B46_5 C46_5
noncomputable def o510 (P : Params) : Obj := c "load" "Memory.load" 880 324 3 0 0 3 505 true 888 889
noncomputable def o511 (P : Params) : Obj := g "load" "Memory.load" A46_5 B46_5 C46_5 .none (t "octetmint.machine" 816) (r 510)
noncomputable def o512 (P : Params) : Obj := u []
noncomputable def o513 (P : Params) : Obj := f []
noncomputable def o514 (P : Params) : Obj := h "octets" "Memory.octets" A46_6 B46_6 C46_6
noncomputable def o515 (P : Params) : Obj := { cls := (.type "code"), data := .fields #[(t "octets" 891), (t "Memory.octets" 892), (t "/claim/cut.py" 893), (i 328 0), (i 3 0), (i 0 0), (i 0 0), (i 3 0), (r 512), (.bool true), (i 181 0), (r 513), .none, .none, .none, (r 514), (i 894 0), (i 328 0), (t "/claim/cut.py" 895)] }
noncomputable def o516 (P : Params) : Obj := g "octets" "Memory.octets" A46_6 B46_6 C46_6 .none (t "octetmint.machine" 816) (r 515)
noncomputable def o517 (P : Params) : Obj := u []
noncomputable def o518 (P : Params) : Obj := f []
noncomputable def o519 (P : Params) : Obj := h "written" "Memory.written" A46_7 B46_7 C46_7
noncomputable def o520 (P : Params) : Obj := { cls := (.type "code"), data := .fields #[(t "written" 897), (t "Memory.written" 898), (t "/claim/cut.py" 899), (i 331 0), (i 1 0), (i 0 0), (i 0 0), (i 3 0), (r 517), (.bool true), (i 181 0), (r 518), .none, .none, .none, (r 519), (i 900 0), (i 331 0), (t "/claim/cut.py" 901)] }
noncomputable def o521 (P : Params) : Obj := g "written" "Memory.written" A46_7 B46_7 C46_7 .none (t "octetmint.machine" 816) (r 520)
noncomputable def o522 (P : Params) : Obj := u []
noncomputable def o523 (P : Params) : Obj := f []
noncomputable def o524 (P : Params) : Obj := u [(t "self" 906)]
noncomputable def o525 (P : Params) : Obj := u []
noncomputable def o526 (P : Params) : Obj := h "spans" "Memory.spans" A46_8 B46_8 C46_8
noncomputable def o527 (P : Params) : Obj := c "spans" "Memory.spans" 903 334 1 0 0 3 522 true 907 908
noncomputable def o528 (P : Params) : Obj := g "spans" "Memory.spans" A46_8 B46_8 C46_8 .none (t "octetmint.machine" 816) (r 527)
noncomputable def o529 (P : Params) : Obj := u []
noncomputable def o530 (P : Params) : Obj := f []
noncomputable def o531 (P : Params) : Obj := u [(t "self" 913), (t "octets" 914), (t "begin" 915), (t "end" 916), (t "place" 917)]
noncomputable def o532 (P : Params) : Obj := u []
noncomputable def o533 (P : Params) : Obj := h "find" "Memory.find" A46_9 B46_9 C46_9
noncomputable def o534 (P : Params) : Obj := c "find" "Memory.find" 910 337 4 0 0 3 529 true 918 919
noncomputable def o535 (P : Params) : Obj := g "find" "Memory.find" A46_9 B46_9 C46_9 .none (t "octetmint.machine" 816) (r 534)
noncomputable def o536 (P : Params) : Obj := u []
noncomputable def o537 (P : Params) : Obj := f []
noncomputable def o538 (P : Params) : Obj := u [(t "self" 924), (t "other" 925), (t "place" 926)]
noncomputable def o539 (P : Params) : Obj := u []
noncomputable def o540 (P : Params) : Obj := h "copy" "Memory.copy" A46_10 B46_10 C46_10
noncomputable def o541 (P : Params) : Obj := c "copy" "Memory.copy" 921 343 1 0 0 3 536 true 927 928
noncomputable def o542 (P : Params) : Obj := g "copy" "Memory.copy" A46_10 B46_10 C46_10 .none (t "octetmint.machine" 816) (r 541)
noncomputable def o543 (P : Params) : Obj := u []
noncomputable def o544 (P : Params) : Obj := f []
noncomputable def o545 (P : Params) : Obj := u [(t "self" 933)]
noncomputable def o546 (P : Params) : Obj := u []
noncomputable def o547 (P : Params) : Obj := h "told" "Memory.told" A46_11 B46_11 C46_11
noncomputable def o548 (P : Params) : Obj := c "told" "Memory.told" 930 349 1 0 0 3 543 true 934 935
noncomputable def o549 (P : Params) : Obj := g "told" "Memory.told" A46_11 B46_11 C46_11 .none (t "octetmint.machine" 816) (r 548)
noncomputable def o550 (P : Params) : Obj := u [(t "held" 937)]
noncomputable def o551 (P : Params) : Obj := d [e P "__module__" 829 (t "octetmint.machine" 816), e P "__firstlineno__" 833 (i 303 832), e P "__init__" 840 (r 476), e P "octet" 848 (r 483), e P "set_octet" 857 (r 490), e P "read" 868 (r 497), e P "write" 879 (r 504), e P "load" 890 (r 511), e P "octets" 896 (r 516), e P "written" 902 (r 521), e P "spans" 909 (r 528), e P "find" 920 (r 535), e P "copy" 929 (r 542), e P "told" 936 (r 549), e P "__static_attributes__" 938 (r 550), e P "__dict__" 940 (r 553), e P "__weakref__" 942 (r 554), e P "__doc__" 943 .none] 4
noncomputable def o552 (P : Params) : Obj := { cls := (.type "type"), data := .cls { name := s "Memory", bases := [(.type "object")], mro := [(r 552), (.type "object")], ns := 551, qualname := s "Memory" }, slots := #[none, none, (some (t "Memory" 822)), (some (t "Memory" 830)), (some (.builtin "object.__new__")), (some (.bool true))] }
noncomputable def o553 (P : Params) : Obj := k "getset_descriptor" [(t "__dict__" 939), (r 552), (.builtin "function.__dict__"), (.builtin "function.__dict__#set")]
noncomputable def o554 (P : Params) : Obj := k "getset_descriptor" [(t "__weakref__" 941), (r 552), (.builtin "ExceptionGroup.__weakref__"), .none]
noncomputable def o555 (P : Params) : Obj := k "super" [(r 552), (r 552), (r 552)]
noncomputable def o556 (P : Params) : Obj := k "builtin_function_or_method" [(.builtin "object.__init_subclass__"), (r 552)]
noncomputable def o557 (P : Params) : Obj := u []
noncomputable def o558 (P : Params) : Obj := f []
noncomputable def o559 (P : Params) : Obj := u [(t "old" 949), (t "worth" 950), (t "size" 951)]
noncomputable def o560 (P : Params) : Obj := u []
noncomputable def o561 (P : Params) : Obj := h "joined" "joined" A47 B47 C47
noncomputable def o562 (P : Params) : Obj := c "joined" "joined" 946 351 3 0 0 3 557 true 952 953
noncomputable def o563 (P : Params) : Obj := g "joined" "joined" A47 B47 C47 .none (t "octetmint.machine" 816) (r 562)
noncomputable def o564 (P : Params) : Obj := u []
noncomputable def o565 (P : Params) : Obj := k "builtin_function_or_method" [(.builtin "type.__prepare__"), (.type "type")]
noncomputable def o566 (P : Params) : Obj := d [e P "__module__" 963 (t "octetmint.machine" 816), e P "__qualname__" 965 (t "State" 964), e P "__firstlineno__" 967 (i 356 966), e P "__init__" 975 (r 577), e P "get" 983 (r 584), e P "put" 993 (r 591), e P "put_low" 1004 (r 598), e P "registers" 1010 (r 603), e P "offset" 1019 (r 610), e P "place" 1028 (r 617), e P "size_of" 1038 (r 624), e P "read" 1047 (r 631), e P "write" 1057 (r 638), e P "push" 1066 (r 645), e P "pop" 1075 (r 652), e P "told" 1083 (r 659), e P "copy" 1091 (r 666), e P "__static_attributes__" 1101 (r 667)] 18
noncomputable def o567 (P : Params) : Obj := u []
noncomputable def o568 (P : Params) : Obj := f [(i 358 0), (i 4 0), (r 576), (i 369 0), (i 4 0), (r 583), (i 380 0), (i 4 0), (r 590), (i 392 0), (i 4 0), (r 597), (i 399 0), (i 4 0), (r 602), (i 402 0), (i 4 0), (r 609), (i 410 0), (i 4 0), (r 616), (i 414 0), (i 4 0), (r 623), (i 422 0), (i 4 0), (r 630), (i 429 0), (i 4 0), (r 637), (i 437 0), (i 4 0), (r 644), (i 441 0), (i 4 0), (r 651), (i 446 0), (i 4 0), (r 658), (i 450 0), (i 4 0), (r 665)]
noncomputable def o569 (P : Params) : Obj := { cls := (.type "code"), data := .fields #[(t "State" 958), (t "State" 959), (t "/claim/cut.py" 960), (i 356 0), (i 0 0), (i 0 0), (i 0 0), (i 0 0), (r 567), (.bool false), (i 181 0), (r 568), .none, .none, .none, .none, (i 961 0), (i 356 0), (t "/claim/cut.py" 962)] }
noncomputable def o570 (P : Params) : Obj := { cls := (.type "frame"), data := .plain, slots := #[(some (r 569)), (some (r 3)), (some (r 566)), none, (some (t "octetmint.machine" 816)), none, (some (r 0))] }
noncomputable def o571 (P : Params) : Obj := u []
noncomputable def o572 (P : Params) : Obj := f []
noncomputable def o573 (P : Params) : Obj := u [(t "self" 971), (t "iset" 972)]
noncomputable def o574 (P : Params) : Obj := u []
noncomputable def o575 (P : Params) : Obj := h "__init__" "State.__init__" A49_0 B49_0 C49_0
noncomputable def o576 (P : Params) : Obj := c "__init__" "State.__init__" 968 358 2 0 0 3 571 true 973 974
noncomputable def o577 (P : Params) : Obj := g "__init__" "State.__init__" A49_0 B49_0 C49_0 .none (t "octetmint.machine" 816) (r 576)
noncomputable def o578 (P : Params) : Obj := u []
noncomputable def o579 (P : Params) : Obj := f []
noncomputable def o580 (P : Params) : Obj := u [(t "self" 979), (t "register" 980)]
noncomputable def o581 (P : Params) : Obj := u []
noncomputable def o582 (P : Params) : Obj := h "get" "State.get" A49_1 B49_1 C49_1
noncomputable def o583 (P : Params) : Obj := c "get" "State.get" 976 369 2 0 0 3 578 true 981 982
noncomputable def o584 (P : Params) : Obj := g "get" "State.get" A49_1 B49_1 C49_1 .none (t "octetmint.machine" 816) (r 583)
noncomputable def o585 (P : Params) : Obj := u []
noncomputable def o586 (P : Params) : Obj := f []
noncomputable def o587 (P : Params) : Obj := u [(t "self" 987), (t "register" 988), (t "worth" 989), (t "old" 990)]
noncomputable def o588 (P : Params) : Obj := u []
noncomputable def o589 (P : Params) : Obj := h "put" "State.put" A49_2 B49_2 C49_2
noncomputable def o590 (P : Params) : Obj := c "put" "State.put" 984 380 3 0 0 3 585 true 991 992
noncomputable def o591 (P : Params) : Obj := g "put" "State.put" A49_2 B49_2 C49_2 .none (t "octetmint.machine" 816) (r 590)
noncomputable def o592 (P : Params) : Obj := u []
noncomputable def o593 (P : Params) : Obj := f []
noncomputable def o594 (P : Params) : Obj := u [(t "self" 997), (t "register" 998), (t "size" 999), (t "worth" 1000), (t "old" 1001)]
noncomputable def o595 (P : Params) : Obj := u []
noncomputable def o596 (P : Params) : Obj := h "put_low" "State.put_low" A49_3 B49_3 C49_3
noncomputable def o597 (P : Params) : Obj := c "put_low" "State.put_low" 994 392 4 0 0 3 592 true 1002 1003
noncomputable def o598 (P : Params) : Obj := g "put_low" "State.put_low" A49_3 B49_3 C49_3 .none (t "octetmint.machine" 816) (r 597)
noncomputable def o599 (P : Params) : Obj := u []
noncomputable def o600 (P : Params) : Obj := f []
noncomputable def o601 (P : Params) : Obj := h "registers" "State.registers" A49_4 B49_4 C49_4
noncomputable def o602 (P : Params) : Obj := { cls := (.type "code"), data := .fields #[(t "registers" 1005), (t "State.registers" 1006), (t "/claim/cut.py" 1007), (i 399 0), (i 1 0), (i 0 0), (i 0 0), (i 3 0), (r 599), (.bool true), (i 181 0), (r 600), .none, .none, .none, (r 601), (i 1008 0), (i 399 0), (t "/claim/cut.py" 1009)] }
noncomputable def o603 (P : Params) : Obj := g "registers" "State.registers" A49_4 B49_4 C49_4 .none (t "octetmint.machine" 816) (r 602)
noncomputable def o604 (P : Params) : Obj := u []
noncomputable def o605 (P : Params) : Obj := f []
noncomputable def o606 (P : Params) : Obj := u [(t "self" 1014), (t "mem" 1015), (t "total" 1016)]
noncomputable def o607 (P : Params) : Obj := u []
noncomputable def o608 (P : Params) : Obj := h "offset" "State.offset" A49_5 B49_5 C49_5
noncomputable def o609 (P : Params) : Obj := c "offset" "State.offset" 1011 402 2 0 0 3 604 true 1017 1018
noncomputable def o610 (P : Params) : Obj := g "offset" "State.offset" A49_5 B49_5 C49_5 .none (t "octetmint.machine" 816) (r 609)
noncomputable def o611 (P : Params) : Obj := u []
noncomputable def o612 (P : Params) : Obj := f []
noncomputable def o613 (P : Params) : Obj := u [(t "self" 1023), (t "mem" 1024), (t "base" 1025)]
noncomputable def o614 (P : Params) : Obj := u []
noncomputable def o615 (P : Params) : Obj := h "place" "State.place" A49_6 B49_6 C49_6
noncomputable def o616 (P : Params) : Obj := c "place" "State.place" 1020 410 2 0 0 3 611 true 1026 1027
noncomputable def o617 (P : Params) : Obj := g "place" "State.place" A49_6 B49_6 C49_6 .none (t "octetmint.machine" 816) (r 616)
noncomputable def o618 (P : Params) : Obj := u []
noncomputable def o619 (P : Params) : Obj := f []
noncomputable def o620 (P : Params) : Obj := u [(t "self" 1032), (t "operand" 1033), (t "instruction" 1034), (t "one" 1035)]
noncomputable def o621 (P : Params) : Obj := u []
noncomputable def o622 (P : Params) : Obj := h "size_of" "State.size_of" A49_7 B49_7 C49_7
noncomputable def o623 (P : Params) : Obj := c "size_of" "State.size_of" 1029 414 3 0 0 3 618 true 1036 1037
noncomputable def o624 (P : Params) : Obj := g "size_of" "State.size_of" A49_7 B49_7 C49_7 .none (t "octetmint.machine" 816) (r 623)
noncomputable def o625 (P : Params) : Obj := u []
noncomputable def o626 (P : Params) : Obj := f []
noncomputable def o627 (P : Params) : Obj := u [(t "self" 1042), (t "operand" 1043), (t "size" 1044)]
noncomputable def o628 (P : Params) : Obj := u []
noncomputable def o629 (P : Params) : Obj := h "read" "State.read" A49_8 B49_8 C49_8
noncomputable def o630 (P : Params) : Obj := c "read" "State.read" 1039 422 3 0 0 3 625 true 1045 1046
noncomputable def o631 (P : Params) : Obj := g "read" "State.read" A49_8 B49_8 C49_8 .none (t "octetmint.machine" 816) (r 630)
noncomputable def o632 (P : Params) : Obj := u []
noncomputable def o633 (P : Params) : Obj := f []
noncomputable def o634 (P : Params) : Obj := u [(t "self" 1051), (t "operand" 1052), (t "size" 1053), (t "worth" 1054)]
noncomputable def o635 (P : Params) : Obj := u []
noncomputable def o636 (P : Params) : Obj := h "write" "State.write" A49_9 B49_9 C49_9
noncomputable def o637 (P : Params) : Obj := c "write" "State.write" 1048 429 4 0 0 3 632 true 1055 1056
noncomputable def o638 (P : Params) : Obj := g "write" "State.write" A49_9 B49_9 C49_9 .none (t "octetmint.machine" 816) (r 637)
noncomputable def o639 (P : Params) : Obj := u []
noncomputable def o640 (P : Params) : Obj := f []
noncomputable def o641 (P : Params) : Obj := u [(t "self" 1061), (t "worth" 1062), (t "width" 1063)]
noncomputable def o642 (P : Params) : Obj := u []
noncomputable def o643 (P : Params) : Obj := h "push" "State.push" A49_10 B49_10 C49_10
noncomputable def o644 (P : Params) : Obj := c "push" "State.push" 1058 437 3 0 0 3 639 true 1064 1065
noncomputable def o645 (P : Params) : Obj := g "push" "State.push" A49_10 B49_10 C49_10 .none (t "octetmint.machine" 816) (r 644)
noncomputable def o646 (P : Params) : Obj := u []
noncomputable def o647 (P : Params) : Obj := f []
noncomputable def o648 (P : Params) : Obj := u [(t "self" 1070), (t "width" 1071), (t "worth" 1072)]
noncomputable def o649 (P : Params) : Obj := u []
noncomputable def o650 (P : Params) : Obj := h "pop" "State.pop" A49_11 B49_11 C49_11
noncomputable def o651 (P : Params) : Obj := c "pop" "State.pop" 1067 441 2 0 0 3 646 true 1073 1074
noncomputable def o652 (P : Params) : Obj := g "pop" "State.pop" A49_11 B49_11 C49_11 .none (t "octetmint.machine" 816) (r 651)
noncomputable def o653 (P : Params) : Obj := u []
noncomputable def o654 (P : Params) : Obj := f []
noncomputable def o655 (P : Params) : Obj := u [(t "self" 1079), (t "bases" 1080)]
noncomputable def o656 (P : Params) : Obj := u []
noncomputable def o657 (P : Params) : Obj := h "told" "State.told" A49_12 B49_12 C49_12
noncomputable def o658 (P : Params) : Obj := c "told" "State.told" 1076 446 1 0 0 3 653 true 1081 1082
noncomputable def o659 (P : Params) : Obj := g "told" "State.told" A49_12 B49_12 C49_12 .none (t "octetmint.machine" 816) (r 658)
noncomputable def o660 (P : Params) : Obj := u []
noncomputable def o661 (P : Params) : Obj := f []
noncomputable def o662 (P : Params) : Obj := u [(t "self" 1087), (t "other" 1088)]
noncomputable def o663 (P : Params) : Obj := u []
noncomputable def o664 (P : Params) : Obj := h "copy" "State.copy" A49_13 B49_13 C49_13
noncomputable def o665 (P : Params) : Obj := c "copy" "State.copy" 1084 450 1 0 0 3 660 true 1089 1090
noncomputable def o666 (P : Params) : Obj := g "copy" "State.copy" A49_13 B49_13 C49_13 .none (t "octetmint.machine" 816) (r 665)
noncomputable def o667 (P : Params) : Obj := u [(t "begin" 1092), (t "flags" 1093), (t "is_halted" 1094), (t "iset" 1095), (t "memory" 1096), (t "regs" 1097), (t "rip" 1098), (t "segments" 1099), (t "xmm" 1100)]
noncomputable def o668 (P : Params) : Obj := d [e P "__module__" 963 (t "octetmint.machine" 816), e P "__firstlineno__" 967 (i 356 966), e P "__init__" 975 (r 577), e P "get" 983 (r 584), e P "put" 993 (r 591), e P "put_low" 1004 (r 598), e P "registers" 1010 (r 603), e P "offset" 1019 (r 610), e P "place" 1028 (r 617), e P "size_of" 1038 (r 624), e P "read" 1047 (r 631), e P "write" 1057 (r 638), e P "push" 1066 (r 645), e P "pop" 1075 (r 652), e P "told" 1083 (r 659), e P "copy" 1091 (r 666), e P "__static_attributes__" 1101 (r 667), e P "__dict__" 1103 (r 670), e P "__weakref__" 1105 (r 671), e P "__doc__" 1106 .none] 4
noncomputable def o669 (P : Params) : Obj := { cls := (.type "type"), data := .cls { name := s "State", bases := [(.type "object")], mro := [(r 669), (.type "object")], ns := 668, qualname := s "State" }, slots := #[none, none, (some (t "State" 956)), (some (t "State" 964)), (some (.builtin "object.__new__")), (some (.bool true))] }
noncomputable def o670 (P : Params) : Obj := k "getset_descriptor" [(t "__dict__" 1102), (r 669), (.builtin "function.__dict__"), (.builtin "function.__dict__#set")]
noncomputable def o671 (P : Params) : Obj := k "getset_descriptor" [(t "__weakref__" 1104), (r 669), (.builtin "ExceptionGroup.__weakref__"), .none]
noncomputable def o672 (P : Params) : Obj := k "super" [(r 669), (r 669), (r 669)]
noncomputable def o673 (P : Params) : Obj := k "builtin_function_or_method" [(.builtin "object.__init_subclass__"), (r 669)]
noncomputable def o674 (P : Params) : Obj := u []
noncomputable def o675 (P : Params) : Obj := f []
noncomputable def o676 (P : Params) : Obj := u [(t "state" 1112), (t "instruction" 1113), (t "deeds" 1114), (t "deed" 1115)]
noncomputable def o677 (P : Params) : Obj := u []
noncomputable def o678 (P : Params) : Obj := h "done" "done" A50 B50 C50
noncomputable def o679 (P : Params) : Obj := c "done" "done" 1109 461 3 0 0 3 674 true 1116 1117
noncomputable def o680 (P : Params) : Obj := g "done" "done" A50 B50 C50 .none (t "octetmint.machine" 816) (r 679)
noncomputable def o681 (P : Params) : Obj := u []
noncomputable def o682 (P : Params) : Obj := f []
noncomputable def o683 (P : Params) : Obj := u [(t "state" 1122), (t "found" 1123), (t "deeds" 1124), (t "error" 1125)]
noncomputable def o684 (P : Params) : Obj := u []
noncomputable def o685 (P : Params) : Obj := h "proceed" "proceed" A51 B51 C51
noncomputable def o686 (P : Params) : Obj := c "proceed" "proceed" 1119 471 3 0 0 3 681 true 1126 1127
noncomputable def o687 (P : Params) : Obj := g "proceed" "proceed" A51 B51 C51 .none (t "octetmint.machine" 816) (r 686)
noncomputable def o688 (P : Params) : Obj := u []
noncomputable def o689 (P : Params) : Obj := f []
noncomputable def o690 (P : Params) : Obj := u [(t "state" 1132)]
noncomputable def o691 (P : Params) : Obj := u []
noncomputable def o692 (P : Params) : Obj := h "need_running" "need_running" A52 B52 C52
noncomputable def o693 (P : Params) : Obj := c "need_running" "need_running" 1129 479 1 0 0 3 688 true 1133 1134
noncomputable def o694 (P : Params) : Obj := g "need_running" "need_running" A52 B52 C52 .none (t "octetmint.machine" 816) (r 693)
noncomputable def o695 (P : Params) : Obj := u []
noncomputable def o696 (P : Params) : Obj := f []
noncomputable def o697 (P : Params) : Obj := u [(t "state" 1139), (t "program" 1140), (t "deeds" 1141), (t "found" 1142)]
noncomputable def o698 (P : Params) : Obj := u []
noncomputable def o699 (P : Params) : Obj := h "step_row" "step_row" A53 B53 C53
noncomputable def o700 (P : Params) : Obj := c "step_row" "step_row" 1136 482 3 0 0 3 695 true 1143 1144
noncomputable def o701 (P : Params) : Obj := g "step_row" "step_row" A53 B53 C53 .none (t "octetmint.machine" 816) (r 700)
noncomputable def o702 (P : Params) : Obj := u []
noncomputable def o703 (P : Params) : Obj := k "builtin_function_or_method" [(.builtin "type.__prepare__"), (.type "type")]
noncomputable def o704 (P : Params) : Obj := d [e P "__module__" 1155 (t "octetmint.operands" 1146), e P "__qualname__" 1157 (t "Operand" 1156), e P "__firstlineno__" 1159 (i 490 1158), e P "__init__" 1167 (r 715), e P "told" 1174 (r 722), e P "symbol" 1181 (r 729), e P "registers" 1188 (r 736), e P "__static_attributes__" 1190 (r 737)] 8
noncomputable def o705 (P : Params) : Obj := u []
noncomputable def o706 (P : Params) : Obj := f [(i 492 0), (i 4 0), (r 714), (i 495 0), (i 4 0), (r 721), (i 498 0), (i 4 0), (r 728), (i 501 0), (i 4 0), (r 735)]
noncomputable def o707 (P : Params) : Obj := { cls := (.type "code"), data := .fields #[(t "Operand" 1150), (t "Operand" 1151), (t "/claim/cut.py" 1152), (i 490 0), (i 0 0), (i 0 0), (i 0 0), (i 0 0), (r 705), (.bool false), (i 181 0), (r 706), .none, .none, .none, .none, (i 1153 0), (i 490 0), (t "/claim/cut.py" 1154)] }
noncomputable def o708 (P : Params) : Obj := { cls := (.type "frame"), data := .plain, slots := #[(some (r 707)), (some (r 3)), (some (r 704)), none, (some (t "octetmint.operands" 1146)), none, (some (r 0))] }
noncomputable def o709 (P : Params) : Obj := u []
noncomputable def o710 (P : Params) : Obj := f []
noncomputable def o711 (P : Params) : Obj := u [(t "self" 1163), (t "kind" 1164)]
noncomputable def o712 (P : Params) : Obj := u []
noncomputable def o713 (P : Params) : Obj := h "__init__" "Operand.__init__" A55_0 B55_0 C55_0
noncomputable def o714 (P : Params) : Obj := c "__init__" "Operand.__init__" 1160 492 2 0 0 3 709 true 1165 1166
noncomputable def o715 (P : Params) : Obj := g "__init__" "Operand.__init__" A55_0 B55_0 C55_0 .none (t "octetmint.operands" 1146) (r 714)
noncomputable def o716 (P : Params) : Obj := u []
noncomputable def o717 (P : Params) : Obj := f []
noncomputable def o718 (P : Params) : Obj := u [(t "self" 1171)]
noncomputable def o719 (P : Params) : Obj := u []
noncomputable def o720 (P : Params) : Obj := h "told" "Operand.told" A55_1 B55_1 C55_1
noncomputable def o721 (P : Params) : Obj := c "told" "Operand.told" 1168 495 1 0 0 3 716 true 1172 1173
noncomputable def o722 (P : Params) : Obj := g "told" "Operand.told" A55_1 B55_1 C55_1 .none (t "octetmint.operands" 1146) (r 721)
noncomputable def o723 (P : Params) : Obj := u []
noncomputable def o724 (P : Params) : Obj := f []
noncomputable def o725 (P : Params) : Obj := u [(t "self" 1178)]
noncomputable def o726 (P : Params) : Obj := u []
noncomputable def o727 (P : Params) : Obj := h "symbol" "Operand.symbol" A55_2 B55_2 C55_2
noncomputable def o728 (P : Params) : Obj := c "symbol" "Operand.symbol" 1175 498 1 0 0 3 723 true 1179 1180
noncomputable def o729 (P : Params) : Obj := g "symbol" "Operand.symbol" A55_2 B55_2 C55_2 .none (t "octetmint.operands" 1146) (r 728)
noncomputable def o730 (P : Params) : Obj := u []
noncomputable def o731 (P : Params) : Obj := f []
noncomputable def o732 (P : Params) : Obj := u [(t "self" 1185)]
noncomputable def o733 (P : Params) : Obj := u []
noncomputable def o734 (P : Params) : Obj := h "registers" "Operand.registers" A55_3 B55_3 C55_3
noncomputable def o735 (P : Params) : Obj := c "registers" "Operand.registers" 1182 501 1 0 0 3 730 true 1186 1187
noncomputable def o736 (P : Params) : Obj := g "registers" "Operand.registers" A55_3 B55_3 C55_3 .none (t "octetmint.operands" 1146) (r 735)
noncomputable def o737 (P : Params) : Obj := u [(t "kind" 1189)]
noncomputable def o738 (P : Params) : Obj := d [e P "__module__" 1155 (t "octetmint.operands" 1146), e P "__firstlineno__" 1159 (i 490 1158), e P "__init__" 1167 (r 715), e P "told" 1174 (r 722), e P "symbol" 1181 (r 729), e P "registers" 1188 (r 736), e P "__static_attributes__" 1190 (r 737), e P "__dict__" 1192 (r 740), e P "__weakref__" 1194 (r 741), e P "__doc__" 1195 .none] 4
noncomputable def o739 (P : Params) : Obj := { cls := (.type "type"), data := .cls { name := s "Operand", bases := [(.type "object")], mro := [(r 739), (.type "object")], ns := 738, qualname := s "Operand", subclasses := [(r 774), (r 815)] }, slots := #[none, none, (some (t "Operand" 1148)), (some (t "Operand" 1156)), (some (.builtin "object.__new__")), (some (.bool true))] }
noncomputable def o740 (P : Params) : Obj := k "getset_descriptor" [(t "__dict__" 1191), (r 739), (.builtin "function.__dict__"), (.builtin "function.__dict__#set")]
noncomputable def o741 (P : Params) : Obj := k "getset_descriptor" [(t "__weakref__" 1193), (r 739), (.builtin "ExceptionGroup.__weakref__"), .none]
noncomputable def o742 (P : Params) : Obj := k "super" [(r 739), (r 739), (r 739)]
noncomputable def o743 (P : Params) : Obj := k "builtin_function_or_method" [(.builtin "object.__init_subclass__"), (r 739)]
noncomputable def o744 (P : Params) : Obj := u [(r 739)]
noncomputable def o745 (P : Params) : Obj := k "builtin_function_or_method" [(.builtin "type.__prepare__"), (.type "type")]
noncomputable def o746 (P : Params) : Obj := d [e P "__module__" 1205 (t "octetmint.operands" 1146), e P "__qualname__" 1207 (t "Reg" 1206), e P "__firstlineno__" 1209 (i 503 1208), e P "__init__" 1217 (r 757), e P "told" 1224 (r 764), e P "registers" 1231 (r 771), e P "__static_attributes__" 1233 (r 772)] 7
noncomputable def o747 (P : Params) : Obj := u []
noncomputable def o748 (P : Params) : Obj := f [(i 505 0), (i 4 0), (r 756), (i 509 0), (i 4 0), (r 763), (i 512 0), (i 4 0), (r 770)]
noncomputable def o749 (P : Params) : Obj := { cls := (.type "code"), data := .fields #[(t "Reg" 1200), (t "Reg" 1201), (t "/claim/cut.py" 1202), (i 503 0), (i 0 0), (i 0 0), (i 0 0), (i 0 0), (r 747), (.bool false), (i 181 0), (r 748), .none, .none, .none, .none, (i 1203 0), (i 503 0), (t "/claim/cut.py" 1204)] }
noncomputable def o750 (P : Params) : Obj := { cls := (.type "frame"), data := .plain, slots := #[(some (r 749)), (some (r 3)), (some (r 746)), none, (some (t "octetmint.operands" 1146)), none, (some (r 0))] }
noncomputable def o751 (P : Params) : Obj := u []
noncomputable def o752 (P : Params) : Obj := f []
noncomputable def o753 (P : Params) : Obj := u [(t "self" 1213), (t "register" 1214)]
noncomputable def o754 (P : Params) : Obj := u []
noncomputable def o755 (P : Params) : Obj := h "__init__" "Reg.__init__" A56_0 B56_0 C56_0
noncomputable def o756 (P : Params) : Obj := c "__init__" "Reg.__init__" 1210 505 2 0 0 3 751 true 1215 1216
noncomputable def o757 (P : Params) : Obj := g "__init__" "Reg.__init__" A56_0 B56_0 C56_0 .none (t "octetmint.operands" 1146) (r 756)
noncomputable def o758 (P : Params) : Obj := u []
noncomputable def o759 (P : Params) : Obj := f []
noncomputable def o760 (P : Params) : Obj := u [(t "self" 1221)]
noncomputable def o761 (P : Params) : Obj := u []
noncomputable def o762 (P : Params) : Obj := h "told" "Reg.told" A56_1 B56_1 C56_1
noncomputable def o763 (P : Params) : Obj := c "told" "Reg.told" 1218 509 1 0 0 3 758 true 1222 1223
noncomputable def o764 (P : Params) : Obj := g "told" "Reg.told" A56_1 B56_1 C56_1 .none (t "octetmint.operands" 1146) (r 763)
noncomputable def o765 (P : Params) : Obj := u []
noncomputable def o766 (P : Params) : Obj := f []
noncomputable def o767 (P : Params) : Obj := u [(t "self" 1228)]
noncomputable def o768 (P : Params) : Obj := u []
noncomputable def o769 (P : Params) : Obj := h "registers" "Reg.registers" A56_2 B56_2 C56_2
noncomputable def o770 (P : Params) : Obj := c "registers" "Reg.registers" 1225 512 1 0 0 3 765 true 1229 1230
noncomputable def o771 (P : Params) : Obj := g "registers" "Reg.registers" A56_2 B56_2 C56_2 .none (t "octetmint.operands" 1146) (r 770)
noncomputable def o772 (P : Params) : Obj := u [(t "register" 1232)]
noncomputable def o773 (P : Params) : Obj := d [e P "__module__" 1205 (t "octetmint.operands" 1146), e P "__firstlineno__" 1209 (i 503 1208), e P "__init__" 1217 (r 757), e P "told" 1224 (r 764), e P "registers" 1231 (r 771), e P "__static_attributes__" 1233 (r 772), e P "__doc__" 1234 .none] 2
noncomputable def o774 (P : Params) : Obj := { cls := (.type "type"), data := .cls { name := s "Reg", bases := [(r 739)], mro := [(r 774), (r 739), (.type "object")], ns := 773, qualname := s "Reg" }, slots := #[(some (r 744)), none, (some (t "Reg" 1198)), (some (t "Reg" 1206)), (some (.builtin "object.__new__")), (some (.bool true))] }
noncomputable def o775 (P : Params) : Obj := k "super" [(r 774), (r 774), (r 774)]
noncomputable def o776 (P : Params) : Obj := k "builtin_function_or_method" [(.builtin "object.__init_subclass__"), (r 774)]
noncomputable def o777 (P : Params) : Obj := u [(r 739)]
noncomputable def o778 (P : Params) : Obj := k "builtin_function_or_method" [(.builtin "type.__prepare__"), (.type "type")]
noncomputable def o779 (P : Params) : Obj := d [e P "__module__" 1244 (t "octetmint.operands" 1146), e P "__qualname__" 1246 (t "Rel" 1245), e P "__firstlineno__" 1248 (i 514 1247), e P "__init__" 1258 (r 791), e P "told" 1265 (r 798), e P "symbol" 1272 (r 805), e P "target" 1280 (r 812), e P "__static_attributes__" 1283 (r 813)] 8
noncomputable def o780 (P : Params) : Obj := u []
noncomputable def o781 (P : Params) : Obj := f [(i 516 0), (i 4 0), (r 790), (i 521 0), (i 4 0), (r 797), (i 524 0), (i 4 0), (r 804), (i 527 0), (i 4 0), (r 811)]
noncomputable def o782 (P : Params) : Obj := { cls := (.type "code"), data := .fields #[(t "Rel" 1239), (t "Rel" 1240), (t "/claim/cut.py" 1241), (i 514 0), (i 0 0), (i 0 0), (i 0 0), (i 0 0), (r 780), (.bool false), (i 181 0), (r 781), .none, .none, .none, .none, (i 1242 0), (i 514 0), (t "/claim/cut.py" 1243)] }
noncomputable def o783 (P : Params) : Obj := { cls := (.type "frame"), data := .plain, slots := #[(some (r 782)), (some (r 3)), (some (r 779)), none, (some (t "octetmint.operands" 1146)), none, (some (r 0))] }
noncomputable def o784 (P : Params) : Obj := u [(t "" 1249)]
noncomputable def o785 (P : Params) : Obj := u []
noncomputable def o786 (P : Params) : Obj := f []
noncomputable def o787 (P : Params) : Obj := u [(t "self" 1253), (t "worth" 1254), (t "name" 1255)]
noncomputable def o788 (P : Params) : Obj := u []
noncomputable def o789 (P : Params) : Obj := h "__init__" "Rel.__init__" A57_0 B57_0 C57_0
noncomputable def o790 (P : Params) : Obj := c "__init__" "Rel.__init__" 1250 516 3 0 0 3 785 true 1256 1257
noncomputable def o791 (P : Params) : Obj := g "__init__" "Rel.__init__" A57_0 B57_0 C57_0 (r 784) (t "octetmint.operands" 1146) (r 790)
noncomputable def o792 (P : Params) : Obj := u []
noncomputable def o793 (P : Params) : Obj := f []
noncomputable def o794 (P : Params) : Obj := u [(t "self" 1262)]
noncomputable def o795 (P : Params) : Obj := u []
noncomputable def o796 (P : Params) : Obj := h "told" "Rel.told" A57_1 B57_1 C57_1
noncomputable def o797 (P : Params) : Obj := c "told" "Rel.told" 1259 521 1 0 0 3 792 true 1263 1264
noncomputable def o798 (P : Params) : Obj := g "told" "Rel.told" A57_1 B57_1 C57_1 .none (t "octetmint.operands" 1146) (r 797)
noncomputable def o799 (P : Params) : Obj := u []
noncomputable def o800 (P : Params) : Obj := f []
noncomputable def o801 (P : Params) : Obj := u [(t "self" 1269)]
noncomputable def o802 (P : Params) : Obj := u []
noncomputable def o803 (P : Params) : Obj := h "symbol" "Rel.symbol" A57_2 B57_2 C57_2
noncomputable def o804 (P : Params) : Obj := c "symbol" "Rel.symbol" 1266 524 1 0 0 3 799 true 1270 1271
noncomputable def o805 (P : Params) : Obj := g "symbol" "Rel.symbol" A57_2 B57_2 C57_2 .none (t "octetmint.operands" 1146) (r 804)
noncomputable def o806 (P : Params) : Obj := u []
noncomputable def o807 (P : Params) : Obj := f []
noncomputable def o808 (P : Params) : Obj := u [(t "self" 1276), (t "behind" 1277)]
noncomputable def o809 (P : Params) : Obj := u []
noncomputable def o810 (P : Params) : Obj := h "target" "Rel.target" A57_3 B57_3 C57_3
noncomputable def o811 (P : Params) : Obj := c "target" "Rel.target" 1273 527 2 0 0 3 806 true 1278 1279
noncomputable def o812 (P : Params) : Obj := g "target" "Rel.target" A57_3 B57_3 C57_3 .none (t "octetmint.operands" 1146) (r 811)
noncomputable def o813 (P : Params) : Obj := u [(t "name" 1281), (t "worth" 1282)]
noncomputable def o814 (P : Params) : Obj := d [e P "__module__" 1244 (t "octetmint.operands" 1146), e P "__firstlineno__" 1248 (i 514 1247), e P "__init__" 1258 (r 791), e P "told" 1265 (r 798), e P "symbol" 1272 (r 805), e P "target" 1280 (r 812), e P "__static_attributes__" 1283 (r 813), e P "__doc__" 1284 .none] 2
noncomputable def o815 (P : Params) : Obj := { cls := (.type "type"), data := .cls { name := s "Rel", bases := [(r 739)], mro := [(r 815), (r 739), (.type "object")], ns := 814, qualname := s "Rel" }, slots := #[(some (r 777)), none, (some (t "Rel" 1237)), (some (t "Rel" 1245)), (some (.builtin "object.__new__")), (some (.bool true))] }
noncomputable def o816 (P : Params) : Obj := k "super" [(r 815), (r 815), (r 815)]
noncomputable def o817 (P : Params) : Obj := k "builtin_function_or_method" [(.builtin "object.__init_subclass__"), (r 815)]
noncomputable def o818 (P : Params) : Obj := u []
noncomputable def o819 (P : Params) : Obj := k "builtin_function_or_method" [(.builtin "type.__prepare__"), (.type "type")]
noncomputable def o820 (P : Params) : Obj := d [e P "__module__" 1294 (t "octetmint.operands" 1146), e P "__qualname__" 1296 (t "Instruction" 1295), e P "__firstlineno__" 1298 (i 529 1297), e P "__init__" 1309 (r 832), e P "told" 1315 (r 837), e P "memory_at" 1324 (r 844), e P "memory" 1332 (r 851), e P "symbols" 1339 (r 858), e P "replaced" 1348 (r 865), e P "__static_attributes__" 1352 (r 866)] 10
noncomputable def o821 (P : Params) : Obj := u []
noncomputable def o822 (P : Params) : Obj := f [(i 531 0), (i 4 0), (r 831), (i 536 0), (i 4 0), (r 836), (i 539 0), (i 4 0), (r 843), (i 545 0), (i 4 0), (r 850), (i 549 0), (i 4 0), (r 857), (i 552 0), (i 4 0), (r 864)]
noncomputable def o823 (P : Params) : Obj := { cls := (.type "code"), data := .fields #[(t "Instruction" 1289), (t "Instruction" 1290), (t "/claim/cut.py" 1291), (i 529 0), (i 0 0), (i 0 0), (i 0 0), (i 0 0), (r 821), (.bool false), (i 181 0), (r 822), .none, .none, .none, .none, (i 1292 0), (i 529 0), (t "/claim/cut.py" 1293)] }
noncomputable def o824 (P : Params) : Obj := { cls := (.type "frame"), data := .plain, slots := #[(some (r 823)), (some (r 3)), (some (r 820)), none, (some (t "octetmint.operands" 1146)), none, (some (r 0))] }
noncomputable def o825 (P : Params) : Obj := u [(t "" 1299)]
noncomputable def o826 (P : Params) : Obj := u []
noncomputable def o827 (P : Params) : Obj := f []
noncomputable def o828 (P : Params) : Obj := u [(t "self" 1303), (t "name" 1304), (t "operands" 1305), (t "prefix" 1306)]
noncomputable def o829 (P : Params) : Obj := u []
noncomputable def o830 (P : Params) : Obj := h "__init__" "Instruction.__init__" A58_0 B58_0 C58_0
noncomputable def o831 (P : Params) : Obj := c "__init__" "Instruction.__init__" 1300 531 4 0 0 3 826 true 1307 1308
noncomputable def o832 (P : Params) : Obj := g "__init__" "Instruction.__init__" A58_0 B58_0 C58_0 (r 825) (t "octetmint.operands" 1146) (r 831)
noncomputable def o833 (P : Params) : Obj := u []
noncomputable def o834 (P : Params) : Obj := f []
noncomputable def o835 (P : Params) : Obj := h "told" "Instruction.told" A58_1 B58_1 C58_1
noncomputable def o836 (P : Params) : Obj := { cls := (.type "code"), data := .fields #[(t "told" 1310), (t "Instruction.told" 1311), (t "/claim/cut.py" 1312), (i 536 0), (i 1 0), (i 0 0), (i 0 0), (i 3 0), (r 833), (.bool true), (i 181 0), (r 834), .none, .none, .none, (r 835), (i 1313 0), (i 536 0), (t "/claim/cut.py" 1314)] }
noncomputable def o837 (P : Params) : Obj := g "told" "Instruction.told" A58_1 B58_1 C58_1 .none (t "octetmint.operands" 1146) (r 836)
noncomputable def o838 (P : Params) : Obj := u []
noncomputable def o839 (P : Params) : Obj := f []
noncomputable def o840 (P : Params) : Obj := u [(t "self" 1319), (t "at" 1320), (t "operand" 1321)]
noncomputable def o841 (P : Params) : Obj := u []
noncomputable def o842 (P : Params) : Obj := h "memory_at" "Instruction.memory_at" A58_2 B58_2 C58_2
noncomputable def o843 (P : Params) : Obj := c "memory_at" "Instruction.memory_at" 1316 539 1 0 0 3 838 true 1322 1323
noncomputable def o844 (P : Params) : Obj := g "memory_at" "Instruction.memory_at" A58_2 B58_2 C58_2 .none (t "octetmint.operands" 1146) (r 843)
noncomputable def o845 (P : Params) : Obj := u []
noncomputable def o846 (P : Params) : Obj := f []
noncomputable def o847 (P : Params) : Obj := u [(t "self" 1328), (t "at" 1329)]
noncomputable def o848 (P : Params) : Obj := u []
noncomputable def o849 (P : Params) : Obj := h "memory" "Instruction.memory" A58_3 B58_3 C58_3
noncomputable def o850 (P : Params) : Obj := c "memory" "Instruction.memory" 1325 545 1 0 0 3 845 true 1330 1331
noncomputable def o851 (P : Params) : Obj := g "memory" "Instruction.memory" A58_3 B58_3 C58_3 .none (t "octetmint.operands" 1146) (r 850)
noncomputable def o852 (P : Params) : Obj := u []
noncomputable def o853 (P : Params) : Obj := f []
noncomputable def o854 (P : Params) : Obj := u [(t "self" 1336)]
noncomputable def o855 (P : Params) : Obj := u []
noncomputable def o856 (P : Params) : Obj := h "symbols" "Instruction.symbols" A58_4 B58_4 C58_4
noncomputable def o857 (P : Params) : Obj := c "symbols" "Instruction.symbols" 1333 549 1 0 0 3 852 true 1337 1338
noncomputable def o858 (P : Params) : Obj := g "symbols" "Instruction.symbols" A58_4 B58_4 C58_4 .none (t "octetmint.operands" 1146) (r 857)
noncomputable def o859 (P : Params) : Obj := u []
noncomputable def o860 (P : Params) : Obj := f []
noncomputable def o861 (P : Params) : Obj := u [(t "self" 1343), (t "at" 1344), (t "operand" 1345)]
noncomputable def o862 (P : Params) : Obj := u []
noncomputable def o863 (P : Params) : Obj := h "replaced" "Instruction.replaced" A58_5 B58_5 C58_5
noncomputable def o864 (P : Params) : Obj := c "replaced" "Instruction.replaced" 1340 552 3 0 0 3 859 true 1346 1347
noncomputable def o865 (P : Params) : Obj := g "replaced" "Instruction.replaced" A58_5 B58_5 C58_5 .none (t "octetmint.operands" 1146) (r 864)
noncomputable def o866 (P : Params) : Obj := u [(t "name" 1349), (t "operands" 1350), (t "prefix" 1351)]
noncomputable def o867 (P : Params) : Obj := d [e P "__module__" 1294 (t "octetmint.operands" 1146), e P "__firstlineno__" 1298 (i 529 1297), e P "__init__" 1309 (r 832), e P "told" 1315 (r 837), e P "memory_at" 1324 (r 844), e P "memory" 1332 (r 851), e P "symbols" 1339 (r 858), e P "replaced" 1348 (r 865), e P "__static_attributes__" 1352 (r 866), e P "__dict__" 1354 (r 869), e P "__weakref__" 1356 (r 870), e P "__doc__" 1357 .none] 4
noncomputable def o868 (P : Params) : Obj := { cls := (.type "type"), data := .cls { name := s "Instruction", bases := [(.type "object")], mro := [(r 868), (.type "object")], ns := 867, qualname := s "Instruction" }, slots := #[none, none, (some (t "Instruction" 1287)), (some (t "Instruction" 1295)), (some (.builtin "object.__new__")), (some (.bool true))] }
noncomputable def o869 (P : Params) : Obj := k "getset_descriptor" [(t "__dict__" 1353), (r 868), (.builtin "function.__dict__"), (.builtin "function.__dict__#set")]
noncomputable def o870 (P : Params) : Obj := k "getset_descriptor" [(t "__weakref__" 1355), (r 868), (.builtin "ExceptionGroup.__weakref__"), .none]
noncomputable def o871 (P : Params) : Obj := k "super" [(r 868), (r 868), (r 868)]
noncomputable def o872 (P : Params) : Obj := k "builtin_function_or_method" [(.builtin "object.__init_subclass__"), (r 868)]
noncomputable def o873 (P : Params) : Obj := u []
noncomputable def o874 (P : Params) : Obj := f []
noncomputable def o875 (P : Params) : Obj := u [(t "name" 1365), (t "place" 1366)]
noncomputable def o876 (P : Params) : Obj := u []
noncomputable def o877 (P : Params) : Obj := h "string_stem" "string_stem" A60 B60 C60
noncomputable def o878 (P : Params) : Obj := c "string_stem" "string_stem" 1362 555 1 0 0 3 873 true 1367 1368
noncomputable def o879 (P : Params) : Obj := g "string_stem" "string_stem" A60 B60 C60 .none (t "octetmint.flow" 1360) (r 878)
noncomputable def o880 (P : Params) : Obj := u []
noncomputable def o881 (P : Params) : Obj := f []
noncomputable def o882 (P : Params) : Obj := u [(t "state" 1401), (t "one" 1402), (t "other" 1403), (t "size" 1404), (t "first" 1405), (t "second" 1406)]
noncomputable def o883 (P : Params) : Obj := u []
noncomputable def o884 (P : Params) : Obj := h "exchange" "exchange" A73 B73 C73
noncomputable def o885 (P : Params) : Obj := c "exchange" "exchange" 1398 573 4 0 0 3 880 true 1407 1408
noncomputable def o886 (P : Params) : Obj := g "exchange" "exchange" A73 B73 C73 .none (t "octetmint.transfers" 1370) (r 885)
noncomputable def o887 (P : Params) : Obj := u []
noncomputable def o888 (P : Params) : Obj := f []
noncomputable def o889 (P : Params) : Obj := u [(t "state" 1413), (t "instruction" 1414), (t "name" 1415), (t "one" 1416), (t "other" 1417), (t "size" 1418)]
noncomputable def o890 (P : Params) : Obj := u []
noncomputable def o891 (P : Params) : Obj := h "move_deed" "move_deed" A74 B74 C74
noncomputable def o892 (P : Params) : Obj := c "move_deed" "move_deed" 1410 580 2 0 0 3 887 true 1419 1420
noncomputable def o893 (P : Params) : Obj := g "move_deed" "move_deed" A74 B74 C74 .none (t "octetmint.transfers" 1370) (r 892)
noncomputable def o894 (P : Params) : Obj := u []
noncomputable def o895 (P : Params) : Obj := f []
noncomputable def o896 (P : Params) : Obj := u [(t "state" 1425), (t "instruction" 1426), (t "one" 1427), (t "size" 1428)]
noncomputable def o897 (P : Params) : Obj := u []
noncomputable def o898 (P : Params) : Obj := h "push_operand" "push_operand" A75 B75 C75
noncomputable def o899 (P : Params) : Obj := c "push_operand" "push_operand" 1422 596 2 0 0 3 894 true 1429 1430
noncomputable def o900 (P : Params) : Obj := g "push_operand" "push_operand" A75 B75 C75 .none (t "octetmint.transfers" 1370) (r 899)
noncomputable def o901 (P : Params) : Obj := u []
noncomputable def o902 (P : Params) : Obj := f []
noncomputable def o903 (P : Params) : Obj := u [(t "state" 1435), (t "instruction" 1436), (t "one" 1437), (t "size" 1438), (t "worth" 1439)]
noncomputable def o904 (P : Params) : Obj := u []
noncomputable def o905 (P : Params) : Obj := h "pop_operand" "pop_operand" A76 B76 C76
noncomputable def o906 (P : Params) : Obj := c "pop_operand" "pop_operand" 1432 600 2 0 0 3 901 true 1440 1441
noncomputable def o907 (P : Params) : Obj := g "pop_operand" "pop_operand" A76 B76 C76 .none (t "octetmint.transfers" 1370) (r 906)
noncomputable def o908 (P : Params) : Obj := u []
noncomputable def o909 (P : Params) : Obj := f []
noncomputable def o910 (P : Params) : Obj := u [(t "state" 1446), (t "instruction" 1447), (t "name" 1448)]
noncomputable def o911 (P : Params) : Obj := u []
noncomputable def o912 (P : Params) : Obj := h "stack_deed" "stack_deed" A77 B77 C77
noncomputable def o913 (P : Params) : Obj := c "stack_deed" "stack_deed" 1443 605 2 0 0 3 908 true 1449 1450
noncomputable def o914 (P : Params) : Obj := g "stack_deed" "stack_deed" A77 B77 C77 .none (t "octetmint.transfers" 1370) (r 913)
noncomputable def o915 (P : Params) : Obj := u []
noncomputable def o916 (P : Params) : Obj := f []
noncomputable def o917 (P : Params) : Obj := u [(t "state" 1455), (t "operand" 1456)]
noncomputable def o918 (P : Params) : Obj := u []
noncomputable def o919 (P : Params) : Obj := h "target_of" "target_of" A78 B78 C78
noncomputable def o920 (P : Params) : Obj := c "target_of" "target_of" 1452 621 2 0 0 3 915 true 1457 1458
noncomputable def o921 (P : Params) : Obj := g "target_of" "target_of" A78 B78 C78 .none (t "octetmint.transfers" 1370) (r 920)
noncomputable def o922 (P : Params) : Obj := u []
noncomputable def o923 (P : Params) : Obj := f []
noncomputable def o924 (P : Params) : Obj := u [(t "state" 1463)]
noncomputable def o925 (P : Params) : Obj := u []
noncomputable def o926 (P : Params) : Obj := h "count_down" "count_down" A79 B79 C79
noncomputable def o927 (P : Params) : Obj := c "count_down" "count_down" 1460 627 1 0 0 3 922 true 1464 1465
noncomputable def o928 (P : Params) : Obj := g "count_down" "count_down" A79 B79 C79 .none (t "octetmint.transfers" 1370) (r 927)
noncomputable def o929 (P : Params) : Obj := u []
noncomputable def o930 (P : Params) : Obj := f []
noncomputable def o931 (P : Params) : Obj := u [(t "state" 1470), (t "name" 1471)]
noncomputable def o932 (P : Params) : Obj := u []
noncomputable def o933 (P : Params) : Obj := h "is_taken" "is_taken" A80 B80 C80
noncomputable def o934 (P : Params) : Obj := c "is_taken" "is_taken" 1467 630 2 0 0 3 929 true 1472 1473
noncomputable def o935 (P : Params) : Obj := g "is_taken" "is_taken" A80 B80 C80 .none (t "octetmint.transfers" 1370) (r 934)
noncomputable def o936 (P : Params) : Obj := u []
noncomputable def o937 (P : Params) : Obj := f []
noncomputable def o938 (P : Params) : Obj := u [(t "state" 1478), (t "instruction" 1479), (t "name" 1480), (t "target" 1481)]
noncomputable def o939 (P : Params) : Obj := u []
noncomputable def o940 (P : Params) : Obj := h "jump_deed" "jump_deed" A81 B81 C81
noncomputable def o941 (P : Params) : Obj := c "jump_deed" "jump_deed" 1475 642 2 0 0 3 936 true 1482 1483
noncomputable def o942 (P : Params) : Obj := g "jump_deed" "jump_deed" A81 B81 C81 .none (t "octetmint.transfers" 1370) (r 941)
noncomputable def o943 (P : Params) : Obj := u []
noncomputable def o944 (P : Params) : Obj := f []
noncomputable def o945 (P : Params) : Obj := u [(t "state" 1488), (t "number" 1489), (t "width" 1490), (t "step" 1491)]
noncomputable def o946 (P : Params) : Obj := u []
noncomputable def o947 (P : Params) : Obj := h "go_on" "go_on" A82 B82 C82
noncomputable def o948 (P : Params) : Obj := c "go_on" "go_on" 1485 659 3 0 0 3 943 true 1492 1493
noncomputable def o949 (P : Params) : Obj := g "go_on" "go_on" A82 B82 C82 .none (t "octetmint.transfers" 1370) (r 948)
noncomputable def o950 (P : Params) : Obj := u []
noncomputable def o951 (P : Params) : Obj := f []
noncomputable def o952 (P : Params) : Obj := u [(t "state" 1498), (t "sort" 1499), (t "size" 1500), (t "width" 1501), (t "held" 1502), (t "found" 1503)]
noncomputable def o953 (P : Params) : Obj := u []
noncomputable def o954 (P : Params) : Obj := h "string_round" "string_round" A83 B83 C83
noncomputable def o955 (P : Params) : Obj := c "string_round" "string_round" 1495 662 3 0 0 3 950 true 1504 1505
noncomputable def o956 (P : Params) : Obj := g "string_round" "string_round" A83 B83 C83 .none (t "octetmint.transfers" 1370) (r 955)
noncomputable def o957 (P : Params) : Obj := u []
noncomputable def o958 (P : Params) : Obj := f []
noncomputable def o959 (P : Params) : Obj := u [(t "state" 1510), (t "sort" 1511), (t "prefix" 1512)]
noncomputable def o960 (P : Params) : Obj := u []
noncomputable def o961 (P : Params) : Obj := h "is_last" "is_last" A84 B84 C84
noncomputable def o962 (P : Params) : Obj := c "is_last" "is_last" 1507 683 3 0 0 3 957 true 1513 1514
noncomputable def o963 (P : Params) : Obj := g "is_last" "is_last" A84 B84 C84 .none (t "octetmint.transfers" 1370) (r 962)
noncomputable def o964 (P : Params) : Obj := u []
noncomputable def o965 (P : Params) : Obj := f []
noncomputable def o966 (P : Params) : Obj := u [(t "state" 1519), (t "instruction" 1520), (t "sort" 1521), (t "size" 1522), (t "prefix" 1523)]
noncomputable def o967 (P : Params) : Obj := u []
noncomputable def o968 (P : Params) : Obj := h "string_deed" "string_deed" A85 B85 C85
noncomputable def o969 (P : Params) : Obj := c "string_deed" "string_deed" 1516 689 2 0 0 3 964 true 1524 1525
noncomputable def o970 (P : Params) : Obj := g "string_deed" "string_deed" A85 B85 C85 .none (t "octetmint.transfers" 1370) (r 969)
noncomputable def o971 (P : Params) : Obj := u []
noncomputable def o972 (P : Params) : Obj := f []
noncomputable def o973 (P : Params) : Obj := u [(t "operand" 1530)]
noncomputable def o974 (P : Params) : Obj := u []
noncomputable def o975 (P : Params) : Obj := h "is_xmm" "is_xmm" A86 B86 C86
noncomputable def o976 (P : Params) : Obj := c "is_xmm" "is_xmm" 1527 704 1 0 0 3 971 true 1531 1532
noncomputable def o977 (P : Params) : Obj := g "is_xmm" "is_xmm" A86 B86 C86 .none (t "octetmint.transfers" 1370) (r 976)
noncomputable def o978 (P : Params) : Obj := u []
noncomputable def o979 (P : Params) : Obj := f []
noncomputable def o980 (P : Params) : Obj := u [(t "state" 1537), (t "operand" 1538)]
noncomputable def o981 (P : Params) : Obj := u []
noncomputable def o982 (P : Params) : Obj := h "need_aligned" "need_aligned" A87 B87 C87
noncomputable def o983 (P : Params) : Obj := c "need_aligned" "need_aligned" 1534 706 2 0 0 3 978 true 1539 1540
noncomputable def o984 (P : Params) : Obj := g "need_aligned" "need_aligned" A87 B87 C87 .none (t "octetmint.transfers" 1370) (r 983)
noncomputable def o985 (P : Params) : Obj := u []
noncomputable def o986 (P : Params) : Obj := f []
noncomputable def o987 (P : Params) : Obj := u [(t "state" 1545), (t "name" 1546), (t "one" 1547), (t "other" 1548)]
noncomputable def o988 (P : Params) : Obj := u []
noncomputable def o989 (P : Params) : Obj := h "whole_move" "whole_move" A88 B88 C88
noncomputable def o990 (P : Params) : Obj := c "whole_move" "whole_move" 1542 709 4 0 0 3 985 true 1549 1550
noncomputable def o991 (P : Params) : Obj := g "whole_move" "whole_move" A88 B88 C88 .none (t "octetmint.transfers" 1370) (r 990)
noncomputable def o992 (P : Params) : Obj := u []
noncomputable def o993 (P : Params) : Obj := f []
noncomputable def o994 (P : Params) : Obj := u [(t "name" 1555)]
noncomputable def o995 (P : Params) : Obj := u []
noncomputable def o996 (P : Params) : Obj := h "part_size" "part_size" A89 B89 C89
noncomputable def o997 (P : Params) : Obj := c "part_size" "part_size" 1552 714 1 0 0 3 992 true 1556 1557
noncomputable def o998 (P : Params) : Obj := g "part_size" "part_size" A89 B89 C89 .none (t "octetmint.transfers" 1370) (r 997)
noncomputable def o999 (P : Params) : Obj := u []
noncomputable def o1000 (P : Params) : Obj := f []
noncomputable def o1001 (P : Params) : Obj := u [(t "state" 1562), (t "name" 1563), (t "one" 1564), (t "other" 1565), (t "size" 1566), (t "worth" 1567)]
noncomputable def o1002 (P : Params) : Obj := u []
noncomputable def o1003 (P : Params) : Obj := h "part_move" "part_move" A90 B90 C90
noncomputable def o1004 (P : Params) : Obj := c "part_move" "part_move" 1559 720 5 0 0 3 999 true 1568 1569
noncomputable def o1005 (P : Params) : Obj := g "part_move" "part_move" A90 B90 C90 .none (t "octetmint.transfers" 1370) (r 1004)
noncomputable def o1006 (P : Params) : Obj := u []
noncomputable def o1007 (P : Params) : Obj := f []
noncomputable def o1008 (P : Params) : Obj := h "lanes" "lanes" A91 B91 C91
noncomputable def o1009 (P : Params) : Obj := { cls := (.type "code"), data := .fields #[(t "lanes" 1571), (t "lanes" 1572), (t "/claim/cut.py" 1573), (i 726 0), (i 2 0), (i 0 0), (i 0 0), (i 3 0), (r 1006), (.bool true), (i 181 0), (r 1007), .none, .none, .none, (r 1008), (i 1574 0), (i 726 0), (t "/claim/cut.py" 1575)] }
noncomputable def o1010 (P : Params) : Obj := g "lanes" "lanes" A91 B91 C91 .none (t "octetmint.transfers" 1370) (r 1009)
noncomputable def o1011 (P : Params) : Obj := u []
noncomputable def o1012 (P : Params) : Obj := f []
noncomputable def o1013 (P : Params) : Obj := u [(t "parts" 1580), (t "size" 1581), (t "worth" 1582), (t "at" 1583)]
noncomputable def o1014 (P : Params) : Obj := u []
noncomputable def o1015 (P : Params) : Obj := h "joined" "joined" A92 B92 C92
noncomputable def o1016 (P : Params) : Obj := c "joined" "joined" 1577 728 2 0 0 3 1011 true 1584 1585
noncomputable def o1017 (P : Params) : Obj := g "joined" "joined" A92 B92 C92 .none (t "octetmint.transfers" 1370) (r 1016)
noncomputable def o1018 (P : Params) : Obj := u []
noncomputable def o1019 (P : Params) : Obj := f []
noncomputable def o1020 (P : Params) : Obj := u [(t "name" 1591), (t "stem" 1592), (t "letters" 1593), (t "place" 1594)]
noncomputable def o1021 (P : Params) : Obj := u []
noncomputable def o1022 (P : Params) : Obj := h "lane_size" "lane_size" A94 B94 C94
noncomputable def o1023 (P : Params) : Obj := c "lane_size" "lane_size" 1588 734 1 0 0 3 1018 true 1595 1596
noncomputable def o1024 (P : Params) : Obj := g "lane_size" "lane_size" A94 B94 C94 .none (t "octetmint.transfers" 1370) (r 1023)
noncomputable def o1025 (P : Params) : Obj := u []
noncomputable def o1026 (P : Params) : Obj := f []
noncomputable def o1027 (P : Params) : Obj := u [(t "stem" 1601), (t "one" 1602), (t "other" 1603), (t "size" 1604)]
noncomputable def o1028 (P : Params) : Obj := u []
noncomputable def o1029 (P : Params) : Obj := h "lane_worth" "lane_worth" A95 B95 C95
noncomputable def o1030 (P : Params) : Obj := c "lane_worth" "lane_worth" 1598 739 4 0 0 3 1025 true 1605 1606
noncomputable def o1031 (P : Params) : Obj := g "lane_worth" "lane_worth" A95 B95 C95 .none (t "octetmint.transfers" 1370) (r 1030)
noncomputable def o1032 (P : Params) : Obj := u []
noncomputable def o1033 (P : Params) : Obj := f []
noncomputable def o1034 (P : Params) : Obj := h "lane_result" "lane_result" A96 B96 C96
noncomputable def o1035 (P : Params) : Obj := { cls := (.type "code"), data := .fields #[(t "lane_result" 1608), (t "lane_result" 1609), (t "/claim/cut.py" 1610), (i 745 0), (i 4 0), (i 0 0), (i 0 0), (i 3 0), (r 1032), (.bool true), (i 181 0), (r 1033), .none, .none, .none, (r 1034), (i 1611 0), (i 745 0), (t "/claim/cut.py" 1612)] }
noncomputable def o1036 (P : Params) : Obj := g "lane_result" "lane_result" A96 B96 C96 .none (t "octetmint.transfers" 1370) (r 1035)
noncomputable def o1037 (P : Params) : Obj := u []
noncomputable def o1038 (P : Params) : Obj := f []
noncomputable def o1039 (P : Params) : Obj := u [(t "name" 1617), (t "one" 1618), (t "other" 1619)]
noncomputable def o1040 (P : Params) : Obj := u []
noncomputable def o1041 (P : Params) : Obj := h "bit_result" "bit_result" A97 B97 C97
noncomputable def o1042 (P : Params) : Obj := c "bit_result" "bit_result" 1614 749 3 0 0 3 1037 true 1620 1621
noncomputable def o1043 (P : Params) : Obj := g "bit_result" "bit_result" A97 B97 C97 .none (t "octetmint.transfers" 1370) (r 1042)
noncomputable def o1044 (P : Params) : Obj := u []
noncomputable def o1045 (P : Params) : Obj := f []
noncomputable def o1046 (P : Params) : Obj := u [(t "state" 1626), (t "name" 1627), (t "one" 1628), (t "other" 1629), (t "size" 1630)]
noncomputable def o1047 (P : Params) : Obj := u []
noncomputable def o1048 (P : Params) : Obj := h "vector_move" "vector_move" A98 B98 C98
noncomputable def o1049 (P : Params) : Obj := c "vector_move" "vector_move" 1623 757 4 0 0 3 1044 true 1631 1632
noncomputable def o1050 (P : Params) : Obj := g "vector_move" "vector_move" A98 B98 C98 .none (t "octetmint.transfers" 1370) (r 1049)
noncomputable def o1051 (P : Params) : Obj := u []
noncomputable def o1052 (P : Params) : Obj := f []
noncomputable def o1053 (P : Params) : Obj := u [(t "state" 1637), (t "instruction" 1638), (t "name" 1639), (t "one" 1640), (t "other" 1641), (t "size" 1642), (t "first" 1643), (t "second" 1644)]
noncomputable def o1054 (P : Params) : Obj := u []
noncomputable def o1055 (P : Params) : Obj := h "vector_deed" "vector_deed" A99 B99 C99
noncomputable def o1056 (P : Params) : Obj := c "vector_deed" "vector_deed" 1634 766 2 0 0 3 1051 true 1645 1646
noncomputable def o1057 (P : Params) : Obj := g "vector_deed" "vector_deed" A99 B99 C99 .none (t "octetmint.transfers" 1370) (r 1056)
noncomputable def o1058 (P : Params) : Obj := u []
noncomputable def o1059 (P : Params) : Obj := f []
noncomputable def o1060 (P : Params) : Obj := u [(t "state" 1651), (t "instruction" 1652)]
noncomputable def o1061 (P : Params) : Obj := u []
noncomputable def o1062 (P : Params) : Obj := h "transfer_deed" "transfer_deed" A100 B100 C100
noncomputable def o1063 (P : Params) : Obj := c "transfer_deed" "transfer_deed" 1648 784 2 0 0 3 1058 true 1653 1654
noncomputable def o1064 (P : Params) : Obj := g "transfer_deed" "transfer_deed" A100 B100 C100 .none (t "octetmint.transfers" 1370) (r 1063)
noncomputable def o1065 (P : Params) : Obj := u []
noncomputable def o1066 (P : Params) : Obj := f []
noncomputable def o1067 (P : Params) : Obj := u [(t "bag" 1663), (t "turn" 1664)]
noncomputable def o1068 (P : Params) : Obj := u []
noncomputable def o1069 (P : Params) : Obj := h "_law_pull" "_law_pull" A103 B103 C103
noncomputable def o1070 (P : Params) : Obj := c "_law_pull" "_law_pull" 1660 792 1 0 0 3 1065 true 1665 1666
noncomputable def o1071 (P : Params) : Obj := g "_law_pull" "_law_pull" A103 B103 C103 .none (t "law_pb0437_01" 1656) (r 1070)
noncomputable def o1072 (P : Params) : Obj := u []
noncomputable def o1073 (P : Params) : Obj := f []
noncomputable def o1074 (P : Params) : Obj := u [(t "bag" 1671), (t "many" 1672)]
noncomputable def o1075 (P : Params) : Obj := u []
noncomputable def o1076 (P : Params) : Obj := h "_law_below" "_law_below" A104 B104 C104
noncomputable def o1077 (P : Params) : Obj := c "_law_below" "_law_below" 1668 798 2 0 0 3 1072 true 1673 1674
noncomputable def o1078 (P : Params) : Obj := g "_law_below" "_law_below" A104 B104 C104 .none (t "law_pb0437_01" 1656) (r 1077)
noncomputable def o1079 (P : Params) : Obj := u []
noncomputable def o1080 (P : Params) : Obj := f []
noncomputable def o1081 (P : Params) : Obj := u [(t "bag" 1679), (t "found" 1680), (t "number" 1681), (t "body" 1682), (t "turn" 1683), (t "way" 1684)]
noncomputable def o1082 (P : Params) : Obj := u []
noncomputable def o1083 (P : Params) : Obj := h "_law_bodies" "_law_bodies" A105 B105 C105
noncomputable def o1084 (P : Params) : Obj := c "_law_bodies" "_law_bodies" 1676 800 1 0 0 3 1079 true 1685 1686
noncomputable def o1085 (P : Params) : Obj := g "_law_bodies" "_law_bodies" A105 B105 C105 .none (t "law_pb0437_01" 1656) (r 1084)
noncomputable def o1086 (P : Params) : Obj := u []
noncomputable def o1087 (P : Params) : Obj := f []
noncomputable def o1088 (P : Params) : Obj := u [(t "bodies" 1691), (t "begin" 1692), (t "wide" 1693)]
noncomputable def o1089 (P : Params) : Obj := u []
noncomputable def o1090 (P : Params) : Obj := h "_law_begins" "_law_begins" A106 B106 C106
noncomputable def o1091 (P : Params) : Obj := c "_law_begins" "_law_begins" 1688 812 3 0 0 3 1086 true 1694 1695
noncomputable def o1092 (P : Params) : Obj := g "_law_begins" "_law_begins" A106 B106 C106 .none (t "law_pb0437_01" 1656) (r 1091)
noncomputable def o1093 (P : Params) : Obj := u []
noncomputable def o1094 (P : Params) : Obj := f []
noncomputable def o1095 (P : Params) : Obj := u [(t "bodies" 1700), (t "begins" 1701), (t "wide" 1702), (t "found" 1703), (t "body" 1704), (t "begin" 1705), (t "at" 1706), (t "row" 1707), (t "place" 1708), (t "line" 1709)]
noncomputable def o1096 (P : Params) : Obj := u []
noncomputable def o1097 (P : Params) : Obj := h "_law_program" "_law_program" A107 B107 C107
noncomputable def o1098 (P : Params) : Obj := c "_law_program" "_law_program" 1697 814 3 0 0 3 1093 true 1710 1711
noncomputable def o1099 (P : Params) : Obj := g "_law_program" "_law_program" A107 B107 C107 .none (t "law_pb0437_01" 1656) (r 1098)
noncomputable def o1100 (P : Params) : Obj := u []
noncomputable def o1101 (P : Params) : Obj := f []
noncomputable def o1102 (P : Params) : Obj := u [(t "world" 1716), (t "number" 1717), (t "opens" 1718), (t "frames" 1719), (t "body" 1720), (t "begin" 1721), (t "wide" 1722), (t "own" 1723), (t "at" 1724), (t "row" 1725), (t "framed" 1726)]
noncomputable def o1103 (P : Params) : Obj := u []
noncomputable def o1104 (P : Params) : Obj := h "_law_nest" "_law_nest" A108 B108 C108
noncomputable def o1105 (P : Params) : Obj := c "_law_nest" "_law_nest" 1713 828 4 0 0 3 1100 true 1727 1728
noncomputable def o1106 (P : Params) : Obj := g "_law_nest" "_law_nest" A108 B108 C108 .none (t "law_pb0437_01" 1656) (r 1105)
noncomputable def o1107 (P : Params) : Obj := u []
noncomputable def o1108 (P : Params) : Obj := f []
noncomputable def o1109 (P : Params) : Obj := h "_law_stands" "_law_stands" A109 B109 C109
noncomputable def o1110 (P : Params) : Obj := { cls := (.type "code"), data := .fields #[(t "_law_stands" 1730), (t "_law_stands" 1731), (t "/claim/cut.py" 1732), (i 838 0), (i 4 0), (i 0 0), (i 0 0), (i 3 0), (r 1107), (.bool true), (i 181 0), (r 1108), .none, .none, .none, (r 1109), (i 1733 0), (i 838 0), (t "/claim/cut.py" 1734)] }
noncomputable def o1111 (P : Params) : Obj := g "_law_stands" "_law_stands" A109 B109 C109 .none (t "law_pb0437_01" 1656) (r 1110)
noncomputable def o1112 (P : Params) : Obj := u []
noncomputable def o1113 (P : Params) : Obj := f []
noncomputable def o1114 (P : Params) : Obj := u [(t "world" 1739), (t "at" 1740), (t "most" 1741), (t "later" 1742)]
noncomputable def o1115 (P : Params) : Obj := u []
noncomputable def o1116 (P : Params) : Obj := h "_law_behind" "_law_behind" A110 B110 C110
noncomputable def o1117 (P : Params) : Obj := c "_law_behind" "_law_behind" 1736 845 3 0 0 3 1112 true 1743 1744
noncomputable def o1118 (P : Params) : Obj := g "_law_behind" "_law_behind" A110 B110 C110 .none (t "law_pb0437_01" 1656) (r 1117)
noncomputable def o1119 (P : Params) : Obj := u []
noncomputable def o1120 (P : Params) : Obj := f []
noncomputable def o1121 (P : Params) : Obj := u [(t "script" 1749), (t "bag" 1750), (t "begin" 1751), (t "wide" 1752), (t "bodies" 1753), (t "world" 1754), (t "last" 1755), (t "state" 1756), (t "debugger" 1757), (t "at" 1758), (t "turn" 1759), (t "way" 1760), (t "many" 1761), (t "depth" 1762), (t "told" 1763), (t "goal" 1764)]
noncomputable def o1122 (P : Params) : Obj := u [(t "program" 1765)]
noncomputable def o1123 (P : Params) : Obj := h "law" "law" A111 B111 C111
noncomputable def o1124 (P : Params) : Obj := c "law" "law" 1746 850 1 0 0 3 1119 true 1766 1767
noncomputable def o1125 (P : Params) : Obj := g "law" "law" A111 B111 C111 .none (t "law_pb0437_01" 1656) (r 1124)
noncomputable def LF (P : Params) : List Obj := [boot_o_0 P, boot_o_1 P, o2 P, o3 P, boot_o_4 P, boot_o_5 P, boot_o_6 P, boot_o_7 P, boot_o_8 P, boot_o_9 P, boot_o_10 P, o11 P, o12 P, o13 P, o14 P, o15 P, o16 P, o17 P, o18 P, o19 P, o20 P, o21 P, o22 P, o23 P, o24 P, o25 P, o26 P, o27 P, o28 P, o29 P, o30 P, o31 P, o32 P, o33 P, o34 P, o35 P, o36 P, o37 P, o38 P, o39 P, o40 P, o41 P, o42 P, o43 P, o44 P, o45 P, o46 P, o47 P, o48 P, o49 P, o50 P, o51 P, o52 P, o53 P, o54 P, o55 P, o56 P, o57 P, o58 P, o59 P, o60 P, o61 P, o62 P, o63 P, o64 P, o65 P, o66 P, o67 P, o68 P, o69 P, o70 P, o71 P, o72 P, o73 P, o74 P, o75 P, o76 P, o77 P, o78 P, o79 P, o80 P, o81 P, o82 P, o83 P, o84 P, o85 P, o86 P, o87 P, o88 P, o89 P, o90 P, o91 P, o92 P, o93 P, o94 P, o95 P, o96 P, o97 P, o98 P, o99 P, o100 P, o101 P, o102 P, o103 P, o104 P, o105 P, o106 P, o107 P, o108 P, o109 P, o110 P, o111 P, o112 P, o113 P, o114 P, o115 P, o116 P, o117 P, o118 P, o119 P, o120 P, o121 P, o122 P, o123 P, o124 P, o125 P, o126 P, o127 P, o128 P, o129 P, o130 P, o131 P, o132 P, o133 P, o134 P, o135 P, o136 P, o137 P, o138 P, o139 P, o140 P, o141 P, o142 P, o143 P, o144 P, o145 P, o146 P, o147 P, o148 P, o149 P, o150 P, o151 P, o152 P, o153 P, o154 P, o155 P, o156 P, o157 P, o158 P, o159 P, o160 P, o161 P, o162 P, o163 P, o164 P, o165 P, o166 P, o167 P, o168 P, o169 P, o170 P, o171 P, o172 P, o173 P, o174 P, o175 P, o176 P, o177 P, o178 P, o179 P, o180 P, o181 P, o182 P, o183 P, o184 P, o185 P, o186 P, o187 P, o188 P, o189 P, o190 P, o191 P, o192 P, o193 P, o194 P, o195 P, o196 P, o197 P, o198 P, o199 P, o200 P, o201 P, o202 P, o203 P, o204 P, o205 P, o206 P, o207 P, o208 P, o209 P, o210 P, o211 P, o212 P, o213 P, o214 P, o215 P, o216 P, o217 P, o218 P, o219 P, o220 P, o221 P, o222 P, o223 P, o224 P, o225 P, o226 P, o227 P, o228 P, o229 P, o230 P, o231 P, o232 P, o233 P, o234 P, o235 P, o236 P, o237 P, o238 P, o239 P, o240 P, o241 P, o242 P, o243 P, o244 P, o245 P, o246 P, o247 P, o248 P, o249 P, o250 P, o251 P, o252 P, o253 P, o254 P, o255 P, o256 P, o257 P, o258 P, o259 P, o260 P, o261 P, o262 P, o263 P, o264 P, o265 P, o266 P, o267 P, o268 P, o269 P, o270 P, o271 P, o272 P, o273 P, o274 P, o275 P, o276 P, o277 P, o278 P, o279 P, o280 P, o281 P, o282 P, o283 P, o284 P, o285 P, o286 P, o287 P, o288 P, o289 P, o290 P, o291 P, o292 P, o293 P, o294 P, o295 P, o296 P, o297 P, o298 P, o299 P, o300 P, o301 P, o302 P, o303 P, o304 P, o305 P, o306 P, o307 P, o308 P, o309 P, o310 P, o311 P, o312 P, o313 P, o314 P, o315 P, o316 P, o317 P, o318 P, o319 P, o320 P, o321 P, o322 P, o323 P, o324 P, o325 P, o326 P, o327 P, o328 P, o329 P, o330 P, o331 P, o332 P, o333 P, o334 P, o335 P, o336 P, o337 P, o338 P, o339 P, o340 P, o341 P, o342 P, o343 P, o344 P, o345 P, o346 P, o347 P, o348 P, o349 P, o350 P, o351 P, o352 P, o353 P, o354 P, o355 P, o356 P, o357 P, o358 P, o359 P, o360 P, o361 P, o362 P, o363 P, o364 P, o365 P, o366 P, o367 P, o368 P, o369 P, o370 P, o371 P, o372 P, o373 P, o374 P, o375 P, o376 P, o377 P, o378 P, o379 P, o380 P, o381 P, o382 P, o383 P, o384 P, o385 P, o386 P, o387 P, o388 P, o389 P, o390 P, o391 P, o392 P, o393 P, o394 P, o395 P, o396 P, o397 P, o398 P, o399 P, o400 P, o401 P, o402 P, o403 P, o404 P, o405 P, o406 P, o407 P, o408 P, o409 P, o410 P, o411 P, o412 P, o413 P, o414 P, o415 P, o416 P, o417 P, o418 P, o419 P, o420 P, o421 P, o422 P, o423 P, o424 P, o425 P, o426 P, o427 P, o428 P, o429 P, o430 P, o431 P, o432 P, o433 P, o434 P, o435 P, o436 P, o437 P, o438 P, o439 P, o440 P, o441 P, o442 P, o443 P, o444 P, o445 P, o446 P, o447 P, o448 P, o449 P, o450 P, o451 P, o452 P, o453 P, o454 P, o455 P, o456 P, o457 P, o458 P, o459 P, o460 P, o461 P, o462 P, o463 P, o464 P, o465 P, o466 P, o467 P, o468 P, o469 P, o470 P, o471 P, o472 P, o473 P, o474 P, o475 P, o476 P, o477 P, o478 P, o479 P, o480 P, o481 P, o482 P, o483 P, o484 P, o485 P, o486 P, o487 P, o488 P, o489 P, o490 P, o491 P, o492 P, o493 P, o494 P, o495 P, o496 P, o497 P, o498 P, o499 P, o500 P, o501 P, o502 P, o503 P, o504 P, o505 P, o506 P, o507 P, o508 P, o509 P, o510 P, o511 P, o512 P, o513 P, o514 P, o515 P, o516 P, o517 P, o518 P, o519 P, o520 P, o521 P, o522 P, o523 P, o524 P, o525 P, o526 P, o527 P, o528 P, o529 P, o530 P, o531 P, o532 P, o533 P, o534 P, o535 P, o536 P, o537 P, o538 P, o539 P, o540 P, o541 P, o542 P, o543 P, o544 P, o545 P, o546 P, o547 P, o548 P, o549 P, o550 P, o551 P, o552 P, o553 P, o554 P, o555 P, o556 P, o557 P, o558 P, o559 P, o560 P, o561 P, o562 P, o563 P, o564 P, o565 P, o566 P, o567 P, o568 P, o569 P, o570 P, o571 P, o572 P, o573 P, o574 P, o575 P, o576 P, o577 P, o578 P, o579 P, o580 P, o581 P, o582 P, o583 P, o584 P, o585 P, o586 P, o587 P, o588 P, o589 P, o590 P, o591 P, o592 P, o593 P, o594 P, o595 P, o596 P, o597 P, o598 P, o599 P, o600 P, o601 P, o602 P, o603 P, o604 P, o605 P, o606 P, o607 P, o608 P, o609 P, o610 P, o611 P, o612 P, o613 P, o614 P, o615 P, o616 P, o617 P, o618 P, o619 P, o620 P, o621 P, o622 P, o623 P, o624 P, o625 P, o626 P, o627 P, o628 P, o629 P, o630 P, o631 P, o632 P, o633 P, o634 P, o635 P, o636 P, o637 P, o638 P, o639 P, o640 P, o641 P, o642 P, o643 P, o644 P, o645 P, o646 P, o647 P, o648 P, o649 P, o650 P, o651 P, o652 P, o653 P, o654 P, o655 P, o656 P, o657 P, o658 P, o659 P, o660 P, o661 P, o662 P, o663 P, o664 P, o665 P, o666 P, o667 P, o668 P, o669 P, o670 P, o671 P, o672 P, o673 P, o674 P, o675 P, o676 P, o677 P, o678 P, o679 P, o680 P, o681 P, o682 P, o683 P, o684 P, o685 P, o686 P, o687 P, o688 P, o689 P, o690 P, o691 P, o692 P, o693 P, o694 P, o695 P, o696 P, o697 P, o698 P, o699 P, o700 P, o701 P, o702 P, o703 P, o704 P, o705 P, o706 P, o707 P, o708 P, o709 P, o710 P, o711 P, o712 P, o713 P, o714 P, o715 P, o716 P, o717 P, o718 P, o719 P, o720 P, o721 P, o722 P, o723 P, o724 P, o725 P, o726 P, o727 P, o728 P, o729 P, o730 P, o731 P, o732 P, o733 P, o734 P, o735 P, o736 P, o737 P, o738 P, o739 P, o740 P, o741 P, o742 P, o743 P, o744 P, o745 P, o746 P, o747 P, o748 P, o749 P, o750 P, o751 P, o752 P, o753 P, o754 P, o755 P, o756 P, o757 P, o758 P, o759 P, o760 P, o761 P, o762 P, o763 P, o764 P, o765 P, o766 P, o767 P, o768 P, o769 P, o770 P, o771 P, o772 P, o773 P, o774 P, o775 P, o776 P, o777 P, o778 P, o779 P, o780 P, o781 P, o782 P, o783 P, o784 P, o785 P, o786 P, o787 P, o788 P, o789 P, o790 P, o791 P, o792 P, o793 P, o794 P, o795 P, o796 P, o797 P, o798 P, o799 P, o800 P, o801 P, o802 P, o803 P, o804 P, o805 P, o806 P, o807 P, o808 P, o809 P, o810 P, o811 P, o812 P, o813 P, o814 P, o815 P, o816 P, o817 P, o818 P, o819 P, o820 P, o821 P, o822 P, o823 P, o824 P, o825 P, o826 P, o827 P, o828 P, o829 P, o830 P, o831 P, o832 P, o833 P, o834 P, o835 P, o836 P, o837 P, o838 P, o839 P, o840 P, o841 P, o842 P, o843 P, o844 P, o845 P, o846 P, o847 P, o848 P, o849 P, o850 P, o851 P, o852 P, o853 P, o854 P, o855 P, o856 P, o857 P, o858 P, o859 P, o860 P, o861 P, o862 P, o863 P, o864 P, o865 P, o866 P, o867 P, o868 P, o869 P, o870 P, o871 P, o872 P, o873 P, o874 P, o875 P, o876 P, o877 P, o878 P, o879 P, o880 P, o881 P, o882 P, o883 P, o884 P, o885 P, o886 P, o887 P, o888 P, o889 P, o890 P, o891 P, o892 P, o893 P, o894 P, o895 P, o896 P, o897 P, o898 P, o899 P, o900 P, o901 P, o902 P, o903 P, o904 P, o905 P, o906 P, o907 P, o908 P, o909 P, o910 P, o911 P, o912 P, o913 P, o914 P, o915 P, o916 P, o917 P, o918 P, o919 P, o920 P, o921 P, o922 P, o923 P, o924 P, o925 P, o926 P, o927 P, o928 P, o929 P, o930 P, o931 P, o932 P, o933 P, o934 P, o935 P, o936 P, o937 P, o938 P, o939 P, o940 P, o941 P, o942 P, o943 P, o944 P, o945 P, o946 P, o947 P, o948 P, o949 P, o950 P, o951 P, o952 P, o953 P, o954 P, o955 P, o956 P, o957 P, o958 P, o959 P, o960 P, o961 P, o962 P, o963 P, o964 P, o965 P, o966 P, o967 P, o968 P, o969 P, o970 P, o971 P, o972 P, o973 P, o974 P, o975 P, o976 P, o977 P, o978 P, o979 P, o980 P, o981 P, o982 P, o983 P, o984 P, o985 P, o986 P, o987 P, o988 P, o989 P, o990 P, o991 P, o992 P, o993 P, o994 P, o995 P, o996 P, o997 P, o998 P, o999 P, o1000 P, o1001 P, o1002 P, o1003 P, o1004 P, o1005 P, o1006 P, o1007 P, o1008 P, o1009 P, o1010 P, o1011 P, o1012 P, o1013 P, o1014 P, o1015 P, o1016 P, o1017 P, o1018 P, o1019 P, o1020 P, o1021 P, o1022 P, o1023 P, o1024 P, o1025 P, o1026 P, o1027 P, o1028 P, o1029 P, o1030 P, o1031 P, o1032 P, o1033 P, o1034 P, o1035 P, o1036 P, o1037 P, o1038 P, o1039 P, o1040 P, o1041 P, o1042 P, o1043 P, o1044 P, o1045 P, o1046 P, o1047 P, o1048 P, o1049 P, o1050 P, o1051 P, o1052 P, o1053 P, o1054 P, o1055 P, o1056 P, o1057 P, o1058 P, o1059 P, o1060 P, o1061 P, o1062 P, o1063 P, o1064 P, o1065 P, o1066 P, o1067 P, o1068 P, o1069 P, o1070 P, o1071 P, o1072 P, o1073 P, o1074 P, o1075 P, o1076 P, o1077 P, o1078 P, o1079 P, o1080 P, o1081 P, o1082 P, o1083 P, o1084 P, o1085 P, o1086 P, o1087 P, o1088 P, o1089 P, o1090 P, o1091 P, o1092 P, o1093 P, o1094 P, o1095 P, o1096 P, o1097 P, o1098 P, o1099 P, o1100 P, o1101 P, o1102 P, o1103 P, o1104 P, o1105 P, o1106 P, o1107 P, o1108 P, o1109 P, o1110 P, o1111 P, o1112 P, o1113 P, o1114 P, o1115 P, o1116 P, o1117 P, o1118 P, o1119 P, o1120 P, o1121 P, o1122 P, o1123 P, o1124 P, o1125 P]
noncomputable def T0 (P : Params) : BT := bt 20 (chg [(2, boot_o_2 P), (3, boot_o_3 P), (12, f [])] ((LF P).take 15))
noncomputable def S0 (w : World) (os : OsState) : SharedT := ⟨T0 w.params, 15, { }, #[], { }, 187, os⟩
noncomputable def T1 (P : Params) : BT := bt 20 (chg [(3, dcut (o3 P) 14 14 [(0, (t "octetmint.basics" 194))]), (12, f [(i 1 0), (i 0 0), (r 20), (i 5 0), (i 0 0), (r 27), (i 16 0), (i 0 0), (r 55), (i 18 0), (i 0 0), (r 67), (i 20 0), (i 0 0), (r 79)])] ((LF P).take 81))
noncomputable def S1 (w : World) (os : OsState) : SharedT := ⟨T1 w.params, 81, { }, #[], { }, 273, os⟩
noncomputable def T2 (P : Params) : BT := bt 20 (chg [(3, dcut (o3 P) 20 20 [(0, (t "octetmint.debug" 306))]), (12, f [(i 1 0), (i 0 0), (r 20), (i 5 0), (i 0 0), (r 27), (i 16 0), (i 0 0), (r 55), (i 18 0), (i 0 0), (r 67), (i 20 0), (i 0 0), (r 79), (i 22 0), (i 0 0), (r 86), (i 24 0), (i 0 0), (r 93), (i 26 0), (i 0 0), (r 100), (i 33 0), (i 0 0), (r 107)])] ((LF P).take 109))
noncomputable def S2 (w : World) (os : OsState) : SharedT := ⟨T2 w.params, 109, { }, #[], { }, 312, os⟩
noncomputable def T3 (P : Params) : BT := bt 20 (chg [(3, dcut (o3 P) 21 21 [(0, (t "octetmint.debug" 306))]), (12, f [(i 1 0), (i 0 0), (r 20), (i 5 0), (i 0 0), (r 27), (i 16 0), (i 0 0), (r 55), (i 18 0), (i 0 0), (r 67), (i 20 0), (i 0 0), (r 79), (i 22 0), (i 0 0), (r 86), (i 24 0), (i 0 0), (r 93), (i 26 0), (i 0 0), (r 100), (i 33 0), (i 0 0), (r 107), (i 38 0), (i 0 0), (r 114)])] ((LF P).take 239))
noncomputable def S3 (w : World) (os : OsState) : SharedT := ⟨T3 w.params, 239, { }, #[], { }, 490, os⟩
noncomputable def T4 (P : Params) : BT := bt 20 (chg [(3, dcut (o3 P) 32 32 [(0, (t "octetmint.flags" 544))]), (12, f [(i 1 0), (i 0 0), (r 20), (i 5 0), (i 0 0), (r 27), (i 16 0), (i 0 0), (r 55), (i 18 0), (i 0 0), (r 67), (i 20 0), (i 0 0), (r 79), (i 22 0), (i 0 0), (r 86), (i 24 0), (i 0 0), (r 93), (i 26 0), (i 0 0), (r 100), (i 33 0), (i 0 0), (r 107), (i 38 0), (i 0 0), (r 114), (i 135 0), (i 0 0), (r 244), (i 147 0), (i 0 0), (r 272)])] ((LF P).take 274))
noncomputable def S4 (w : World) (os : OsState) : SharedT := ⟨T4 w.params, 274, { }, #[], { }, 562, os⟩
noncomputable def T5 (P : Params) : BT := bt 20 (chg [(3, dcut (o3 P) 42 42 [(0, (t "octetmint.registers" 713))]), (12, f [(i 1 0), (i 0 0), (r 20), (i 5 0), (i 0 0), (r 27), (i 16 0), (i 0 0), (r 55), (i 18 0), (i 0 0), (r 67), (i 20 0), (i 0 0), (r 79), (i 22 0), (i 0 0), (r 86), (i 24 0), (i 0 0), (r 93), (i 26 0), (i 0 0), (r 100), (i 33 0), (i 0 0), (r 107), (i 38 0), (i 0 0), (r 114), (i 135 0), (i 0 0), (r 244), (i 147 0), (i 0 0), (r 272), (i 158 0), (i 0 0), (r 279), (i 209 0), (i 0 0), (r 356), (i 213 0), (i 0 0), (r 363), (i 232 0), (i 0 0), (r 370), (i 234 0), (i 0 0), (r 377), (i 240 0), (i 0 0), (r 384)])] ((LF P).take 386))
noncomputable def S5 (w : World) (os : OsState) : SharedT := ⟨T5 w.params, 386, { }, #[], { }, 723, os⟩
noncomputable def T6 (P : Params) : BT := bt 20 (chg [(3, dcut (o3 P) 48 48 [(0, (t "octetmint.machine" 816))]), (12, f [(i 1 0), (i 0 0), (r 20), (i 5 0), (i 0 0), (r 27), (i 16 0), (i 0 0), (r 55), (i 18 0), (i 0 0), (r 67), (i 20 0), (i 0 0), (r 79), (i 22 0), (i 0 0), (r 86), (i 24 0), (i 0 0), (r 93), (i 26 0), (i 0 0), (r 100), (i 33 0), (i 0 0), (r 107), (i 38 0), (i 0 0), (r 114), (i 135 0), (i 0 0), (r 244), (i 147 0), (i 0 0), (r 272), (i 158 0), (i 0 0), (r 279), (i 209 0), (i 0 0), (r 356), (i 213 0), (i 0 0), (r 363), (i 232 0), (i 0 0), (r 370), (i 234 0), (i 0 0), (r 377), (i 240 0), (i 0 0), (r 384), (i 253 0), (i 0 0), (r 391), (i 275 0), (i 0 0), (r 447), (i 285 0), (i 0 0), (r 454), (i 293 0), (i 0 0), (r 461)])] ((LF P).take 463))
noncomputable def S6 (w : World) (os : OsState) : SharedT := ⟨T6 w.params, 463, { }, #[], { }, 822, os⟩
noncomputable def T7 (P : Params) : BT := bt 20 (chg [(3, dcut (o3 P) 51 51 [(0, (t "octetmint.machine" 816)), (49, (r 563))]), (12, f [(i 1 0), (i 0 0), (r 20), (i 5 0), (i 0 0), (r 27), (i 16 0), (i 0 0), (r 55), (i 18 0), (i 0 0), (r 67), (i 20 0), (i 0 0), (r 79), (i 22 0), (i 0 0), (r 86), (i 24 0), (i 0 0), (r 93), (i 26 0), (i 0 0), (r 100), (i 33 0), (i 0 0), (r 107), (i 38 0), (i 0 0), (r 114), (i 135 0), (i 0 0), (r 244), (i 147 0), (i 0 0), (r 272), (i 158 0), (i 0 0), (r 279), (i 209 0), (i 0 0), (r 356), (i 213 0), (i 0 0), (r 363), (i 232 0), (i 0 0), (r 370), (i 234 0), (i 0 0), (r 377), (i 240 0), (i 0 0), (r 384), (i 253 0), (i 0 0), (r 391), (i 275 0), (i 0 0), (r 447), (i 285 0), (i 0 0), (r 454), (i 293 0), (i 0 0), (r 461), (i 303 0), (i 0 0), (r 468), (i 351 0), (i 0 0), (r 562)])] ((LF P).take 564))
noncomputable def S7 (w : World) (os : OsState) : SharedT := ⟨T7 w.params, 564, { }, #[], { }, 956, os⟩
noncomputable def T8 (P : Params) : BT := bt 20 (chg [(3, dcut (o3 P) 55 55 [(0, (t "octetmint.machine" 816)), (49, (r 563))]), (12, f [(i 1 0), (i 0 0), (r 20), (i 5 0), (i 0 0), (r 27), (i 16 0), (i 0 0), (r 55), (i 18 0), (i 0 0), (r 67), (i 20 0), (i 0 0), (r 79), (i 22 0), (i 0 0), (r 86), (i 24 0), (i 0 0), (r 93), (i 26 0), (i 0 0), (r 100), (i 33 0), (i 0 0), (r 107), (i 38 0), (i 0 0), (r 114), (i 135 0), (i 0 0), (r 244), (i 147 0), (i 0 0), (r 272), (i 158 0), (i 0 0), (r 279), (i 209 0), (i 0 0), (r 356), (i 213 0), (i 0 0), (r 363), (i 232 0), (i 0 0), (r 370), (i 234 0), (i 0 0), (r 377), (i 240 0), (i 0 0), (r 384), (i 253 0), (i 0 0), (r 391), (i 275 0), (i 0 0), (r 447), (i 285 0), (i 0 0), (r 454), (i 293 0), (i 0 0), (r 461), (i 303 0), (i 0 0), (r 468), (i 351 0), (i 0 0), (r 562), (i 356 0), (i 0 0), (r 569), (i 461 0), (i 0 0), (r 679), (i 471 0), (i 0 0), (r 686), (i 479 0), (i 0 0), (r 693)])] ((LF P).take 695))
noncomputable def S8 (w : World) (os : OsState) : SharedT := ⟨T8 w.params, 695, { }, #[], { }, 1136, os⟩
noncomputable def T9 (P : Params) : BT := bt 20 (chg [(3, dcut (o3 P) 58 58 [(0, (t "octetmint.operands" 1146)), (49, (r 563))]), (12, f [(i 1 0), (i 0 0), (r 20), (i 5 0), (i 0 0), (r 27), (i 16 0), (i 0 0), (r 55), (i 18 0), (i 0 0), (r 67), (i 20 0), (i 0 0), (r 79), (i 22 0), (i 0 0), (r 86), (i 24 0), (i 0 0), (r 93), (i 26 0), (i 0 0), (r 100), (i 33 0), (i 0 0), (r 107), (i 38 0), (i 0 0), (r 114), (i 135 0), (i 0 0), (r 244), (i 147 0), (i 0 0), (r 272), (i 158 0), (i 0 0), (r 279), (i 209 0), (i 0 0), (r 356), (i 213 0), (i 0 0), (r 363), (i 232 0), (i 0 0), (r 370), (i 234 0), (i 0 0), (r 377), (i 240 0), (i 0 0), (r 384), (i 253 0), (i 0 0), (r 391), (i 275 0), (i 0 0), (r 447), (i 285 0), (i 0 0), (r 454), (i 293 0), (i 0 0), (r 461), (i 303 0), (i 0 0), (r 468), (i 351 0), (i 0 0), (r 562), (i 356 0), (i 0 0), (r 569), (i 461 0), (i 0 0), (r 679), (i 471 0), (i 0 0), (r 686), (i 479 0), (i 0 0), (r 693), (i 482 0), (i 0 0), (r 700), (i 490 0), (i 0 0), (r 707), (i 503 0), (i 0 0), (r 749)]), (739, { cls := (.type "type"), data := .cls { name := s "Operand", bases := [(.type "object")], mro := [(r 739), (.type "object")], ns := 738, qualname := s "Operand", subclasses := [(r 774)] }, slots := #[none, none, (some (t "Operand" 1148)), (some (t "Operand" 1156)), (some (.builtin "object.__new__")), (some (.bool true))] })] ((LF P).take 777))
noncomputable def S9 (w : World) (os : OsState) : SharedT := ⟨T9 w.params, 777, { }, #[], { }, 1237, os⟩
noncomputable def T10 (P : Params) : BT := bt 20 (chg [(3, dcut (o3 P) 60 60 [(0, (t "octetmint.flow" 1360)), (49, (r 563))]), (12, f [(i 1 0), (i 0 0), (r 20), (i 5 0), (i 0 0), (r 27), (i 16 0), (i 0 0), (r 55), (i 18 0), (i 0 0), (r 67), (i 20 0), (i 0 0), (r 79), (i 22 0), (i 0 0), (r 86), (i 24 0), (i 0 0), (r 93), (i 26 0), (i 0 0), (r 100), (i 33 0), (i 0 0), (r 107), (i 38 0), (i 0 0), (r 114), (i 135 0), (i 0 0), (r 244), (i 147 0), (i 0 0), (r 272), (i 158 0), (i 0 0), (r 279), (i 209 0), (i 0 0), (r 356), (i 213 0), (i 0 0), (r 363), (i 232 0), (i 0 0), (r 370), (i 234 0), (i 0 0), (r 377), (i 240 0), (i 0 0), (r 384), (i 253 0), (i 0 0), (r 391), (i 275 0), (i 0 0), (r 447), (i 285 0), (i 0 0), (r 454), (i 293 0), (i 0 0), (r 461), (i 303 0), (i 0 0), (r 468), (i 351 0), (i 0 0), (r 562), (i 356 0), (i 0 0), (r 569), (i 461 0), (i 0 0), (r 679), (i 471 0), (i 0 0), (r 686), (i 479 0), (i 0 0), (r 693), (i 482 0), (i 0 0), (r 700), (i 490 0), (i 0 0), (r 707), (i 503 0), (i 0 0), (r 749), (i 514 0), (i 0 0), (r 782), (i 529 0), (i 0 0), (r 823)])] ((LF P).take 873))
noncomputable def S10 (w : World) (os : OsState) : SharedT := ⟨T10 w.params, 873, { }, #[], { }, 1362, os⟩
noncomputable def T11 (P : Params) : BT := bt 20 (chg [(3, dcut (o3 P) 91 91 [(0, (t "octetmint.transfers" 1370)), (49, (r 563))]), (12, f [(i 1 0), (i 0 0), (r 20), (i 5 0), (i 0 0), (r 27), (i 16 0), (i 0 0), (r 55), (i 18 0), (i 0 0), (r 67), (i 20 0), (i 0 0), (r 79), (i 22 0), (i 0 0), (r 86), (i 24 0), (i 0 0), (r 93), (i 26 0), (i 0 0), (r 100), (i 33 0), (i 0 0), (r 107), (i 38 0), (i 0 0), (r 114), (i 135 0), (i 0 0), (r 244), (i 147 0), (i 0 0), (r 272), (i 158 0), (i 0 0), (r 279), (i 209 0), (i 0 0), (r 356), (i 213 0), (i 0 0), (r 363), (i 232 0), (i 0 0), (r 370), (i 234 0), (i 0 0), (r 377), (i 240 0), (i 0 0), (r 384), (i 253 0), (i 0 0), (r 391), (i 275 0), (i 0 0), (r 447), (i 285 0), (i 0 0), (r 454), (i 293 0), (i 0 0), (r 461), (i 303 0), (i 0 0), (r 468), (i 351 0), (i 0 0), (r 562), (i 356 0), (i 0 0), (r 569), (i 461 0), (i 0 0), (r 679), (i 471 0), (i 0 0), (r 686), (i 479 0), (i 0 0), (r 693), (i 482 0), (i 0 0), (r 700), (i 490 0), (i 0 0), (r 707), (i 503 0), (i 0 0), (r 749), (i 514 0), (i 0 0), (r 782), (i 529 0), (i 0 0), (r 823), (i 555 0), (i 0 0), (r 878), (i 573 0), (i 0 0), (r 885), (i 580 0), (i 0 0), (r 892), (i 596 0), (i 0 0), (r 899), (i 600 0), (i 0 0), (r 906), (i 605 0), (i 0 0), (r 913), (i 621 0), (i 0 0), (r 920), (i 627 0), (i 0 0), (r 927), (i 630 0), (i 0 0), (r 934), (i 642 0), (i 0 0), (r 941), (i 659 0), (i 0 0), (r 948), (i 662 0), (i 0 0), (r 955), (i 683 0), (i 0 0), (r 962), (i 689 0), (i 0 0), (r 969), (i 704 0), (i 0 0), (r 976), (i 706 0), (i 0 0), (r 983), (i 709 0), (i 0 0), (r 990), (i 714 0), (i 0 0), (r 997), (i 720 0), (i 0 0), (r 1004), (i 726 0), (i 0 0), (r 1009)])] ((LF P).take 1011))
noncomputable def S11 (w : World) (os : OsState) : SharedT := ⟨T11 w.params, 1011, { }, #[], { }, 1577, os⟩
noncomputable def T12 (P : Params) : BT := bt 20 (chg [] ((LF P).take 1126))
noncomputable def S12 (w : World) (os : OsState) : SharedT := ⟨T12 w.params, 1126, { }, #[], { }, 1769, os⟩
noncomputable def KK : Params → Frag := fun P => (nat_lit 2, o2 P) :: (nat_lit 3, o3 P) :: (nat_lit 20, o20 P) :: (nat_lit 21, o21 P) :: (nat_lit 29, o29 P) :: (nat_lit 35, o35 P) :: (nat_lit 36, o36 P) :: (nat_lit 45, o45 P) :: (nat_lit 46, o46 P) :: (nat_lit 58, o58 P) :: (nat_lit 59, o59 P) :: (nat_lit 70, o70 P) :: (nat_lit 71, o71 P) :: (nat_lit 79, o79 P) :: (nat_lit 80, o80 P) :: (nat_lit 86, o86 P) :: (nat_lit 87, o87 P) :: (nat_lit 93, o93 P) :: (nat_lit 94, o94 P) :: (nat_lit 121, o121 P) :: (nat_lit 122, o122 P) :: (nat_lit 155, o155 P) :: (nat_lit 156, o156 P) :: (nat_lit 162, o162 P) :: (nat_lit 163, o163 P) :: (nat_lit 169, o169 P) :: (nat_lit 170, o170 P) :: (nat_lit 176, o176 P) :: (nat_lit 177, o177 P) :: (nat_lit 183, o183 P) :: (nat_lit 184, o184 P) :: (nat_lit 190, o190 P) :: (nat_lit 191, o191 P) :: (nat_lit 204, o204 P) :: (nat_lit 205, o205 P) :: (nat_lit 211, o211 P) :: (nat_lit 212, o212 P) :: (nat_lit 216, o216 P) :: (nat_lit 217, o217 P) :: (nat_lit 223, o223 P) :: (nat_lit 224, o224 P) :: (nat_lit 233, o233 P) :: (nat_lit 234, o234 P) :: (nat_lit 251, o251 P) :: (nat_lit 252, o252 P) :: (nat_lit 261, o261 P) :: (nat_lit 262, o262 P) :: (nat_lit 286, o286 P) :: (nat_lit 287, o287 P) :: (nat_lit 345, o345 P) :: (nat_lit 346, o346 P) :: (nat_lit 398, o398 P) :: (nat_lit 399, o399 P) :: (nat_lit 436, o436 P) :: (nat_lit 437, o437 P) :: (nat_lit 447, o447 P) :: (nat_lit 448, o448 P) :: (nat_lit 454, o454 P) :: (nat_lit 455, o455 P) :: (nat_lit 461, o461 P) :: (nat_lit 462, o462 P) :: (nat_lit 475, o475 P) :: (nat_lit 476, o476 P) :: (nat_lit 482, o482 P) :: (nat_lit 483, o483 P) :: (nat_lit 489, o489 P) :: (nat_lit 490, o490 P) :: (nat_lit 496, o496 P) :: (nat_lit 497, o497 P) :: (nat_lit 503, o503 P) :: (nat_lit 504, o504 P) :: (nat_lit 551, o551 P) :: (nat_lit 552, o552 P) :: (nat_lit 562, o562 P) :: (nat_lit 563, o563 P) :: (nat_lit 576, o576 P) :: (nat_lit 577, o577 P) :: (nat_lit 583, o583 P) :: (nat_lit 584, o584 P) :: (nat_lit 590, o590 P) :: (nat_lit 591, o591 P) :: (nat_lit 597, o597 P) :: (nat_lit 598, o598 P) :: (nat_lit 623, o623 P) :: (nat_lit 624, o624 P) :: (nat_lit 630, o630 P) :: (nat_lit 631, o631 P) :: (nat_lit 637, o637 P) :: (nat_lit 638, o638 P) :: (nat_lit 644, o644 P) :: (nat_lit 645, o645 P) :: (nat_lit 651, o651 P) :: (nat_lit 652, o652 P) :: (nat_lit 668, o668 P) :: (nat_lit 669, o669 P) :: (nat_lit 679, o679 P) :: (nat_lit 680, o680 P) :: (nat_lit 686, o686 P) :: (nat_lit 687, o687 P) :: (nat_lit 693, o693 P) :: (nat_lit 694, o694 P) :: (nat_lit 700, o700 P) :: (nat_lit 701, o701 P) :: (nat_lit 714, o714 P) :: (nat_lit 715, o715 P) :: (nat_lit 738, o738 P) :: (nat_lit 739, o739 P) :: (nat_lit 756, o756 P) :: (nat_lit 757, o757 P) :: (nat_lit 773, o773 P) :: (nat_lit 774, o774 P) :: (nat_lit 784, o784 P) :: (nat_lit 790, o790 P) :: (nat_lit 791, o791 P) :: (nat_lit 814, o814 P) :: (nat_lit 815, o815 P) :: (nat_lit 825, o825 P) :: (nat_lit 831, o831 P) :: (nat_lit 832, o832 P) :: (nat_lit 867, o867 P) :: (nat_lit 868, o868 P) :: (nat_lit 892, o892 P) :: (nat_lit 893, o893 P) :: (nat_lit 899, o899 P) :: (nat_lit 900, o900 P) :: (nat_lit 906, o906 P) :: (nat_lit 907, o907 P) :: (nat_lit 913, o913 P) :: (nat_lit 914, o914 P) :: (nat_lit 920, o920 P) :: (nat_lit 921, o921 P) :: (nat_lit 941, o941 P) :: (nat_lit 942, o942 P) :: (nat_lit 969, o969 P) :: (nat_lit 970, o970 P) :: (nat_lit 1056, o1056 P) :: (nat_lit 1057, o1057 P) :: (nat_lit 1063, o1063 P) :: (nat_lit 1064, o1064 P) :: (nat_lit 1070, o1070 P) :: (nat_lit 1071, o1071 P) :: (nat_lit 1077, o1077 P) :: (nat_lit 1078, o1078 P) :: (nat_lit 1084, o1084 P) :: (nat_lit 1085, o1085 P) :: (nat_lit 1091, o1091 P) :: (nat_lit 1092, o1092 P) :: (nat_lit 1098, o1098 P) :: (nat_lit 1099, o1099 P) :: (nat_lit 1105, o1105 P) :: (nat_lit 1106, o1106 P) :: (nat_lit 1110, o1110 P) :: (nat_lit 1111, o1111 P) :: (nat_lit 1117, o1117 P) :: (nat_lit 1118, o1118 P) :: (nat_lit 1124, o1124 P) :: (nat_lit 1125, o1125 P) :: []
end
end HD
end
section
open PySem PySem.W PyProof.Rows
namespace HD
noncomputable section
theorem pc0 (w : World) (os : OsState) : segRunT treeTable pw w 11 (some (.ref 6)) 1 756 (S0 w os) (piecesOf ((bE.drop 0).take 6) ev cE ⟨0, 0, 0, 0⟩ Bf) = some (.next, S1 w os, cE, ⟨20, 0, 21, 26⟩) := by
  rw [PySem.W.Fast.te10110043849684766642, PySem.W.Fast.te14364793385576792824]; unfold piecesOf; rw [PySem.W.Fast.te12563942051412417395]; kernel_rfl
theorem pc1 (w : World) (os : OsState) : segRunT treeTable pw w 11 (some (.ref 6)) 1 149 (S1 w os) (piecesOf ((bE.drop 6).take 7) ev cE ⟨20, 0, 21, 26⟩ Bf) = some (.next, S2 w os, cE, ⟨37, 0, 37, 5⟩) := by
  rw [PySem.W.Fast.te10110043849684766642, PySem.W.Fast.te14364793385576792824]; unfold piecesOf; rw [PySem.W.Fast.te12563942051412417395]; kernel_rfl
theorem pc2 (w : World) (os : OsState) : segRunT treeTable pw w 11 (some (.ref 6)) 1 753 (S2 w os) (piecesOf ((bE.drop 13).take 1) ev cE ⟨37, 0, 37, 5⟩ Bf) = some (.next, S3 w os, cE, ⟨38, 0, 133, 16⟩) := by
  rw [PySem.W.Fast.te10110043849684766642, PySem.W.Fast.te14364793385576792824]; unfold piecesOf; rw [PySem.W.Fast.te12563942051412417395]; kernel_rfl
theorem pc3 (w : World) (os : OsState) : segRunT treeTable pw w 11 (some (.ref 6)) 1 396 (S3 w os) (piecesOf ((bE.drop 14).take 14) ev cE ⟨38, 0, 133, 16⟩ Bf) = some (.next, S4 w os, cE, ⟨157, 0, 157, 10⟩) := by
  rw [PySem.W.Fast.te10110043849684766642, PySem.W.Fast.te14364793385576792824]; unfold piecesOf; rw [PySem.W.Fast.te12563942051412417395]; kernel_rfl
theorem pc4 (w : World) (os : OsState) : segRunT treeTable pw w 11 (some (.ref 6)) 1 692 (S4 w os) (piecesOf ((bE.drop 28).take 11) ev cE ⟨157, 0, 157, 10⟩ Bf) = some (.next, S5 w os, cE, ⟨252, 0, 252, 8⟩) := by
  rw [PySem.W.Fast.te10110043849684766642, PySem.W.Fast.te14364793385576792824]; unfold piecesOf; rw [PySem.W.Fast.te12563942051412417395]; kernel_rfl
theorem pc5 (w : World) (os : OsState) : segRunT treeTable pw w 11 (some (.ref 6)) 1 500 (S5 w os) (piecesOf ((bE.drop 39).take 7) ev cE ⟨252, 0, 252, 8⟩ Bf) = some (.next, S6 w os, cE, ⟨302, 0, 302, 5⟩) := by
  rw [PySem.W.Fast.te10110043849684766642, PySem.W.Fast.te14364793385576792824]; unfold piecesOf; rw [PySem.W.Fast.te12563942051412417395]; kernel_rfl
theorem pc6 (w : World) (os : OsState) : segRunT treeTable pw w 11 (some (.ref 6)) 1 619 (S6 w os) (piecesOf ((bE.drop 46).take 3) ev cE ⟨302, 0, 302, 5⟩ Bf) = some (.next, S7 w os, cE, ⟨355, 0, 355, 14⟩) := by
  rw [PySem.W.Fast.te10110043849684766642, PySem.W.Fast.te14364793385576792824]; unfold piecesOf; rw [PySem.W.Fast.te12563942051412417395]; kernel_rfl
theorem pc7 (w : World) (os : OsState) : segRunT treeTable pw w 11 (some (.ref 6)) 1 750 (S7 w os) (piecesOf ((bE.drop 49).take 4) ev cE ⟨355, 0, 355, 14⟩ Bf) = some (.next, S8 w os, cE, ⟨479, 0, 481, 36⟩) := by
  rw [PySem.W.Fast.te10110043849684766642, PySem.W.Fast.te14364793385576792824]; unfold piecesOf; rw [PySem.W.Fast.te12563942051412417395]; kernel_rfl
theorem pc8 (w : World) (os : OsState) : segRunT treeTable pw w 11 (some (.ref 6)) 1 664 (S8 w os) (piecesOf ((bE.drop 53).take 4) ev cE ⟨479, 0, 481, 36⟩ Bf) = some (.next, S9 w os, cE, ⟨503, 0, 513, 30⟩) := by
  rw [PySem.W.Fast.te10110043849684766642, PySem.W.Fast.te14364793385576792824]; unfold piecesOf; rw [PySem.W.Fast.te12563942051412417395]; kernel_rfl
theorem pc9 (w : World) (os : OsState) : segRunT treeTable pw w 11 (some (.ref 6)) 1 738 (S9 w os) (piecesOf ((bE.drop 57).take 3) ev cE ⟨503, 0, 513, 30⟩ Bf) = some (.next, S10 w os, cE, ⟨554, 0, 554, 8⟩) := by
  rw [PySem.W.Fast.te10110043849684766642, PySem.W.Fast.te14364793385576792824]; unfold piecesOf; rw [PySem.W.Fast.te12563942051412417395]; kernel_rfl
theorem pc10 (w : World) (os : OsState) : segRunT treeTable pw w 11 (some (.ref 6)) 1 746 (S10 w os) (piecesOf ((bE.drop 60).take 32) ev cE ⟨554, 0, 554, 8⟩ Bf) = some (.next, S11 w os, cE, ⟨726, 0, 727, 66⟩) := by
  rw [PySem.W.Fast.te10110043849684766642, PySem.W.Fast.te14364793385576792824]; unfold piecesOf; rw [PySem.W.Fast.te12563942051412417395]; kernel_rfl
theorem pc11 (w : World) (os : OsState) : segRunT treeTable pw w 11 (some (.ref 6)) 1 586 (S11 w os) (piecesOf ((bE.drop 92).take 20) ev cE ⟨726, 0, 727, 66⟩ Bf) = some (.next, S12 w os, cE, ⟨850, 0, 877, 15⟩) := by
  rw [PySem.W.Fast.te10110043849684766642, PySem.W.Fast.te14364793385576792824]; unfold piecesOf; rw [PySem.W.Fast.te12563942051412417395]; kernel_rfl
end
end HD
end
section
open PySem PySem.W PyProof.Rows
namespace HD
noncomputable section
noncomputable def vw : Program := { pw with main := { pw.main with body := [st 111] } }
noncomputable def loose : List Str := [s "_wall", s "MintError", s "OperandError", s "MachineError", s "mask", s "wrap", s "bit", s "ones", s "parity", s "STACK_debug", s "FRAME", s "Debugger", s "Decoded", s "CONDITIONS", s "condition_names", s "CF", s "PF", s "AF", s "ZF", s "SF", s "DF", s "OF", s "FLAG_NAMES", s "Flags", s "condition_number", s "holds_number", s "holds", s "szp", s "sub_flags", s "NAMES_8", s "NAMES_16", s "NAMES_32", s "NAMES_64", s "Register", s "early_names", s "late_ending", s "gpr", s "STACK_machine", s "TRAPS", s "Memory", s "joined", s "joined_machine", s "State", s "done", s "proceed", s "need_running", s "step_row", s "Operand", s "Reg", s "Rel", s "Instruction", s "string_stem", s "RAX", s "RCX", s "RSP", s "RBP", s "RSI", s "RDI", s "ALL_LANES", s "LETTERS", s "WHOLE_MOVES", s "ALIGNED_MOVES", s "BIT_NAMES", s "exchange", s "move_deed", s "push_operand", s "pop_operand", s "stack_deed", s "target_of", s "count_down", s "is_taken", s "jump_deed", s "go_on", s "string_round", s "is_last", s "string_deed", s "is_xmm", s "need_aligned", s "whole_move", s "part_size", s "part_move", s "lanes", s "joined_transfers", s "lane_size", s "lane_worth", s "lane_result", s "bit_result", s "vector_move", s "vector_deed", s "transfer_deed", s "_law_above", s "_law_pull", s "_law_below", s "_law_bodies", s "_law_begins", s "_law_program", s "_law_nest", s "_law_stands", s "_law_behind"]
noncomputable def Ha (P : Params) : Heap := ⟨(chg [(2, boot_o_2 P), (3, boot_o_3 P), (12, f [])] ((LF P).take 15)).toArray, {}⟩
noncomputable def Hf (P : Params) : Heap := ⟨(LF P).toArray, {}⟩
theorem h_pre (w : World) (os : OsState) : topGo treeTable pw w 11 (some (.ref 6)) 12 ⟨boot_heap w.params, #[], boot_drawn, boot_toks, os⟩ (topStub pw) = some (⟨Ha w.params, #[], {}, 187, os⟩, ⟨denote treeTable cE, cE, ⟨0, 0, 0, 0⟩, Bf⟩) := by
  rw [PySem.W.Fast.te15667345088766844465, PySem.W.Fast.te14364793385576792824, PySem.W.Fast.te11892475500146522536]; kernel_rfl
theorem h_block (w : World) (os : OsState) : segRun treeTable pw w 11 (some (.ref 6)) 1 1 ⟨Ha w.params, #[], {}, 187, os⟩ (blockOf bE ev cE ⟨0, 0, 0, 0⟩ Bf) = some (.next, (S0 w os).abs, cE, ⟨0, 0, 0, 0⟩) := by
  kernel_rfl
theorem h_fin (w : World) (os : OsState) : topRun treeTable pw w 11 (some (.ref 6)) 2 (S12 w os).abs ⟨doneF .next, cE, ⟨850, 0, 877, 15⟩, Bf⟩ = some ⟨Hf w.params, #[], {}, 1769, os⟩ := by
  kernel_rfl
theorem h_rest (w : World) (os : OsState) : topRun treeTable pw w 11 (some (.ref 6)) (756 + (149 + (753 + (396 + (692 + (500 + (619 + (750 + (664 + (738 + (746 + (586 + 2)))))))))))) (S0 w os).abs (restOf ((bE.drop 0).take 6 ++ ((bE.drop 6).take 7 ++ ((bE.drop 13).take 1 ++ ((bE.drop 14).take 14 ++ ((bE.drop 28).take 11 ++ ((bE.drop 39).take 7 ++ ((bE.drop 46).take 3 ++ ((bE.drop 49).take 4 ++ ((bE.drop 53).take 4 ++ ((bE.drop 57).take 3 ++ ((bE.drop 60).take 32 ++ ((bE.drop 92).take 20 ++ [])))))))))))) ev cE ⟨0, 0, 0, 0⟩ Bf) = some ⟨Hf w.params, #[], {}, 1769, os⟩ :=
  piece_app (segRun_of (pc0 w os)) (piece_app (segRun_of (pc1 w os)) (piece_app (segRun_of (pc2 w os)) (piece_app (segRun_of (pc3 w os)) (piece_app (segRun_of (pc4 w os)) (piece_app (segRun_of (pc5 w os)) (piece_app (segRun_of (pc6 w os)) (piece_app (segRun_of (pc7 w os)) (piece_app (segRun_of (pc8 w os)) (piece_app (segRun_of (pc9 w os)) (piece_app (segRun_of (pc10 w os)) (piece_app (segRun_of (pc11 w os)) (piece_nil (h_fin w os)))))))))))))
theorem h_body : ((bE.drop 0).take 6 ++ ((bE.drop 6).take 7 ++ ((bE.drop 13).take 1 ++ ((bE.drop 14).take 14 ++ ((bE.drop 28).take 11 ++ ((bE.drop 39).take 7 ++ ((bE.drop 46).take 3 ++ ((bE.drop 49).take 4 ++ ((bE.drop 53).take 4 ++ ((bE.drop 57).take 3 ++ ((bE.drop 60).take 32 ++ ((bE.drop 92).take 20 ++ [])))))))))))) = bE := by kernel_rfl
theorem h_run (w : World) (os : OsState) : topRun treeTable pw w 11 (some (.ref 6)) (12 + (1 + (756 + (149 + (753 + (396 + (692 + (500 + (619 + (750 + (664 + (738 + (746 + (586 + 2)))))))))))))) ⟨boot_heap w.params, #[], boot_drawn, boot_toks, os⟩ (topStub pw) = some ⟨Hf w.params, #[], {}, 1769, os⟩ :=
  go_top (h_pre w os) (piece_block (h_block w os) (by have h := h_rest w os; rw [h_body] at h; exact h))
end
end HD
end
section
open PySem PySem.W PyProof.Rows
namespace HD
noncomputable section
theorem h_open : ∀ w : World, (fencedOpening treeTable pw w 14800).map (fun s => (s.heap, s.gens, s.drawn, s.toks)) = some (boot_heap w.params, Array.mk [], boot_drawn, boot_toks) :=
  boot_open (p := pw) (N := 14800) (by kernel_rfl) (by decide +kernel) (fun s => by kernel_rfl)
theorem h_size (w : World) : ((boot_heap w.params).isNs mainGlobals && (#[] : Array GenState).size == 0, (boot_heap w.params).objs.size, (boot_heap w.params).nsMap mainGlobals "__annotations__") = (true, 11, some (.ref 6)) := by
  kernel_rfl
theorem l1 (w : World) (os : OsState) : (staticsOk (importedModules pw.main.body) (boot_heap w.params) (Hf w.params) && namesBound pw (Hf w.params) && gensDone ⟨Hf w.params, #[], {}, 1769, os⟩ && laidKept (boot_heap w.params) (Hf w.params)) = true := by kernel_rfl
theorem l4 (w : World) (os : OsState) : openSeen vw loose (importedModules pw.main.body) (fun s => xlAt vw [] s && recOk [] s) true ⟨Hf w.params, #[], {}, 1769, os⟩ = openGood vw loose := by
  rw [PySem.W.Fast.te4187177175401517315]; kernel_rfl
noncomputable def asL : List Addr := [2, 3, 20, 21, 29, 35, 36, 45, 46, 58, 59, 70, 71, 79, 80, 86, 87, 93, 94, 121, 122, 155, 156, 162, 163, 169, 170, 176, 177, 183, 184, 190, 191, 204, 205, 211, 212, 216, 217, 223, 224, 233, 234, 251, 252, 261, 262, 286, 287, 345, 346, 398, 399, 436, 437, 447, 448, 454, 455, 461, 462, 475, 476, 482, 483, 489, 490, 496, 497, 503, 504, 551, 552, 562, 563, 576, 577, 583, 584, 590, 591, 597, 598, 623, 624, 630, 631, 637, 638, 644, 645, 651, 652, 668, 669, 679, 680, 686, 687, 693, 694, 700, 701, 714, 715, 738, 739, 756, 757, 773, 774, 784, 790, 791, 814, 815, 825, 831, 832, 867, 868, 892, 893, 899, 900, 906, 907, 913, 914, 920, 921, 941, 942, 969, 970, 1056, 1057, 1063, 1064, 1070, 1071, 1077, 1078, 1084, 1085, 1091, 1092, 1098, 1099, 1105, 1106, 1110, 1111, 1117, 1118, 1124, 1125]
theorem asE : ∀ P, asL = (KK P).map (·.1) := fun _ => by kernel_rfl
noncomputable abbrev HK : Hook := kmHook KK asL asE [186, 200, 207, 1120]
theorem l5 (w : World) (os : OsState) : HK.obs ⟨Hf w.params, #[], {}, 1769, os⟩ = HK.val w := by kernel_rfl
theorem h_left : LeftO pw vw loose (fun s => xlAt vw [] s && recOk [] s) HK.obs HK.val 14800 :=
  LeftO.of_pieces h_open h_size h_run (by decide +kernel) (fun w => funext fun os => Prod.ext (l1 w os) (Prod.ext (l4 w os) (l5 w os)))
end
end HD
end
section
open PySem PySem.W PyProof.Rows
namespace HD
theorem h_said : PySem.Challenge.rw_pb0437_01.wellSaid = true := by
  rw [PySem.W.Fast.te9446332074065402090]; kernel_rfl
end HD
end
section
open PySem PySem.W PySem.Calls PyProof.Rows
namespace Mine
structure Room (n : Nat) (A : Around) : Prop where
  hh : A.handled = none
  dp : A.depth + n < 900
  un : A.units + 12 * n < 9000
theorem Room.deeper {n : Nat} {A : Around} (r : Room (n + 1) A) (env : Env) : Room n (A.deeper env) := by
  obtain ⟨a, b, c⟩ := r
  refine ⟨a, ?_, ?_⟩
  · show A.depth + 1 + n < 900; omega
  · show A.units + 3 + 12 * n < 9000; omega
theorem Room.lt {n : Nat} {A : Around} (r : Room n A) : A.depth < recursionLimit := by
  have := r.dp; unfold recursionLimit; omega
theorem Room.le {n m : Nat} {A : Around} (r : Room n A) (h : m ≤ n) : Room m A := ⟨r.hh, by have := r.dp; omega, by have := r.un; omega⟩
theorem inst_at {h h' : Heap} {x C dx : Addr} {od : Obj} (I : InstAt h x (instObj C dx) C (some od)) (h1 : ∀ o, h.get? x = some o → h'.get? x = some o) (h2 : ∀ o, h.get? dx = some o → h'.get? dx = some o) : InstAt h' x (instObj C dx) C (some od) :=
  ⟨h1 _ I.at_, I.cls, I.no, h2 _ I.dict⟩
theorem inst_keep {h h' : Heap} {x C dx : Addr} {od : Obj} (I : InstAt h x (instObj C dx) C (some od)) (k : ∀ b o, h.get? b = some o → h'.get? b = some o) : InstAt h' x (instObj C dx) C (some od) :=
  inst_at I (fun o e => k _ o e) (fun o e => k _ o e)
theorem fill_of {w : World} {hb : Heap} {P : Prop} (X : (HD.KK w.params).In hb) (h : PySem.Challenge.rw_pb0437_01 = PySem.Challenge.rw_pb0437_01 ∧ (HD.KK w.params).In hb → P) : P := h ⟨rfl, X⟩
section
variable {prog : Program} {w : World} {A : Around} {s : Shared} {hb : Heap} {K : Frag} {p : Program} {loose : List Str} {mg mb : Str → Option Value}
end
end Mine
end
section
open PySem PySem.W PySem.Calls PyProof.Rows PyProof.V
set_option maxHeartbeats 1000000
namespace Mine
local macro_rules | `(tactic| omega) => `(tactic| lia)
section
variable {prog : Program} {w : World} {A : Around} {s : Shared} {g : Heap} {env : Env}
end
inductive SnapR (g : Heap) (h : Heap) (L : Addr) (mu : List (Addr × Obj)) : Prop
  | mk (R : _) (_ : News g L h (mu ++ R)) (_ : (∀ q ∈ mu, ∀ p ∈ R, p.1 ≠ q.1)) (_ : (∀ b o, h.get? b = some o → b ≠ L → (∀ q ∈ mu, q.1 ≠ b) → g.get? b = some o ∨ (b, o) ∈ R)) : SnapR g h L mu
theorem snap {g h : Heap} {L : Addr} {m : Str → Option Value} (F : Fr g L h m) (mu : List (Addr × Obj)) (hm : ∀ q ∈ mu, h.get? q.1 = some q.2 ∧ q.1 ≠ L ∧ g.get? q.1 = none) : SnapR g h L mu := by
  classical
  let R : List (Addr × Obj) := (List.range h.objs.size).filterMap fun a => match h.get? a with
    | some o => if a ≠ L ∧ (g.get? a).isNone ∧ (∀ q ∈ mu, q.1 ≠ a) then some (a, o) else none
    | none => none
  have hR : ∀ p, p ∈ R ↔ h.get? p.1 = some p.2 ∧ p.1 ≠ L ∧ g.get? p.1 = none ∧ ∀ q ∈ mu, q.1 ≠ p.1 := by
    intro p
    obtain ⟨a, o⟩ := p
    simp only [R, List.mem_filterMap, List.mem_range]
    constructor
    · rintro ⟨b, hb, e⟩
      cases hq : h.get? b with
      | none => rw [hq] at e; cases e
      | some o' =>
        rw [hq] at e
        dsimp only at e
        split at e
        · rename_i hc
          cases e
          exact ⟨hq, hc.1, Option.isNone_iff_eq_none.mp hc.2.1, hc.2.2⟩
        · cases e
    · rintro ⟨h1, h2, h3, h4⟩
      refine ⟨a, Heap.lt_size h1, ?_⟩
      rw [h1]
      dsimp only
      rw [if_pos ⟨h2, Option.isNone_iff_eq_none.mpr h3, h4⟩]
  refine ⟨R, ?_, ?_, ?_⟩
  · intro p hp
    rcases List.mem_append.mp hp with q | q
    · exact hm p q
    · exact ⟨((hR p).mp q).1, ((hR p).mp q).2.1, ((hR p).mp q).2.2.1⟩
  · intro q hq p hp e
    exact ((hR p).mp hp).2.2.2 q hq e.symm
  · intro b o e hb hq
    cases hg : g.get? b with
    | some o' => left; rw [← F.keep b o' hg, e]
    | none => right; exact (hR (b, o)).mpr ⟨e, hb, hg, hq⟩
theorem snap_keep {g h h' : Heap} {L : Addr} {m' : Str → Option Value} {mu R news' : List (Addr × Obj)} (hs : ∀ b o, h.get? b = some o → b ≠ L → (∀ q ∈ mu, q.1 ≠ b) → g.get? b = some o ∨ (b, o) ∈ R)
    (F : Fr g L h' m') (N : News g L h' news') (hR : ∀ p ∈ R, p ∈ news') : ∀ b o, h.get? b = some o → b ≠ L → (∀ q ∈ mu, q.1 ≠ b) → h'.get? b = some o := fun b o e hb hq =>
  (hs b o e hb hq).elim (F.keep b o) fun z => (N _ (hR _ z)).1
open PySem.Spec in
inductive Held (prog : Program) (w : World) (o : Obj) (n : Nat) (f : Int → Int) : Prop
  | mk (kvs : List (Int × Value)) (D : List (PyData × PyData)) (_ : o.IsDictOf (intKind prog w) kvs) (_ : FlatPairs PyData.int kvs D) (_ : D.length ≤ n) (_ : (∀ i, (lookup (.int i) D).getD (.int 0) = .int (f i))) (_ : ∀ i, 0 ≤ f i ∧ f i ≤ 255) : Held prog w o n f
theorem Held.put {prog : Program} {w : World} {o' : Obj} {n : Nat} {f : Int → Int} {kvs : List (Int × Value)} {D : List (PyData × PyData)} {i v : Int} (h1 : o'.IsDictOf (intKind prog w) kvs) (h2 : FlatPairs PyData.int kvs (putD (.int i) (.int v) D)) (hl : D.length ≤ n)
    (hv : ∀ i, (PySem.Spec.lookup (.int i) D).getD (.int 0) = .int (f i)) (hb : ∀ i, 0 ≤ f i ∧ f i ≤ 255) (h0 : 0 ≤ v ∧ v ≤ 255) : Held prog w o' (n + 1) (fun k => if k = i then v else f k) :=
  ⟨kvs, _, h1, h2, Nat.le_trans (putD_length_le _ _ _) (by omega), fun k => by
    rw [lookup_putD_int]
    by_cases h : k = i
    · simp [h]
    · simp [h, hv], fun k => by
    (try dsimp only)
    by_cases h : k = i
    · rw [if_pos h]; exact h0
    · rw [if_neg h]; exact hb k⟩
inductive MemAt (w : World) (h : Heap) (x hd : Addr) : Prop
  | mk (dx : _) (tk : _) (_ : InstAt h x (instObj 552 dx) 552 (some (dictOf [⟨PyData.keyHash w.params (Str.ofString "held"), .str (Str.ofString "held") tk, .ref hd⟩] 1))) : MemAt w h x hd
section
variable {prog : Program} {w : World} {A : Around} {s : Shared} {hb : Heap} {p : Program} {loose : List Str} {mg mb : Str → Option Value} {t t' t'' : Tok} {Q E : Value → Shared → Prop}
noncomputable def rdN (f : Int → Int) (p : Int) : Nat → Int
  | 0 => 0
  | k + 1 => rdN f p k + f ((p + k) % 18446744073709551616) * 2 ^ (8 * k)
noncomputable def upd (f : Int → Int) (i v : Int) : Int → Int := fun k => if k = i then v else f k
noncomputable def wrN (f : Int → Int) (p v : Int) : Nat → Int → Int
  | 0 => f
  | k + 1 => upd (wrN f p v k) ((p + k) % 18446744073709551616) (v / 2 ^ (8 * k) % 256)
end
inductive RegAt (w : World) (h : Heap) (r : Addr) (num : Int) : Prop
  | mk (dr : _) (k1 : _) (k2 : _) (k3 : _) (k4 : _) (nm : _) (t2 : _) (t3 : _) (t4 : _) (_ : InstAt h r (instObj 437 dr) 437 (some (dictOf [⟨PyData.keyHash w.params (Str.ofString "name"), .str (Str.ofString "name") k1, nm⟩, ⟨PyData.keyHash w.params (Str.ofString "kind"), .str (Str.ofString "kind") k2, .str (Str.ofString "gpr") t2⟩, ⟨PyData.keyHash w.params (Str.ofString "number"), .str (Str.ofString "number") k3, .int num t3⟩, ⟨PyData.keyHash w.params (Str.ofString "size"), .str (Str.ofString "size") k4, .int 64 t4⟩] 4))) : RegAt w h r num
inductive RegOp (w : World) (h : Heap) (a r : Addr) : Prop
  | mk (da : _) (k1 : _) (k2 : _) (t1 : _) (_ : InstAt h a (instObj 774 da) 774 (some (dictOf [⟨PyData.keyHash w.params (Str.ofString "kind"), .str (Str.ofString "kind") k1, .str (Str.ofString "reg") t1⟩, ⟨PyData.keyHash w.params (Str.ofString "register"), .str (Str.ofString "register") k2, .ref r⟩] 2))) : RegOp w h a r
noncomputable abbrev stD (P : Params) (k : Nat → Tok) (rl xl fl mem sg : Addr) (rip bg halted : Value) : Obj := dictOf [⟨PyData.keyHash P (Str.ofString "iset"), .str (Str.ofString "iset") (k 0), .none⟩, ⟨PyData.keyHash P (Str.ofString "regs"), .str (Str.ofString "regs") (k 1), .ref rl⟩, ⟨PyData.keyHash P (Str.ofString "xmm"), .str (Str.ofString "xmm") (k 2), .ref xl⟩,
  ⟨PyData.keyHash P (Str.ofString "flags"), .str (Str.ofString "flags") (k 3), .ref fl⟩, ⟨PyData.keyHash P (Str.ofString "memory"), .str (Str.ofString "memory") (k 4), .ref mem⟩, ⟨PyData.keyHash P (Str.ofString "rip"), .str (Str.ofString "rip") (k 5), rip⟩, ⟨PyData.keyHash P (Str.ofString "begin"), .str (Str.ofString "begin") (k 6), bg⟩,
  ⟨PyData.keyHash P (Str.ofString "segments"), .str (Str.ofString "segments") (k 7), .ref sg⟩, ⟨PyData.keyHash P (Str.ofString "is_halted"), .str (Str.ofString "is_halted") (k 8), halted⟩] 9
structure Sx where
  k : Nat → Tok
  x : Addr
  d : Addr
  rl : Addr
  xl : Addr
  fl : Addr
  mem : Addr
  hd : Addr
  sg : Addr
  vs : List Value
  ns : List Int
  c : Nat
  o : Obj
  n : Nat
  f : Int → Int
  rip : Int
  tr : Tok
  bg : Value
  halted : Bool
noncomputable def Sx.led (P : Params) (S : Sx) : List (Addr × Obj) := [(S.x, instObj 669 S.d), (S.d, stD P S.k S.rl S.xl S.fl S.mem S.sg (.int S.rip S.tr) S.bg (.bool S.halted)), (S.rl, listOf S.vs.toArray S.c), (S.hd, S.o)]
structure Sx.Ok (prog : Program) (w : World) (hb : Heap) (S : Sx) : Prop where
  iv : IntsAre S.vs S.ns
  len : S.ns.length = 16
  held : Held prog w S.o S.n S.f
  nd : [S.x, S.d, S.rl, S.hd].Nodup
  mem : MemAt w hb S.mem S.hd
  lo : (S.hd == sysModules) = false
theorem nodup4 {a b c d : Addr} (h : [a, b, c, d].Nodup) : a ≠ b ∧ a ≠ c ∧ a ≠ d ∧ b ≠ c ∧ b ≠ d ∧ c ≠ d := by
  simpa [and_assoc] using h
noncomputable def Sx.At (w : World) (S : Sx) (h : Heap) : Prop := ∀ q ∈ S.led w.params, h.get? q.1 = some q.2
structure ModA (h h' : Heap) (l : List Addr) : Prop where
  keep : ∀ b o, h.get? b = some o → b ∉ l → h'.get? b = some o
  size : h.objs.size ≤ h'.objs.size
theorem moda_fr {g h h' : Heap} {L : Addr} {m : Str → Option Value} {l : List Addr} (F : Fr g L h m) (M : ModA h h' l) (hl : ∀ a ∈ l, g.get? a = none ∧ a ≠ L) : Fr g L h' m := by
  obtain ⟨o, es, ep, ho, r⟩ := F.ns
  refine ⟨⟨o, es, ep, M.keep _ _ ho fun q => (hl _ q).2 rfl, r⟩, fun b o e => M.keep b o (F.keep b o e) fun q => ?_, F.above⟩
  rw [(hl b q).1] at e; cases e
section
variable {prog : Program} {w : World} {A : Around} {s : Shared} {hb : Heap} {p : Program} {loose : List Str} {mg mb : Str → Option Value} {t t' t'' : Tok} {Q E : Value → Shared → Prop}
end
inductive InsAt (w : World) (h : Heap) (i : Addr) (nm : String) (ops : List Addr) : Prop
  | mk (di : _) (k1 : _) (k2 : _) (k3 : _) (t1 : _) (t3 : _) (tp : _) (n : _) (_ : InstAt h i (instObj 868 di) 868 (some (dictOf [⟨PyData.keyHash w.params (Str.ofString "name"), .str (Str.ofString "name") k1, .str (Str.ofString nm) t1⟩, ⟨PyData.keyHash w.params (Str.ofString "operands"), .str (Str.ofString "operands") k2, .ref tp⟩, ⟨PyData.keyHash w.params (Str.ofString "prefix"), .str (Str.ofString "prefix") k3, .str (Str.ofString "") t3⟩] 3))) (_ : h.get? tp = some { cls := .type "tuple", data := .seq (ops.map Value.ref).toArray n }) : InsAt w h i nm ops
section
variable {prog : Program} {w : World} {A : Around} {s : Shared} {hb : Heap} {p : Program} {loose : List Str} {mg mb : Str → Option Value} {t t' t'' : Tok} {Q E : Value → Shared → Prop}
end
inductive RelOp (w : World) (h : Heap) (a : Addr) (v : Int) : Prop
  | mk (da : _) (k1 : _) (k2 : _) (k3 : _) (t1 : _) (t2 : _) (t3 : _) (_ : InstAt h a (instObj 815 da) 815 (some (dictOf [⟨PyData.keyHash w.params (Str.ofString "kind"), .str (Str.ofString "kind") k1, .str (Str.ofString "rel") t1⟩, ⟨PyData.keyHash w.params (Str.ofString "worth"), .str (Str.ofString "worth") k2, .int v t2⟩, ⟨PyData.keyHash w.params (Str.ofString "name"), .str (Str.ofString "name") k3, .str (Str.ofString "") t3⟩] 3))) : RelOp w h a v
section
variable {prog : Program} {w : World} {A : Around} {s : Shared} {hb : Heap} {p : Program} {loose : List Str} {mg mb : Str → Option Value} {t t' t'' : Tok} {Q E : Value → Shared → Prop}
end
section
variable {prog : Program} {w : World} {A : Around} {s : Shared} {hb : Heap} {p : Program} {loose : List Str} {mg mb : Str → Option Value} {t t' t'' : Tok} {Q E : Value → Shared → Prop}
inductive Ins where
  | push (r : Nat)
  | pop (r : Nat)
  | mov
  | nop
  | hlt
  | call (v : Int)
  | ret
structure PS where
  ns : List Int
  f : Int → Int
  rip : Int
  halted : Bool
noncomputable def Sx.ps (S : Sx) : PS := ⟨S.ns, S.f, S.rip, S.halted⟩
noncomputable def exec : Ins → PS → PS
  | .push r, q => { q with ns := q.ns.set 4 ((q.ns.getD 4 0 - 8) % 18446744073709551616), f := wrN q.f ((q.ns.getD 4 0 - 8) % 18446744073709551616) (q.ns.getD r 0 % 18446744073709551616) 8 }
  | .pop r, q => { q with ns := (q.ns.set 4 ((q.ns.getD 4 0 + 8) % 18446744073709551616)).set r (rdN q.f (q.ns.getD 4 0) 8 % 18446744073709551616) }
  | .mov, q => { q with ns := q.ns.set 5 (q.ns.getD 4 0 % 18446744073709551616 % 18446744073709551616) }
  | .nop, q => q
  | .hlt, q => { q with halted := true }
  | .call v, q => { q with ns := q.ns.set 4 ((q.ns.getD 4 0 - 8) % 18446744073709551616), f := wrN q.f ((q.ns.getD 4 0 - 8) % 18446744073709551616) q.rip 8, rip := (q.rip + v) % 18446744073709551616 }
  | .ret, q => { q with ns := q.ns.set 4 ((q.ns.getD 4 0 + 8) % 18446744073709551616), rip := rdN q.f (q.ns.getD 4 0) 8 }
noncomputable def Ins.name : Ins → String
  | .push _ => "push"
  | .pop _ => "pop"
  | .mov => "mov"
  | .nop => "nop"
  | .hlt => "hlt"
  | .call _ => "call"
  | .ret => "ret"
noncomputable def InsW (w : World) (h : Heap) (i : Addr) : Ins → Prop
  | .push r => r < 16 ∧ ∃ a ra, InsAt w h i "push" [a] ∧ RegOp w h a ra ∧ RegAt w h ra r
  | .pop r => r < 16 ∧ ∃ a ra, InsAt w h i "pop" [a] ∧ RegOp w h a ra ∧ RegAt w h ra r
  | .mov => ∃ a ra b rb, InsAt w h i "mov" [a, b] ∧ RegOp w h a ra ∧ RegAt w h ra 5 ∧ RegOp w h b rb ∧ RegAt w h rb 4
  | .nop => InsAt w h i "nop" []
  | .hlt => InsAt w h i "hlt" []
  | .call v => ∃ a, InsAt w h i "call" [a] ∧ RelOp w h a v
  | .ret => InsAt w h i "ret" []
end
section
variable {prog : Program} {w : World} {A : Around} {s : Shared} {hb : Heap} {p : Program} {loose : List Str} {mg mb : Str → Option Value} {t t' t'' : Tok} {Q E : Value → Shared → Prop}
theorem InsW.at' {h : Heap} {i : Addr} {ins : Ins} (hi : InsW w h i ins) : ∃ ops, InsAt w h i ins.name ops := by
  cases ins with
  | push r => obtain ⟨_, a, ra, h1, _⟩ := hi; exact ⟨_, h1⟩
  | pop r => obtain ⟨_, a, ra, h1, _⟩ := hi; exact ⟨_, h1⟩
  | mov => obtain ⟨a, ra, b, rb, h1, _⟩ := hi; exact ⟨_, h1⟩
  | nop => exact ⟨_, hi⟩
  | hlt => exact ⟨_, hi⟩
  | call v => obtain ⟨a, h1, _⟩ := hi; exact ⟨_, h1⟩
  | ret => exact ⟨_, hi⟩
end
inductive DecAt (w : World) (h : Heap) (f i : Addr) (wd : Int) : Prop
  | mk (df : _) (k1 : _) (k2 : _) (k3 : _) (k4 : _) (t2 : _) (_ : InstAt h f (instObj 262 df) 262 (some (dictOf [⟨PyData.keyHash w.params (Str.ofString "instruction"), .str (Str.ofString "instruction") k1, .ref i⟩, ⟨PyData.keyHash w.params (Str.ofString "length"), .str (Str.ofString "length") k2, .int wd t2⟩, ⟨PyData.keyHash w.params (Str.ofString "form"), .str (Str.ofString "form") k3, .none⟩, ⟨PyData.keyHash w.params (Str.ofString "prefixes"), .str (Str.ofString "prefixes") k4, .none⟩] 4))) : DecAt w h f i wd
section
variable {prog : Program} {w : World} {A : Around} {s : Shared} {hb : Heap} {p : Program} {loose : List Str} {mg mb : Str → Option Value} {t t' t'' : Tok} {Q E : Value → Shared → Prop}
end
section
variable {prog : Program} {w : World} {A : Around} {s : Shared} {hb : Heap} {K : Frag} {p : Program} {loose : List Str} {mg mb : Str → Option Value}
end
noncomputable abbrev dbD (P : Params) (k : Nat → Tok) (st adv pts wts cl brk : Addr) (cnt lat wh : Value) : Obj := dictOf [⟨PyData.keyHash P (Str.ofString "state"), .str (Str.ofString "state") (k 0), .ref st⟩, ⟨PyData.keyHash P (Str.ofString "advance"), .str (Str.ofString "advance") (k 1), .ref adv⟩, ⟨PyData.keyHash P (Str.ofString "points"), .str (Str.ofString "points") (k 2), .ref pts⟩,
  ⟨PyData.keyHash P (Str.ofString "watches"), .str (Str.ofString "watches") (k 3), .ref wts⟩, ⟨PyData.keyHash P (Str.ofString "calls"), .str (Str.ofString "calls") (k 4), .ref cl⟩, ⟨PyData.keyHash P (Str.ofString "broken"), .str (Str.ofString "broken") (k 5), .ref brk⟩, ⟨PyData.keyHash P (Str.ofString "count"), .str (Str.ofString "count") (k 6), cnt⟩,
  ⟨PyData.keyHash P (Str.ofString "latest"), .str (Str.ofString "latest") (k 7), lat⟩, ⟨PyData.keyHash P (Str.ofString "what"), .str (Str.ofString "what") (k 8), wh⟩] 9
theorem fnAt_keep {q : Addr} {h h' : Heap} (H : FnAt q h) (k : ∀ b o, h.get? b = some o → h'.get? b = some o) : FnAt q h' := by
  obtain ⟨oc, od, fd, sl, e⟩ := H
  exact ⟨oc, od, fd, sl, k _ _ e⟩
section
variable {prog : Program} {w : World} {A : Around} {s : Shared} {hb : Heap} {p : Program} {loose : List Str} {mg mb : Str → Option Value} {t t' t'' : Tok} {Q E : Value → Shared → Prop}
theorem off_mem {D : Addr} : ∀ {l : List (Addr × Obj)}, LCg.Off1 D l → ∀ p ∈ l, p.1 ≠ D
  | [], _, _, hp => nomatch hp
  | _ :: _, h, p, hp => by
    rcases List.mem_cons.mp hp with rfl | hp
    · exact h.1
    · exact off_mem h.2 p hp
end
section
variable {prog : Program} {w : World} {A : Around} {s : Shared} {hb : Heap} {p : Program} {loose : List Str} {mg mb : Str → Option Value} {t t' t'' : Tok} {Q E : Value → Shared → Prop}
end
section
variable {prog : Program} {w : World} {A : Around} {s : Shared} {hb : Heap} {p : Program} {loose : List Str} {mg mb : Str → Option Value} {t t' t'' : Tok} {Q E : Value → Shared → Prop}
noncomputable def nextCs (ins : Ins) (cs : List (Int × Int)) (q : PS) : List (Int × Int) := match ins with
  | .call _ => cs ++ [(rdN q.f (q.ns.getD 4 0) 8, q.ns.getD 4 0)]
  | .ret => cs.dropLast
  | _ => cs
end
section
variable {prog : Program} {w : World} {A : Around} {s : Shared} {g : Heap} {env : Env}
end
structure DS where
  q : PS
  cs : List (Int × Int)
  cnt : Int
  lat : String
noncomputable def dnext (row : Int → Option (Ins × Int)) (d : DS) : DS := match row d.q.rip with
  | some (ins, wd) => ⟨exec ins { d.q with rip := (d.q.rip + wd) % 18446744073709551616 }, nextCs ins d.cs (exec ins { d.q with rip := (d.q.rip + wd) % 18446744073709551616 }), d.cnt + 1, ins.name⟩
  | none => d
noncomputable def iter (row : Int → Option (Ins × Int)) (d : DS) : Nat → DS
  | 0 => d
  | k + 1 => dnext row (iter row d k)
noncomputable def Legal (row : Int → Option (Ins × Int)) (d : DS) : Prop := d.q.halted = false ∧ d.cs.length ≤ 10 ∧ ∃ ins wd, row d.q.rip = some (ins, wd) ∧
  (ins = .ret → ∃ cs0, d.cs = cs0 ++ [((exec ins { d.q with rip := (d.q.rip + wd) % 18446744073709551616 }).rip, d.q.ns.getD 4 0)] ∧ d.q.ns.getD 4 0 < (exec ins { d.q with rip := (d.q.rip + wd) % 18446744073709551616 }).ns.getD 4 0 ∧
    (cs0 = [] ∨ ∃ c, cs0 = [c] ∧ (exec ins { d.q with rip := (d.q.rip + wd) % 18446744073709551616 }).ns.getD 4 0 ≤ c.2))
section
variable {prog : Program} {w : World} {A : Around} {s : Shared} {hb : Heap} {p : Program} {loose : List Str} {mg mb : Str → Option Value} {t t' t'' : Tok} {Q E : Value → Shared → Prop}
end
section
variable {prog : Program} {w : World} {A : Around} {s : Shared} {hb : Heap} {K : Frag} {p : Program} {loose : List Str} {mg mb : Str → Option Value}
inductive BMain (mg : Str → Option Value) (h : Heap) : Prop
  | mk (bm : _) (ob : _) (_ : mg "__builtins__" = some (.ref bm)) (_ : bm ≠ builtinsNs) (_ : h.get? bm = some ob) (_ : ob.cls = .type "module") (_ : ob.dict = some builtinsNs) (_ : ob.data = .plain) : BMain mg h
theorem mk_lambda {Q E : Value → Shared → Prop} {g : Heap} {L a c P : Addr} {m : Str → Option Value} {cn : Str} {cs : Scope} {ccd : Value} {cl clos : List (Str × Addr)} {news : List (Addr × Obj)} {params : Arguments} {body : PySem.Expr} {scope : Scope} {pos : Pos} {ps : Array Value}
    (T : TopRead p loose mg mb g) (B : BMain mg g) (F : Fr g L s.heap m) (N : News g L s.heap news) (hm : (P, tabObj ps) ∈ news) (C : CodeHd g c P) (hcd : ccd = .ref c) (ht : TriplesOk ps.toList) (hnf : codeAmong pos ps.toList = none)
    (hcl : closureFor scope (envX cn cs L a ccd cl) = pure clos) (hdef : defaultsOf params (envX cn cs L a ccd cl) = ([], []))
    (h : ∀ f c' ctv h' tk, ModA s.heap h' [P] → h'.get? P = some (tabObj (ps ++ #[rawInt pos.line, rawInt pos.col, .ref c'])) →
      h'.get? f = some (kla_obj "<lambda>" ((envX cn cs L a ccd cl).qual ++ "<lambda>") params body scope clos ((mg "__name__").getD .none) c' ctv) → h'.CodeRec (.ref c') ((envX cn cs L a ccd cl).qual ++ "<lambda>") → s.heap.objs.size ≤ c' → s.heap.objs.size ≤ f → Q (.ref f) { s with heap := h', toks := tk }) :
    wpAny (model prog w) A (eval (.Lambda params body scope pos) (envX cn cs L a ccd cl)) Q E s := by
  have hm' := N _ hm
  have hgs := T.g.keeps F.keep
  obtain ⟨bm, ob, b1, b2, b3, b4, b5, b6⟩ := B
  have hgP : mainGlobals ≠ P := fun q => by
    obtain ⟨o, es, ep, e, hd, _⟩ := hgs
    rw [q, hm'.1] at e; cases e; cases hd
  have hbP : bm ≠ P := fun q => by
    have e := F.keep _ _ b3
    rw [q, hm'.1] at e; cases e; cases b4
  have hbG : bm ≠ mainGlobals := fun q => by
    obtain ⟨o, es, ep, e, hd, _⟩ := T.g
    rw [q, e] at b3; cases b3; rw [hd] at b6; cases b6
  refine kla_eval hdef (kla_makeFunction (mg := mg) hcl rfl hgs hcd (C.keeps F.keep) hm'.1 ht hnf hgP ⟨bm, ob, b1, b2, hbG, hbP, F.keep _ _ b3, b4, b5, b6⟩ fun c' ctv h' tk hx hge hlt hrec htb => ?_)
  have hsz : s.heap.objs.size ≤ h'.objs.size := Nat.le_trans hge (Nat.le_of_lt hlt)
  refine h h'.objs.size c' ctv _ tk ⟨fun b o e hb => Heap.get?_push_of_some _ (hx b o (fun q => hb (List.mem_singleton.mpr q)) e), ?_⟩ (Heap.get?_push_of_some _ htb) (Heap.get?_push_size _ rfl) (hrec.push _) hge hsz
  rw [Heap.size_push]; omega
end
section
end
section
end
section
variable {prog : Program} {w : World} {A : Around} {s : Shared} {hb : Heap} {p : Program} {loose : List Str} {mg mb : Str → Option Value} {t t' t'' : Tok} {Q E : Value → Shared → Prop}
end
section
variable {prog : Program} {w : World} {A : Around} {s : Shared}
end
noncomputable def finOv (d z : DS) : Bool := decide (Str.ofString z.lat = Str.ofString "ret") && decide (d.q.ns.getD 4 0 < z.q.ns.getD 4 0)
section
variable {prog : Program} {w : World} {A : Around} {s : Shared} {hb : Heap} {p : Program} {loose : List Str} {mg mb : Str → Option Value} {t t' t'' : Tok} {Q E : Value → Shared → Prop}
end
noncomputable def btF (f : Int → Int) : Nat → Int → List Int
  | 0, _ => []
  | k + 1, b => if b = 0 then [] else rdN f (b + 8) 8 :: btF f k (if rdN f b 8 > b then rdN f b 8 else 0)
theorem btF_zero (f : Int → Int) : ∀ k, btF f k 0 = []
  | 0 => rfl
  | k + 1 => by rw [btF, if_pos rfl]
theorem btF_step {f : Int → Int} {ns : List Int} {mo : Nat} {b o : Int} (hb : b ≠ 0) (hl : ns.length ≤ mo) (ho : o = if rdN f b 8 > b then rdN f b 8 else 0) :
    (ns ++ [rdN f (b + 8) 8]) ++ btF f (mo + 1 - (ns ++ [rdN f (b + 8) 8]).length) o = ns ++ btF f (mo + 1 - ns.length) b := by
  obtain ⟨k, hk⟩ : ∃ k, mo + 1 - ns.length = k + 1 := ⟨mo - ns.length, by omega⟩
  rw [hk, btF, if_neg hb, ← ho, List.append_assoc]
  have : mo + 1 - (ns ++ [rdN f (b + 8) 8]).length = k := by rw [List.length_append, List.length_singleton]; omega
  rw [this]
  rfl
section
variable {prog : Program} {w : World} {A : Around} {s : Shared} {hb : Heap} {p : Program} {loose : List Str} {mg mb : Str → Option Value} {t t' t'' : Tok} {Q E : Value → Shared → Prop}
end
section
variable {prog : Program} {w : World} {A : Around} {s : Shared} {hb : Heap} {K : Frag} {p : Program} {loose : List Str} {mg mb : Str → Option Value}
end
theorem RegAt.keeps {w : World} {h h' : Heap} {r : Addr} {num : Int} (x : RegAt w h r num) (k : h.StaysIn h') : RegAt w h' r num := by
  obtain ⟨dr, k1, k2, k3, k4, nm, t2, t3, t4, I⟩ := x
  exact ⟨dr, k1, k2, k3, k4, nm, t2, t3, t4, inst_keep I k⟩
theorem RegOp.keeps {w : World} {h h' : Heap} {a r : Addr} (x : RegOp w h a r) (k : h.StaysIn h') : RegOp w h' a r := by
  obtain ⟨da, k1, k2, t1, I⟩ := x
  exact ⟨da, k1, k2, t1, inst_keep I k⟩
theorem RelOp.keeps {w : World} {h h' : Heap} {a : Addr} {v : Int} (x : RelOp w h a v) (k : h.StaysIn h') : RelOp w h' a v := by
  obtain ⟨da, k1, k2, k3, t1, t2, t3, I⟩ := x
  exact ⟨da, k1, k2, k3, t1, t2, t3, inst_keep I k⟩
theorem InsAt.keeps {w : World} {h h' : Heap} {i : Addr} {nm : String} {ops : List Addr} (x : InsAt w h i nm ops) (k : h.StaysIn h') : InsAt w h' i nm ops := by
  obtain ⟨di, k1, k2, k3, t1, t3, tp, n, I, e⟩ := x
  exact ⟨di, k1, k2, k3, t1, t3, tp, n, inst_keep I k, k _ _ e⟩
theorem DecAt.keeps {w : World} {h h' : Heap} {f i : Addr} {wd : Int} (x : DecAt w h f i wd) (k : h.StaysIn h') : DecAt w h' f i wd := by
  obtain ⟨df, k1, k2, k3, k4, t2, I⟩ := x
  exact ⟨df, k1, k2, k3, k4, t2, inst_keep I k⟩
theorem InsW.keeps {w : World} {h h' : Heap} {i : Addr} {ins : Ins} (x : InsW w h i ins) (k : h.StaysIn h') : InsW w h' i ins := by
  cases ins with
  | push r => obtain ⟨h1, a, ra, h2, h3, h4⟩ := x; exact ⟨h1, a, ra, h2.keeps k, h3.keeps k, h4.keeps k⟩
  | pop r => obtain ⟨h1, a, ra, h2, h3, h4⟩ := x; exact ⟨h1, a, ra, h2.keeps k, h3.keeps k, h4.keeps k⟩
  | mov => obtain ⟨a, ra, b, rb, h1, h2, h3, h4, h5⟩ := x; exact ⟨a, ra, b, rb, h1.keeps k, h2.keeps k, h3.keeps k, h4.keeps k, h5.keeps k⟩
  | nop => exact InsAt.keeps x k
  | hlt => exact InsAt.keeps x k
  | call v => obtain ⟨a, h1, h2⟩ := x; exact ⟨a, h1.keeps k, h2.keeps k⟩
  | ret => exact InsAt.keeps x k
section
variable {prog : Program} {w : World} {A : Around} {s : Shared} {hb : Heap} {p : Program} {loose : List Str} {mg mb : Str → Option Value} {t t' t'' : Tok} {Q E : Value → Shared → Prop}
end
section
variable {prog : Program} {w : World} {A : Around} {s : Shared} {hb : Heap} {p : Program} {loose : List Str} {mg mb : Str → Option Value} {t t' t'' : Tok} {Q E : Value → Shared → Prop}
end
inductive All2 {α β : Type} (R : α → β → Prop) : List α → List β → Prop
  | nil : All2 R [] []
  | cons {a b as bs} : R a b → All2 R as bs → All2 R (a :: as) (b :: bs)
theorem All2.mono {α β : Type} {R R' : α → β → Prop} {as : List α} {bs : List β} (x : All2 R as bs) (h : ∀ a b, R a b → R' a b) : All2 R' as bs := by
  induction x with
  | nil => exact .nil
  | cons r _ ih => exact .cons (h _ _ r) ih
theorem All2.append {α β : Type} {R : α → β → Prop} {as as' : List α} {bs bs' : List β} (x : All2 R as bs) (y : All2 R as' bs') : All2 R (as ++ as') (bs ++ bs') := by
  induction x with
  | nil => exact y
  | cons r _ ih => exact .cons r ih
theorem All2.length {α β : Type} {R : α → β → Prop} {as : List α} {bs : List β} (x : All2 R as bs) : as.length = bs.length := by
  induction x with
  | nil => rfl
  | cons _ _ ih => simp [ih]
inductive RowAt (h : Heap) (v : Value) (r : String × Int) : Prop
  | mk (a : _) (t1 : _) (t2 : _) (c : _) (_ : v = .ref a) (_ : h.get? a = some (listOf [.str (Str.ofString r.1) t1, .int r.2 t2].toArray c)) : RowAt h v r
inductive BodyAt (h : Heap) (v : Value) (rows : List (String × Int)) : Prop
  | mk (a : _) (vs : _) (c : _) (_ : v = .ref a) (_ : h.get? a = some (listOf (List.toArray vs) c)) (_ : All2 (RowAt h) vs rows) : BodyAt h v rows
theorem RowAt.keeps {h h' : Heap} {v : Value} {r : String × Int} (x : RowAt h v r) (k : h.StaysIn h') : RowAt h' v r := by
  obtain ⟨a, t1, t2, c, e, g⟩ := x
  exact ⟨a, t1, t2, c, e, k _ _ g⟩
theorem BodyAt.keeps {h h' : Heap} {v : Value} {r : List (String × Int)} (x : BodyAt h v r) (k : h.StaysIn h') : BodyAt h' v r := by
  obtain ⟨a, vs, c, e, g, y⟩ := x
  exact ⟨a, vs, c, e, k _ _ g, y.mono fun _ _ z => z.keeps k⟩
inductive Item where
  | call (k : Nat)
  | pp
  | nop
noncomputable def Item.rows : Item → List (String × Int)
  | .call k => [("call", (k : Int))]
  | .pp => [("push", 0), ("pop", 1)]
  | .nop => [("nop", 0)]
noncomputable def Item.Ok (number : Nat) : Item → Prop
  | .call k => number < k ∧ k ≤ 2
  | .pp => True
  | .nop => number = 2
noncomputable def rowsOf (its : List Item) : List (String × Int) := its.flatMap Item.rows
noncomputable def bodyOf (number : Nat) (its : List Item) : List (String × Int) := [("push", 5), ("mov", 0)] ++ rowsOf its ++ [("pop", 5), (if number = 0 then "hlt" else "ret", 0)]
noncomputable def ItemsOk (number : Nat) (its : List Item) : Prop := its.length ≤ 3 ∧ ∀ i ∈ its, i.Ok number
theorem rowsOf_len : ∀ its : List Item, (rowsOf its).length ≤ 2 * its.length
  | [] => Nat.le_refl _
  | x :: l => by
    have h := rowsOf_len l
    have e : rowsOf (x :: l) = x.rows ++ rowsOf l := rfl
    rw [e, List.length_append, List.length_cons]
    cases x <;> simp only [Item.rows, List.length_cons, List.length_nil] <;> omega
theorem rowsOf_snoc (its : List Item) (x : Item) : rowsOf (its ++ [x]) = rowsOf its ++ x.rows := by simp [rowsOf]
noncomputable def BodsOk : Nat → List (List Item) → Prop
  | _, [] => True
  | n, its :: r => ItemsOk n its ∧ BodsOk (n + 1) r
noncomputable def bodsOf : Nat → List (List Item) → List (List (String × Int))
  | _, [] => []
  | n, its :: r => bodyOf n its :: bodsOf (n + 1) r
theorem bodsOf_snoc (its : List Item) : ∀ (n : Nat) (l : List (List Item)), bodsOf n (l ++ [its]) = bodsOf n l ++ [bodyOf (n + l.length) its]
  | n, [] => rfl
  | n, x :: l => by
    show bodyOf n x :: bodsOf (n + 1) (l ++ [its]) = _
    rw [bodsOf_snoc its (n + 1) l, List.length_cons]
    show _ = bodyOf n x :: (bodsOf (n + 1) l ++ [bodyOf (n + (l.length + 1)) its])
    rw [show n + 1 + l.length = n + (l.length + 1) by omega]
theorem bodsOf_length : ∀ (n : Nat) (l : List (List Item)), (bodsOf n l).length = l.length
  | _, [] => rfl
  | n, _ :: l => by rw [bodsOf, List.length_cons, bodsOf_length (n + 1) l, List.length_cons]
theorem BodsOk.snoc {its : List Item} : ∀ {n : Nat} {l : List (List Item)}, BodsOk n l → ItemsOk (n + l.length) its → BodsOk n (l ++ [its])
  | n, [], _, h => ⟨h, trivial⟩
  | n, x :: l, ⟨a, b⟩, h => ⟨a, BodsOk.snoc b (by rw [List.length_cons] at h; rwa [show n + 1 + l.length = n + (l.length + 1) by omega])⟩
noncomputable abbrev Mom := Int × List Int × List Int × Bool
noncomputable def ownOf (ops : List Int) : List Int := if ops = [] then [1193046] else ops.take 1
noncomputable def framedOf (len j : Nat) (ops frs : List Int) : List Int := if 2 ≤ j ∧ j + 1 < len then ownOf ops ++ frs else frs
noncomputable def momsAt (rec_ : Nat → List Int → List Int → List Mom) (b wide : Int) (len : Nat) (ops frs : List Int) (j : Nat) (r : String × Int) : List Mom :=
  (b + wide * (j : Int), ops, framedOf len j ops frs, decide (r = ("pop", 1))) :: (if r.1 = "call" then rec_ r.2.toNat ((b + wide * ((j : Int) + 1)) :: ops) (framedOf len j ops frs) else [])
noncomputable def nest (bs : List (List (String × Int))) (bgs : Nat → Int) (wide : Int) : Nat → Nat → List Int → List Int → List Mom
  | 0, _, _, _ => []
  | f + 1, k, ops, frs => ((List.range (bs.getD k []).length).flatMap fun j => momsAt (nest bs bgs wide f) (bgs k) wide (bs.getD k []).length ops frs j ((bs.getD k []).getD j ("nop", 0))) ++ (if k = 0 then [(bgs k + wide * ((bs.getD k []).length : Int), ops, frs, false)] else [])
noncomputable def rowMoms (bs : List (List (String × Int))) (bgs : Nat → Int) (wide : Int) (f k : Nat) (ops frs : List Int) (body : List (String × Int)) (j : Nat) : List Mom := momsAt (nest bs bgs wide f) (bgs k) wide body.length ops frs j (body.getD j ("nop", 0))
theorem nest_rows {bs : List (List (String × Int))} {bgs : Nat → Int} {wide : Int} {f k : Nat} {ops frs : List Int} {body : List (String × Int)} (hb1 : bs[k]? = some body) :
    nest bs bgs wide (f + 1) k ops frs = (List.range body.length).flatMap (rowMoms bs bgs wide f k ops frs body) ++ (if k = 0 then [(bgs k + wide * (body.length : Int), ops, frs, false)] else []) := by
  have e : bs.getD k [] = body := by rw [List.getD_eq_getElem?_getD, hb1]; rfl
  rw [nest, e]; rfl
theorem rowMoms_eq {bs : List (List (String × Int))} {bgs : Nat → Int} {wide : Int} {f k : Nat} {ops frs : List Int} {body : List (String × Int)} {j : Nat} {r : String × Int} (hr : body[j]? = some r) :
    rowMoms bs bgs wide f k ops frs body j = (bgs k + wide * (j : Int), ops, framedOf body.length j ops frs, decide (r = ("pop", 1))) :: (if r.1 = "call" then nest bs bgs wide f r.2.toNat ((bgs k + wide * ((j : Int) + 1)) :: ops) (framedOf body.length j ops frs) else []) := by
  have e : body.getD j ("nop", 0) = r := by rw [List.getD_eq_getElem?_getD, hr]; rfl
  rw [rowMoms, e]; rfl
inductive MomAt (h : Heap) (v : Value) (m : Mom) : Prop
  | mk (a : _) (oa : _) (fa : _) (t : _) (ovs : _) (oc : _) (fvs : _) (fc : _) (n : _) (_ : v = .ref a) (_ : h.get? a = some ({ cls := .type "tuple", data := .seq #[.int m.1 t, .ref oa, .ref fa, .bool m.2.2.2] n } : Obj)) (_ : h.get? oa = some (listOf (List.toArray ovs) oc)) (_ : IntsAre ovs m.2.1) (_ : h.get? fa = some (listOf (List.toArray fvs) fc)) (_ : IntsAre fvs m.2.2.1) : MomAt h v m
theorem MomAt.keeps {h h' : Heap} {v : Value} {m : Mom} (x : MomAt h v m) (k : h.StaysIn h') : MomAt h' v m := by
  obtain ⟨a, oa, fa, t, ovs, oc, fvs, fc, n, e, h1, h2, h3, h4, h5⟩ := x
  exact ⟨a, oa, fa, t, ovs, oc, fvs, fc, n, e, k _ _ h1, k _ _ h2, h3, k _ _ h4, h5⟩
noncomputable def rowIns (bgs : Nat → Int) (wide p : Int) (r : String × Int) : Ins :=
  if r.1 = "push" then .push r.2.toNat else if r.1 = "pop" then .pop r.2.toNat else if r.1 = "mov" then .mov else if r.1 = "call" then .call (bgs r.2.toNat - p - wide) else if r.1 = "hlt" then .hlt else if r.1 = "ret" then .ret else .nop
noncomputable def Laid (w : World) (h : Heap) (kvs : List (Int × Value)) (bgs : Nat → Int) (begin wide : Int) (all : List (String × Int)) (n : Nat) : Prop :=
  kvs.map (·.1) = (List.range n).map (fun N : Nat => begin + wide * (N : Int)) ∧ ∀ N r, N < n → all[N]? = some r → ∃ f j, valueAt kvs (begin + wide * (N : Int)) = some (.ref f) ∧ DecAt w h f j wide ∧ InsW w h j (rowIns bgs wide (begin + wide * (N : Int)) r)
noncomputable def RowOk (n : Nat) (r : String × Int) : Prop := (r.1 = "push" ∨ r.1 = "pop") ∧ 0 ≤ r.2 ∧ r.2 < 8 ∨ r.1 = "mov" ∨ (r.1 = "call" ∧ 0 ≤ r.2 ∧ r.2 < n) ∨ (r.1 = "nop" ∨ r.1 = "hlt" ∨ r.1 = "ret")
theorem IntsAre.at_ {vs : List Value} {ns : List Int} (x : IntsAre vs ns) (i : Nat) (h : i < ns.length) : ∃ t, vs[i]? = some (.int (ns.getD i 0) t) := by
  induction x generalizing i with
  | nil => exact absurd h (Nat.not_lt_zero i)
  | cons n t r ih =>
    cases i with
    | zero => exact ⟨t, rfl⟩
    | succ i => exact ih i (Nat.lt_of_succ_lt_succ h)
theorem flat_at {α : Type} : ∀ (bs : List (List α)) (i j : Nat) {b : List α} {r : α}, bs[i]? = some b → b[j]? = some r → bs.flatten[(bs.take i).flatten.length + j]? = some r
  | [], i, j, b, r, h, _ => by simp at h
  | x :: bs, 0, j, b, r, h, h' => by
    simp at h; subst h
    have : j < x.length := (List.getElem?_eq_some_iff.mp h').1
    simp only [List.take_zero, List.flatten_nil, List.length_nil, Nat.zero_add, List.flatten_cons]
    rw [List.getElem?_append_left this]; exact h'
  | x :: bs, i + 1, j, b, r, h, h' => by
    have ih := flat_at bs i j (by simpa using h) h'
    simp only [List.take_succ_cons, List.flatten_cons, List.length_append]
    rw [Nat.add_assoc, List.getElem?_append_right (Nat.le_add_right _ _), Nat.add_sub_cancel_left]; exact ih
theorem flat_next {α : Type} : ∀ (bs : List (List α)) (i : Nat) {b : List α}, bs[i]? = some b → (bs.take (i + 1)).flatten.length = (bs.take i).flatten.length + b.length
  | [], i, b, h => by simp at h
  | x :: bs, 0, b, h => by simp at h; subst h; simp
  | x :: bs, i + 1, b, h => by
    have ih := flat_next bs i (b := b) (by simpa using h)
    simp only [List.take_succ_cons, List.flatten_cons, List.length_append] at ih ⊢
    omega
theorem Laid.keeps {w : World} {h h' : Heap} {kvs : List (Int × Value)} {bgs : Nat → Int} {begin wide : Int} {all : List (String × Int)} {n : Nat} (x : Laid w h kvs bgs begin wide all n) (k : h.StaysIn h') : Laid w h' kvs bgs begin wide all n :=
  ⟨x.1, fun N r a b => by obtain ⟨f, j, c, d, e⟩ := x.2 N r a b; exact ⟨f, j, c, d.keeps k, e.keeps k⟩⟩
theorem valueAt_snoc_ne {kvs : List (Int × Value)} {k k' : Int} {v : Value} (h : k' ≠ k) : valueAt (kvs ++ [(k, v)]) k' = valueAt kvs k' := by
  unfold valueAt
  rw [List.find?_append]
  cases kvs.find? (fun kv => decide (kv.1 = k')) with
  | some x => rfl
  | none => simp [List.find?_cons, Ne.symm h]
theorem valueAt_snoc {kvs : List (Int × Value)} {k : Int} {v : Value} (h : k ∉ kvs.map (·.1)) : valueAt (kvs ++ [(k, v)]) k = some v := by
  unfold valueAt
  rw [List.find?_append]
  have : kvs.find? (fun kv => decide (kv.1 = k)) = none := by
    rw [List.find?_eq_none]
    intro x hx hd
    exact h (List.mem_map.mpr ⟨x, hx, of_decide_eq_true hd⟩)
  rw [this]; simp
theorem Laid.put {w : World} {h : Heap} {kvs : List (Int × Value)} {bgs : Nat → Int} {begin wide : Int} {all : List (String × Int)} {n : Nat} {r : String × Int} {f j : Addr} (x : Laid w h kvs bgs begin wide all n) (hw : 1 ≤ wide) (hr : all[n]? = some r)
    (hd : DecAt w h f j wide) (hi : InsW w h j (rowIns bgs wide (begin + wide * (n : Int)) r)) : stored kvs (begin + wide * (n : Int)) (.ref f) = kvs ++ [(begin + wide * (n : Int), .ref f)] ∧ Laid w h (stored kvs (begin + wide * (n : Int)) (.ref f)) bgs begin wide all (n + 1) := by
  have hne : ∀ N : Nat, N < n → begin + wide * (N : Int) ≠ begin + wide * (n : Int) := fun N hN e => by
    have h1 : wide * (N : Int) = wide * (n : Int) := by omega
    have h2 : (N : Int) = n := Int.eq_of_mul_eq_mul_left (by omega) h1
    omega
  have hnm : begin + wide * (n : Int) ∉ kvs.map (·.1) := fun hm => by
    rw [x.1] at hm
    obtain ⟨N, hN, e⟩ := List.mem_map.mp hm
    exact hne N (List.mem_range.mp hN) e
  have hs : stored kvs (begin + wide * (n : Int)) (.ref f) = kvs ++ [(begin + wide * (n : Int), .ref f)] := by
    unfold stored
    rw [if_neg]
    intro ha
    obtain ⟨kv, h1, h2⟩ := List.any_eq_true.mp ha
    exact hnm (List.mem_map.mpr ⟨kv, h1, of_decide_eq_true h2⟩)
  refine ⟨hs, ?_, ?_⟩
  · rw [hs, List.map_append, x.1, List.range_succ, List.map_append]; rfl
  · intro N r' hN hr'
    rw [hs]
    by_cases c : N = n
    · subst c
      rw [hr] at hr'; cases hr'
      exact ⟨f, j, valueAt_snoc hnm, hd, hi⟩
    · obtain ⟨f', j', a, b⟩ := x.2 N r' (by omega) hr'
      exact ⟨f', j', (valueAt_snoc_ne (hne N (by omega))).trans a, b⟩
theorem rowIns_push (b : Nat → Int) (wd p n : Int) : rowIns b wd p ("push", n) = .push n.toNat := by simp [rowIns]
theorem rowIns_pop (b : Nat → Int) (wd p n : Int) : rowIns b wd p ("pop", n) = .pop n.toNat := by simp [rowIns]
theorem rowIns_mov (b : Nat → Int) (wd p n : Int) : rowIns b wd p ("mov", n) = .mov := by simp [rowIns]
theorem rowIns_call (b : Nat → Int) (wd p n : Int) : rowIns b wd p ("call", n) = .call (b n.toNat - p - wd) := by simp [rowIns]
theorem rowIns_nop (b : Nat → Int) (wd p n : Int) : rowIns b wd p ("nop", n) = .nop := by simp [rowIns]
theorem rowIns_hlt (b : Nat → Int) (wd p n : Int) : rowIns b wd p ("hlt", n) = .hlt := by simp [rowIns]
theorem rowIns_ret (b : Nat → Int) (wd p n : Int) : rowIns b wd p ("ret", n) = .ret := by simp [rowIns]
noncomputable def Agree (a : Int) (f g : Int → Int) : Prop := ∀ x, a ≤ x → f x = g x
theorem Agree.refl (a : Int) (f : Int → Int) : Agree a f f := fun _ _ => rfl
theorem Agree.trans {a : Int} {f g h : Int → Int} (x : Agree a f g) (y : Agree a g h) : Agree a f h := fun z hz => (x z hz).trans (y z hz)
theorem Agree.mono {a b : Int} {f g : Int → Int} (x : Agree a f g) (h : a ≤ b) : Agree b f g := fun z hz => x z (Int.le_trans h hz)
theorem rdN_congr {f g : Int → Int} {a p : Int} (H : Agree a f g) (h0 : a ≤ p) (h00 : 0 ≤ p) : ∀ n : Nat, p + n ≤ 18446744073709551616 → rdN f p n = rdN g p n
  | 0, _ => rfl
  | n + 1, h => by
    rw [rdN, rdN, rdN_congr H h0 h00 n (by omega)]
    rw [H _ (by rw [Int.emod_eq_of_lt (by omega) (by omega)]; omega)]
theorem wrN_off {f : Int → Int} {p v : Int} (h00 : 0 ≤ p) : ∀ n : Nat, p + n ≤ 18446744073709551616 → ∀ x, (x < p ∨ p + n ≤ x) → wrN f p v n x = f x
  | 0, _, _, _ => rfl
  | n + 1, h, x, hx => by
    rw [wrN, upd, if_neg (by rw [Int.emod_eq_of_lt (by omega) (by omega)]; omega)]
    exact wrN_off h00 n (by omega) x (by omega)
theorem wrN_agree {f : Int → Int} {p v : Int} (h00 : 0 ≤ p) (h : p + 8 ≤ 18446744073709551616) : Agree (p + 8) (wrN f p v 8) f := fun x hx => wrN_off h00 8 (by omega) x (.inr hx)
theorem wrN_at {f : Int → Int} {p v : Int} (h00 : 0 ≤ p) : ∀ n : Nat, p + n ≤ 18446744073709551616 → ∀ k : Nat, k < n → wrN f p v n (p + k) = v / 2 ^ (8 * k) % 256
  | n + 1, h, k, hk => by
    rw [wrN, upd, Int.emod_eq_of_lt (a := p + n) (by omega) (by omega)]
    by_cases c : k = n
    · subst c; rw [if_pos rfl]
    · rw [if_neg (by omega)]; exact wrN_at h00 n (by omega) k (by omega)
theorem emod_next (v : Int) (k : Nat) : v % 2 ^ (8 * (k + 1)) = v % 2 ^ (8 * k) + v / 2 ^ (8 * k) % 256 * 2 ^ (8 * k) := by
  have e : (2 : Int) ^ (8 * (k + 1)) = 2 ^ (8 * k) * 256 := by rw [Nat.mul_add, Int.pow_add]; rfl
  have hpos : (0 : Int) < 2 ^ (8 * k) := Int.pow_pos (by decide)
  rw [e]
  generalize (2 : Int) ^ (8 * k) = z at *
  have h1 := Int.emod_add_mul_ediv v z
  have h2 := Int.emod_nonneg v (Int.ne_of_gt hpos)
  have h3 := Int.emod_lt_of_pos v hpos
  have h4 := Int.emod_add_mul_ediv (v / z) 256
  have h5 := Int.emod_nonneg (v / z) (b := 256) (by decide)
  have h6 := Int.emod_lt_of_pos (v / z) (b := 256) (by decide)
  generalize hq : v / z / 256 = q at *
  generalize hr : v / z % 256 = r at *
  generalize hm : v % z = m at *
  have e2 : v = (m + r * z) + z * 256 * q := by
    rw [← h1, ← h4, Int.mul_add, Int.mul_comm r z, Int.mul_assoc z 256 q]; omega
  have hb : m + r * z < z * 256 := by
    have : r * z ≤ 255 * z := Int.mul_le_mul_of_nonneg_right (by omega) (by omega)
    omega
  have hb0 : 0 ≤ m + r * z := by
    have := Int.mul_nonneg h5 (Int.le_of_lt hpos); omega
  rw [e2, Int.add_mul_emod_self_left, Int.emod_eq_of_lt hb0 hb]
theorem rdN_wrN_k {f : Int → Int} {p v : Int} (h00 : 0 ≤ p) (n : Nat) (h : p + n ≤ 18446744073709551616) : ∀ k : Nat, k ≤ n → rdN (wrN f p v n) p k = v % 2 ^ (8 * k)
  | 0, _ => by rw [rdN]; simp [Int.emod_one]
  | k + 1, hk => by
    rw [rdN, rdN_wrN_k h00 n h k (by omega), Int.emod_eq_of_lt (a := p + k) (by omega) (by omega), wrN_at h00 n h k (by omega), emod_next]
theorem rdN_wrN {f : Int → Int} {p v : Int} (h00 : 0 ≤ p) (h : p + 8 ≤ 18446744073709551616) (hv : 0 ≤ v) (hv2 : v < 18446744073709551616) : rdN (wrN f p v 8) p 8 = v := by
  rw [rdN_wrN_k h00 8 h 8 (by omega)]; exact Int.emod_eq_of_lt hv hv2
noncomputable def Chain (f : Int → Int) (E : Int) : Int → List Int → Prop
  | b, [] => b = 0
  | b, a :: l => E ≤ b ∧ b < 40000 ∧ rdN f (b + 8) 8 = a ∧ Chain f E (if rdN f b 8 > b then rdN f b 8 else 0) l
theorem Chain.btF {f : Int → Int} {E : Int} (hE : 0 < E) : ∀ (l : List Int) (b : Int), Chain f E b l → ∀ mo, btF f mo b = l.take mo
  | [], b, h, mo => by rw [show b = 0 from h, btF_zero]; simp
  | a :: l, b, ⟨h1, _, h2, h3⟩, 0 => rfl
  | a :: l, b, ⟨h1, _, h2, h3⟩, mo + 1 => by
    rw [Mine.btF, if_neg (by omega), h2, Chain.btF hE l _ h3 mo]; rfl
theorem Chain.agree {f g : Int → Int} {E : Int} (hE : 0 ≤ E) (H : Agree E f g) : ∀ (l : List Int) (b : Int), Chain f E b l → Chain g E b l
  | [], b, h => h
  | a :: l, b, ⟨h1, h0, h2, h3⟩ => by
    have e1 := rdN_congr H h1 (by omega) 8 (by omega)
    have e2 := rdN_congr H (p := b + 8) (by omega) (by omega) 8 (by omega)
    exact ⟨h1, h0, by rw [← e2]; exact h2, by rw [← e1]; exact Chain.agree hE H l _ h3⟩
theorem Chain.mono {f : Int → Int} {E E' : Int} (hE : E' ≤ E) : ∀ (l : List Int) (b : Int), Chain f E b l → Chain f E' b l
  | [], b, h => h
  | a :: l, b, ⟨h1, h0, h2, h3⟩ => ⟨Int.le_trans hE h1, h0, h2, Chain.mono hE l _ h3⟩
theorem Chain.bound {f : Int → Int} {E : Int} (hE : 0 ≤ E) : ∀ {l : List Int} {b : Int}, Chain f E b l → 0 ≤ b ∧ b < 40000
  | [], b, h => by rw [show b = 0 from h]; decide
  | a :: l, b, ⟨h1, h0, _⟩ => ⟨Int.le_trans hE h1, h0⟩
noncomputable def lvl (n : Nat) : Int := 32768 - 16 * (n : Int)
noncomputable def csOf : List Int → List (Int × Int)
  | [] => []
  | p :: l => csOf l ++ [(p, lvl (l.length + 1))]
theorem csOf_length : ∀ l, (csOf l).length = l.length
  | [] => rfl
  | p :: l => by rw [csOf, List.length_append, csOf_length l]; rfl
theorem csOf_fst : ∀ l, (csOf l).map (·.1) = l.reverse
  | [] => rfl
  | p :: l => by rw [csOf, List.map_append, csOf_fst l, List.reverse_cons]; rfl
structure Sim (d : DS) (m : Mom) : Prop where
  rip : d.q.rip = m.1
  cs : d.cs = csOf m.2.1
  dep : m.2.1.length ≤ 2
  fr : ∀ mo, btF d.q.f mo (d.q.ns.getD 5 0) = m.2.2.1.take mo
  sp : lvl m.2.1.length - 16 ≤ d.q.ns.getD 4 0 ∧ d.q.ns.getD 4 0 ≤ lvl m.2.1.length
  wt : m.2.2.2 = false → lvl m.2.1.length - 8 ≤ d.q.ns.getD 4 0
  lt : Str.ofString d.lat = Str.ofString "ret" → d.q.ns.getD 4 0 = lvl m.2.1.length - 8
inductive Follows (row : Int → Option (Ins × Int)) : DS → List Mom → DS → Prop
  | nil (d) : Follows row d [] d
  | cons {d m ms d'} : Sim d m → Legal row d → Follows row (dnext row d) ms d' → Follows row d (m :: ms) d'
theorem Follows.append {row : Int → Option (Ins × Int)} {d d1 d2 : DS} {ms ms' : List Mom} (x : Follows row d ms d1) (y : Follows row d1 ms' d2) : Follows row d (ms ++ ms') d2 := by
  induction x with
  | nil => exact y
  | cons s l _ ih => exact .cons s l (ih y)
theorem Follows.one {row : Int → Option (Ins × Int)} {d : DS} {m : Mom} (s : Sim d m) (l : Legal row d) : Follows row d [m] (dnext row d) := .cons s l (.nil _)
theorem dn {row : Int → Option (Ins × Int)} {d : DS} {ins : Ins} {wd : Int} (h : row d.q.rip = some (ins, wd)) :
    dnext row d = ⟨exec ins { d.q with rip := (d.q.rip + wd) % 18446744073709551616 }, nextCs ins d.cs (exec ins { d.q with rip := (d.q.rip + wd) % 18446744073709551616 }), d.cnt + 1, ins.name⟩ := by
  unfold dnext; rw [h]
theorem legal_of {row : Int → Option (Ins × Int)} {d : DS} {ins : Ins} {wd : Int} (h : row d.q.rip = some (ins, wd)) (hh : d.q.halted = false) (hc : d.cs.length ≤ 10) (hi : ins ≠ .ret) : Legal row d :=
  ⟨hh, hc, ins, wd, h, fun e => absurd e hi⟩
structure Rg (ns : List Int) (sp bp : Int) : Prop where
  len : ns.length = 16
  sp : ns.getD 4 0 = sp
  bp : ns.getD 5 0 = bp
theorem getD_setS {l : List Int} {i : Nat} {v : Int} (h : i < l.length) : (l.set i v).getD i 0 = v := by
  rw [List.getD_eq_getElem?_getD, List.getElem?_set_self h]; rfl
theorem getD_setN {l : List Int} {i j : Nat} {v : Int} (h : i ≠ j) : (l.set i v).getD j 0 = l.getD j 0 := by
  rw [List.getD_eq_getElem?_getD, List.getElem?_set_ne h, ← List.getD_eq_getElem?_getD]
theorem Rg.setSp {ns : List Int} {sp bp v : Int} (x : Rg ns sp bp) : Rg (ns.set 4 v) v bp :=
  ⟨by rw [List.length_set, x.len], getD_setS (by rw [x.len]; decide), by rw [getD_setN (by decide), x.bp]⟩
theorem Rg.setBp {ns : List Int} {sp bp v : Int} (x : Rg ns sp bp) : Rg (ns.set 5 v) sp v :=
  ⟨by rw [List.length_set, x.len], by rw [getD_setN (by decide), x.sp], getD_setS (by rw [x.len]; decide)⟩
theorem Rg.set1 {ns : List Int} {sp bp v : Int} (x : Rg ns sp bp) : Rg (ns.set 1 v) sp bp :=
  ⟨by rw [List.length_set, x.len], by rw [getD_setN (by decide), x.sp], by rw [getD_setN (by decide), x.bp]⟩
structure Prg (row : Int → Option (Ins × Int)) (bs : List (List (String × Int))) (bgs : Nat → Int) (wide : Int) : Prop where
  at_ : ∀ (k : Nat) body (j : Nat) r, bs[k]? = some body → body[j]? = some r → row (bgs k + wide * (j : Int)) = some (rowIns bgs wide (bgs k + wide * (j : Int)) r, wide)
  lo : ∀ (k : Nat) body (j : Nat), bs[k]? = some body → j ≤ body.length → 0 ≤ bgs k + wide * (j : Int) ∧ bgs k + wide * (j : Int) < 18446744073709551616 ∧ 0 ≤ bgs k
theorem Prg.next {row : Int → Option (Ins × Int)} {bs : List (List (String × Int))} {bgs : Nat → Int} {wide : Int} (P : Prg row bs bgs wide) {k j : Nat} {body : List (String × Int)} {r : String × Int} (hb : bs[k]? = some body) (hr : body[j]? = some r) :
    (bgs k + wide * (j : Int) + wide) % 18446744073709551616 = bgs k + wide * ((j + 1 : Nat) : Int) := by
  have h := P.lo k body (j + 1) hb (List.getElem?_eq_some_iff.mp hr).1
  have e : bgs k + wide * (j : Int) + wide = bgs k + wide * ((j + 1 : Nat) : Int) := by
    rw [Int.natCast_add, Int.mul_add]; omega
  rw [e, Int.emod_eq_of_lt h.1 h.2.1]
section
variable {row : Int → Option (Ins × Int)} {bs : List (List (String × Int))} {bgs : Nat → Int} {wide : Int}
structure St (bgs : Nat → Int) (wide : Int) (d : DS) (k j : Nat) (ops : List Int) (sp bp : Int) : Prop where
  rip : d.q.rip = bgs k + wide * (j : Int)
  hl : d.q.halted = false
  cs : d.cs = csOf ops
  rg : Rg d.q.ns sp bp
theorem St.push (P : Prg row bs bgs wide) {d : DS} {k j : Nat} {ops : List Int} {sp bp : Int} {body : List (String × Int)} {n : Int} (S : St bgs wide d k j ops sp bp) (hb : bs[k]? = some body) (hr : body[j]? = some ("push", n)) (h1 : 1000 ≤ sp) (h2 : sp ≤ 40000) :
    row d.q.rip = some (.push n.toNat, wide) ∧ St bgs wide (dnext row d) k (j + 1) ops (sp - 8) bp ∧ (dnext row d).lat = "push" ∧ (dnext row d).q.f = wrN d.q.f (sp - 8) (d.q.ns.getD n.toNat 0 % 18446744073709551616) 8 := by
  have e : row d.q.rip = some (.push n.toNat, wide) := by rw [S.rip, P.at_ k body j _ hb hr, rowIns_push]
  have em : (d.q.ns.getD 4 0 - 8) % 18446744073709551616 = sp - 8 := by rw [S.rg.sp, Int.emod_eq_of_lt (by omega) (by omega)]
  refine ⟨e, ?_⟩
  rw [dn e]
  simp only [exec, nextCs, em]
  exact ⟨⟨by rw [S.rip]; exact P.next hb hr, S.hl, S.cs, S.rg.setSp⟩, rfl, trivial⟩
theorem St.pop1 (P : Prg row bs bgs wide) {d : DS} {k j : Nat} {ops : List Int} {sp bp : Int} {body : List (String × Int)} (S : St bgs wide d k j ops sp bp) (hb : bs[k]? = some body) (hr : body[j]? = some ("pop", 1)) (h1 : 1000 ≤ sp) (h2 : sp ≤ 40000) :
    row d.q.rip = some (.pop 1, wide) ∧ St bgs wide (dnext row d) k (j + 1) ops (sp + 8) bp ∧ (dnext row d).lat = "pop" ∧ (dnext row d).q.f = d.q.f := by
  have e : row d.q.rip = some (.pop 1, wide) := by rw [S.rip, P.at_ k body j _ hb hr, rowIns_pop]; rfl
  have em : (d.q.ns.getD 4 0 + 8) % 18446744073709551616 = sp + 8 := by rw [S.rg.sp, Int.emod_eq_of_lt (by omega) (by omega)]
  refine ⟨e, ?_⟩
  rw [dn e]
  simp only [exec, nextCs, em]
  exact ⟨⟨by rw [S.rip]; exact P.next hb hr, S.hl, S.cs, S.rg.setSp.set1⟩, rfl, trivial⟩
theorem St.pop5 (P : Prg row bs bgs wide) {d : DS} {k j : Nat} {ops : List Int} {sp bp b0 : Int} {body : List (String × Int)} (S : St bgs wide d k j ops sp bp) (hb : bs[k]? = some body) (hr : body[j]? = some ("pop", 5)) (h1 : 1000 ≤ sp) (h2 : sp ≤ 40000) (hm : rdN d.q.f sp 8 = b0) (b1 : 0 ≤ b0) (b2 : b0 < 40000) :
    row d.q.rip = some (.pop 5, wide) ∧ St bgs wide (dnext row d) k (j + 1) ops (sp + 8) b0 ∧ (dnext row d).lat = "pop" ∧ (dnext row d).q.f = d.q.f := by
  have e : row d.q.rip = some (.pop 5, wide) := by rw [S.rip, P.at_ k body j _ hb hr, rowIns_pop]; rfl
  have em : (sp + 8) % 18446744073709551616 = sp + 8 := Int.emod_eq_of_lt (by omega) (by omega)
  refine ⟨e, ?_⟩
  rw [dn e]
  simp only [exec, nextCs, em, S.rg.sp, hm, Int.emod_eq_of_lt b1 (Int.lt_trans b2 (by decide : (40000 : Int) < 18446744073709551616))]
  exact ⟨⟨by rw [S.rip]; exact P.next hb hr, S.hl, S.cs, S.rg.setSp.setBp⟩, rfl, trivial⟩
theorem St.mov (P : Prg row bs bgs wide) {d : DS} {k j : Nat} {ops : List Int} {sp bp n : Int} {body : List (String × Int)} (S : St bgs wide d k j ops sp bp) (hb : bs[k]? = some body) (hr : body[j]? = some ("mov", n)) (h1 : 1000 ≤ sp) (h2 : sp ≤ 40000) :
    row d.q.rip = some (.mov, wide) ∧ St bgs wide (dnext row d) k (j + 1) ops sp sp ∧ (dnext row d).lat = "mov" ∧ (dnext row d).q.f = d.q.f := by
  have e : row d.q.rip = some (.mov, wide) := by rw [S.rip, P.at_ k body j _ hb hr, rowIns_mov]
  have em : d.q.ns.getD 4 0 % 18446744073709551616 % 18446744073709551616 = sp := by rw [S.rg.sp, Int.emod_emod, Int.emod_eq_of_lt (by omega) (by omega)]
  refine ⟨e, ?_⟩
  rw [dn e]
  simp only [exec, nextCs, em]
  exact ⟨⟨by rw [S.rip]; exact P.next hb hr, S.hl, S.cs, S.rg.setBp⟩, rfl, trivial⟩
theorem St.nop (P : Prg row bs bgs wide) {d : DS} {k j : Nat} {ops : List Int} {sp bp n : Int} {body : List (String × Int)} (S : St bgs wide d k j ops sp bp) (hb : bs[k]? = some body) (hr : body[j]? = some ("nop", n)) :
    row d.q.rip = some (.nop, wide) ∧ St bgs wide (dnext row d) k (j + 1) ops sp bp ∧ (dnext row d).lat = "nop" ∧ (dnext row d).q.f = d.q.f := by
  have e : row d.q.rip = some (.nop, wide) := by rw [S.rip, P.at_ k body j _ hb hr, rowIns_nop]
  refine ⟨e, ?_⟩
  rw [dn e]
  simp only [exec, nextCs]
  exact ⟨⟨by rw [S.rip]; exact P.next hb hr, S.hl, S.cs, S.rg⟩, rfl, trivial⟩
theorem St.hlt (P : Prg row bs bgs wide) {d : DS} {k j : Nat} {ops : List Int} {sp bp n : Int} {body : List (String × Int)} (S : St bgs wide d k j ops sp bp) (hb : bs[k]? = some body) (hr : body[j]? = some ("hlt", n)) :
    row d.q.rip = some (.hlt, wide) ∧ (dnext row d).q.rip = bgs k + wide * ((j + 1 : Nat) : Int) ∧ (dnext row d).q.halted = true ∧ (dnext row d).cs = csOf ops ∧ Rg (dnext row d).q.ns sp bp ∧ (dnext row d).lat = "hlt" ∧ (dnext row d).q.f = d.q.f := by
  have e : row d.q.rip = some (.hlt, wide) := by rw [S.rip, P.at_ k body j _ hb hr, rowIns_hlt]
  refine ⟨e, ?_⟩
  rw [dn e]
  simp only [exec, nextCs]
  exact ⟨by rw [S.rip]; exact P.next hb hr, trivial, S.cs, S.rg, rfl, trivial⟩
theorem St.call (P : Prg row bs bgs wide) {d : DS} {k k2 j : Nat} {ops : List Int} {bp : Int} {body body2 : List (String × Int)} (S : St bgs wide d k j ops (lvl ops.length - 8) bp) (hb : bs[k]? = some body) (hr : body[j]? = some ("call", (k2 : Int))) (hb2 : bs[k2]? = some body2) (hd : ops.length ≤ 2) :
    row d.q.rip = some (.call (bgs k2 - (bgs k + wide * (j : Int)) - wide), wide) ∧ St bgs wide (dnext row d) k2 0 ((bgs k + wide * ((j : Int) + 1)) :: ops) (lvl (ops.length + 1)) bp ∧ (dnext row d).lat = "call" ∧
      (dnext row d).q.f = wrN d.q.f (lvl (ops.length + 1)) (bgs k + wide * ((j : Int) + 1)) 8 ∧ rdN (dnext row d).q.f (lvl (ops.length + 1)) 8 = bgs k + wide * ((j : Int) + 1) := by
  have e : row d.q.rip = some (.call (bgs k2 - (bgs k + wide * (j : Int)) - wide), wide) := by rw [S.rip, P.at_ k body j _ hb hr, rowIns_call]; rfl
  have el : lvl ops.length - 8 - 8 = lvl (ops.length + 1) := by unfold lvl; omega
  have hl : 1000 ≤ lvl (ops.length + 1) ∧ lvl (ops.length + 1) ≤ 40000 := by unfold lvl; omega
  have em : (d.q.ns.getD 4 0 - 8) % 18446744073709551616 = lvl (ops.length + 1) := by rw [S.rg.sp, el, Int.emod_eq_of_lt (by omega) (by omega)]
  have en := P.next hb hr
  have en2 : bgs k + wide * ((j + 1 : Nat) : Int) = bgs k + wide * ((j : Int) + 1) := by rw [Int.natCast_add]; rfl
  have hlo := P.lo k body (j + 1) hb (List.getElem?_eq_some_iff.mp hr).1
  rw [en2] at en hlo
  have hlo2 := P.lo k2 body2 0 hb2 (Nat.zero_le _)
  have hmd : bgs k + wide * ((j : Int) + 1) = bgs k + wide * (j : Int) + wide := by rw [Int.mul_add]; omega
  have hj : (bgs k + wide * ((j : Int) + 1) + (bgs k2 - (bgs k + wide * (j : Int)) - wide)) % 18446744073709551616 = bgs k2 := by
    have : bgs k + wide * ((j : Int) + 1) + (bgs k2 - (bgs k + wide * (j : Int)) - wide) = bgs k2 := by omega
    rw [this]; exact Int.emod_eq_of_lt hlo2.2.2 (by have := hlo2.2.1; simp only [Int.natCast_zero, Int.mul_zero, Int.add_zero] at this; exact this)
  have hf := rdN_wrN (f := d.q.f) (p := lvl (ops.length + 1)) (by omega) (by omega) hlo.1 hlo.2.1
  refine ⟨e, ?_⟩
  rw [dn e]
  simp only [exec, nextCs, em, S.rip, en, hj]
  refine ⟨⟨by show bgs k2 = _; omega, S.hl, ?_, S.rg.setSp⟩, rfl, trivial, hf⟩
  show d.cs ++ [(rdN _ ((d.q.ns.set 4 (lvl (ops.length + 1))).getD 4 0) 8, (d.q.ns.set 4 (lvl (ops.length + 1))).getD 4 0)] = _
  rw [getD_setS (by rw [S.rg.len]; decide), hf, S.cs]; rfl
theorem St.ret (P : Prg row bs bgs wide) {d : DS} {k j : Nat} {own n : Int} {ops : List Int} {bp : Int} {body : List (String × Int)} (S : St bgs wide d k j (own :: ops) (lvl (ops.length + 1)) bp) (hb : bs[k]? = some body) (hr : body[j]? = some ("ret", n)) (hd : ops.length ≤ 1) (hm : rdN d.q.f (lvl (ops.length + 1)) 8 = own) :
    Legal row d ∧ (dnext row d).q.rip = own ∧ (dnext row d).q.halted = false ∧ (dnext row d).cs = csOf ops ∧ Rg (dnext row d).q.ns (lvl ops.length - 8) bp ∧ (dnext row d).lat = "ret" ∧ (dnext row d).q.f = d.q.f := by
  have e : row d.q.rip = some (.ret, wide) := by rw [S.rip, P.at_ k body j _ hb hr, rowIns_ret]
  have hl : 1000 ≤ lvl (ops.length + 1) ∧ lvl (ops.length + 1) ≤ 40000 := by unfold lvl; omega
  have el : lvl (ops.length + 1) + 8 = lvl ops.length - 8 := by unfold lvl; omega
  have em : (d.q.ns.getD 4 0 + 8) % 18446744073709551616 = lvl ops.length - 8 := by rw [S.rg.sp, el, Int.emod_eq_of_lt (by omega) (by omega)]
  refine ⟨⟨S.hl, by rw [S.cs, csOf_length]; simp only [List.length_cons]; omega, _, _, e, fun _ => ⟨csOf ops, ?_, ?_, ?_⟩⟩, ?_⟩
  · simp only [exec]
    rw [S.cs, S.rg.sp, hm]; rfl
  · simp only [exec]
    rw [em, getD_setS (by rw [S.rg.len]; decide), S.rg.sp]; omega
  · by_cases c0 : ops = []
    · subst c0; exact .inl rfl
    · obtain ⟨c, l, rfl⟩ := List.exists_cons_of_ne_nil c0
      have hl0 : l = [] := List.eq_nil_of_length_eq_zero (by simp only [List.length_cons] at hd; omega)
      subst hl0
      refine .inr ⟨_, rfl, ?_⟩
      simp only [exec]
      rw [em, getD_setS (by rw [S.rg.len]; decide)]
      show lvl 1 - 8 ≤ lvl 1
      omega
  · rw [dn e]
    have em2 : (lvl (ops.length + 1) + 8) % 18446744073709551616 = lvl ops.length - 8 := by rw [← S.rg.sp]; exact em
    simp only [exec, nextCs, S.rg.sp, em2, hm]
    exact ⟨trivial, S.hl, by rw [S.cs, csOf]; simp, S.rg.setSp, rfl, trivial⟩
end
noncomputable def seqM (rec_ : Nat → List Int → List Int → List Mom) (b wide : Int) (len : Nat) (ops frs : List Int) : Nat → List (String × Int) → List Mom
  | _, [] => []
  | j, r :: l => momsAt rec_ b wide len ops frs j r ++ seqM rec_ b wide len ops frs (j + 1) l
theorem seqM_append (rec_ : Nat → List Int → List Int → List Mom) (b wide : Int) (len : Nat) (ops frs : List Int) : ∀ (l l' : List (String × Int)) (j : Nat), seqM rec_ b wide len ops frs j (l ++ l') = seqM rec_ b wide len ops frs j l ++ seqM rec_ b wide len ops frs (j + l.length) l'
  | [], l', j => rfl
  | r :: l, l', j => by
    show _ ++ seqM rec_ b wide len ops frs (j + 1) (l ++ l') = _ ++ _ ++ _
    rw [seqM_append rec_ b wide len ops frs l l' (j + 1), List.append_assoc, List.length_cons, show j + 1 + l.length = j + (l.length + 1) by omega]
theorem seqM_range (rec_ : Nat → List Int → List Int → List Mom) (b wide : Int) (len : Nat) (ops frs : List Int) : ∀ (l : List (String × Int)) (j0 : Nat), ((List.range l.length).flatMap fun j => momsAt rec_ b wide len ops frs (j0 + j) (l.getD j ("nop", 0))) = seqM rec_ b wide len ops frs j0 l
  | [], j0 => rfl
  | r :: l, j0 => by
    rw [List.length_cons, List.range_succ_eq_map, List.flatMap_cons, List.flatMap_map]
    have e : (fun j => momsAt rec_ b wide len ops frs (j0 + Nat.succ j) ((r :: l).getD (Nat.succ j) ("nop", 0))) = fun j => momsAt rec_ b wide len ops frs (j0 + 1 + j) (l.getD j ("nop", 0)) := by
      funext j
      rw [show j0 + Nat.succ j = j0 + 1 + j by omega]; rfl
    rw [show seqM rec_ b wide len ops frs j0 (r :: l) = momsAt rec_ b wide len ops frs j0 r ++ seqM rec_ b wide len ops frs (j0 + 1) l from rfl, ← seqM_range rec_ b wide len ops frs l (j0 + 1), ← e]
    rfl
theorem nest_seq {bs : List (List (String × Int))} {bgs : Nat → Int} {wide : Int} {f k : Nat} {ops frs : List Int} {body : List (String × Int)} (hb : bs[k]? = some body) :
    nest bs bgs wide (f + 1) k ops frs = seqM (nest bs bgs wide f) (bgs k) wide body.length ops frs 0 body ++ (if k = 0 then [(bgs k + wide * (body.length : Int), ops, frs, false)] else []) := by
  have e : bs.getD k [] = body := by rw [List.getD_eq_getElem?_getD, hb]; rfl
  rw [nest, e, ← seqM_range]
  simp only [Nat.zero_add]
theorem moms_plain {rec_ : Nat → List Int → List Int → List Mom} {b wide : Int} {len : Nat} {ops frs : List Int} {j : Nat} {r : String × Int} (h : r.1 ≠ "call") : momsAt rec_ b wide len ops frs j r = [(b + wide * (j : Int), ops, framedOf len j ops frs, decide (r = ("pop", 1)))] := by
  rw [momsAt, if_neg h]
section
variable {row : Int → Option (Ins × Int)} {bs : List (List (String × Int))} {bgs : Nat → Int} {wide : Int}
structure Mem (f0 : Int → Int) (n : Nat) (own b : Int) (frs : List Int) : Prop where
  own : rdN f0 (lvl n) 8 = own
  old : rdN f0 (lvl n - 8) 8 = b
  ch : Chain f0 (lvl n) b frs
theorem lvl_lo {n : Nat} (h : n ≤ 3) : 32720 ≤ lvl n ∧ lvl n ≤ 32768 := by unfold lvl; omega
theorem lvl_succ (n : Nat) : lvl (n + 1) = lvl n - 16 := by unfold lvl; omega
theorem Mem.framed {f0 f : Int → Int} {n : Nat} {own b : Int} {frs : List Int} (M : Mem f0 n own b frs) (hn : n ≤ 3) (H : Agree (lvl n - 8) f f0) : Chain f (lvl n - 8) (lvl n - 8) (own :: frs) := by
  have hl := lvl_lo hn
  refine Chain.agree (f := f0) (by omega) (fun x hx => (H x hx).symm) _ _ ⟨Int.le_refl _, by omega, by rw [show lvl n - 8 + 8 = lvl n by omega]; exact M.own, ?_⟩
  have hc := Chain.mono (E' := lvl n - 8) (by omega) _ _ M.ch
  rw [M.old]
  by_cases c : b > lvl n - 8
  · rw [if_pos c]; exact hc
  · rw [if_neg c]
    have hch := M.ch
    cases frs with
    | nil => rfl
    | cons a l => exact absurd hch.1 (by omega)
structure Mid (bgs : Nat → Int) (wide : Int) (f0 : Int → Int) (d : DS) (k j : Nat) (ops : List Int) : Prop where
  st : St bgs wide d k j ops (lvl ops.length - 8) (lvl ops.length - 8)
  ag : Agree (lvl ops.length - 8) d.q.f f0
theorem Mid.sim {f0 : Int → Int} {d : DS} {k j : Nat} {ops frs : List Int} {own b : Int} {w : Bool} (x : Mid bgs wide f0 d k j ops) (M : Mem f0 ops.length own b frs) (hn : ops.length ≤ 2) : Sim d (bgs k + wide * (j : Int), ops, own :: frs, w) := by
  have hl := lvl_lo (n := ops.length) (by omega)
  refine ⟨x.st.rip, x.st.cs, hn, fun mo => ?_, ?_, fun _ => ?_, fun _ => x.st.rg.sp⟩
  · rw [x.st.rg.bp]; exact Chain.btF (by omega) _ _ (M.framed (by omega) x.ag) mo
  · rw [x.st.rg.sp]; exact ⟨by show lvl ops.length - 16 ≤ _; omega, by show _ ≤ lvl ops.length; omega⟩
  · rw [x.st.rg.sp]; exact Int.le_refl _
noncomputable def Runs (row : Int → Option (Ins × Int)) (bs : List (List (String × Int))) (bgs : Nat → Int) (wide : Int) (f : Nat) : Prop :=
  ∀ (k : Nat) (ops frs : List Int) (d : DS) (b own : Int), 1 ≤ k → k < 3 → 3 ≤ k + f → ops.length + 1 ≤ k → St bgs wide d k 0 (own :: ops) (lvl (ops.length + 1)) b → rdN d.q.f (lvl (ops.length + 1)) 8 = own → Chain d.q.f (lvl (ops.length + 1)) b frs → Str.ofString d.lat ≠ Str.ofString "ret" →
    ∃ d', Follows row d (nest bs bgs wide f k (own :: ops) frs) d' ∧ Agree (lvl (ops.length + 1)) d'.q.f d.q.f ∧ d'.q.rip = own ∧ d'.q.halted = false ∧ d'.cs = csOf ops ∧ Rg d'.q.ns (lvl ops.length - 8) b ∧ d'.lat = "ret"
theorem csl {ops : List Int} {d : DS} (h : d.cs = csOf ops) (hn : ops.length ≤ 2) : d.cs.length ≤ 10 := by rw [h, csOf_length]; omega
theorem mid_items (P : Prg row bs bgs wide) {f : Nat} (ih : Runs row bs bgs wide f) {k : Nat} {ops frs : List Int} {own b : Int} {f0 : Int → Int} {body : List (String × Int)} (hb : bs[k]? = some body) (M : Mem f0 ops.length own b frs) (hn : ops.length ≤ k) (hk : k < 3) (hf : 3 ≤ k + (f + 1)) (ho : ownOf ops = [own])
    (hbs : ∀ k, k < 3 → ∃ body, bs[k]? = some body) :
    ∀ (its : List Item) (j : Nat) (d : DS), (∀ i ∈ its, i.Ok k) → (∀ i r, (rowsOf its)[i]? = some r → body[j + i]? = some r) → 2 ≤ j → j + (rowsOf its).length + 1 < body.length → Mid bgs wide f0 d k j ops →
      ∃ d', Follows row d (seqM (nest bs bgs wide f) (bgs k) wide body.length ops frs j (rowsOf its)) d' ∧ Mid bgs wide f0 d' k (j + (rowsOf its).length) ops
  | [], j, d, _, _, _, _, x => ⟨d, .nil d, x⟩
  | it :: its, j, d, hi, hr, hj, hl, x => by
    have hn2 : ops.length ≤ 2 := by omega
    have hlv := lvl_lo (n := ops.length) (by omega)
    have e : rowsOf (it :: its) = it.rows ++ rowsOf its := rfl
    rw [e, List.length_append] at hl
    have hr1 : ∀ i r, it.rows[i]? = some r → body[j + i]? = some r := fun i r h => hr i r (by rw [e, List.getElem?_append_left (List.getElem?_eq_some_iff.mp h).1]; exact h)
    have hfr : ∀ i, i < it.rows.length → framedOf body.length (j + i) ops frs = own :: frs := fun i hi => by
      rw [framedOf, if_pos ⟨by omega, by omega⟩, ho]; rfl
    obtain ⟨d1, F1, x1⟩ : ∃ d1, Follows row d (seqM (nest bs bgs wide f) (bgs k) wide body.length ops frs j it.rows) d1 ∧ Mid bgs wide f0 d1 k (j + it.rows.length) ops := by
      cases it with
      | nop =>
        have hx := hr1 0 _ rfl
        obtain ⟨a1, a2, a3, a4⟩ := x.st.nop P hb hx
        refine ⟨dnext row d, ?_, ⟨a2, by rw [a4]; exact x.ag⟩⟩
        show Follows row d (momsAt _ _ _ _ _ _ _ _ ++ []) _
        rw [List.append_nil, moms_plain (by decide), show framedOf body.length j ops frs = own :: frs from hfr 0 (by decide)]
        exact .one (x.sim M hn2) (legal_of a1 x.st.hl (csl x.st.cs hn2) (by simp))
      | pp =>
        have hx := hr1 0 _ rfl
        have hy := hr1 1 _ rfl
        obtain ⟨a1, a2, a3, a4⟩ := x.st.push P hb hx (by omega) (by omega)
        obtain ⟨b1, b2, b3, b4⟩ := a2.pop1 P hb hy (by omega) (by omega)
        have ag : Agree (lvl ops.length - 8) (dnext row d).q.f f0 := by
          rw [a4]
          have h8 := wrN_agree (f := d.q.f) (p := lvl ops.length - 8 - 8) (v := d.q.ns.getD (0 : Int).toNat 0 % 18446744073709551616) (by omega) (by omega)
          rw [show lvl ops.length - 8 - 8 + 8 = lvl ops.length - 8 by omega] at h8
          exact h8.trans x.ag
        refine ⟨dnext row (dnext row d), ?_, ⟨by rw [show lvl ops.length - 8 - 8 + 8 = lvl ops.length - 8 by omega] at b2; exact b2, by rw [b4]; exact ag⟩⟩
        show Follows row d (momsAt _ _ _ _ _ _ _ _ ++ (momsAt _ _ _ _ _ _ _ _ ++ [])) _
        rw [List.append_nil, moms_plain (by decide), moms_plain (by decide), show framedOf body.length j ops frs = own :: frs from hfr 0 (by decide), show framedOf body.length (j + 1) ops frs = own :: frs from hfr 1 (by decide)]
        refine .cons (x.sim M hn2) (legal_of a1 x.st.hl (csl x.st.cs hn2) (by simp)) (.one ⟨a2.rip, a2.cs, hn2, fun mo => ?_, ?_, fun h => ?_, fun h => ?_⟩ (legal_of b1 a2.hl (csl a2.cs hn2) (by simp)))
        · rw [a2.rg.bp]; exact Chain.btF (by omega) _ _ (M.framed (by omega) ag) mo
        · rw [a2.rg.sp]; exact ⟨by show lvl ops.length - 16 ≤ _; omega, by show _ ≤ lvl ops.length; omega⟩
        · exact absurd (show decide ((("pop" : String), (1 : Int)) = ("pop", 1)) = false from h) (by decide)
        · rw [a3] at h; exact absurd h (by decide)
      | call k2 =>
        have hx := hr1 0 _ rfl
        obtain ⟨hk1, hk2⟩ : k < k2 ∧ k2 ≤ 2 := hi _ (.head _)
        obtain ⟨body2, hb2⟩ := hbs k2 (by omega)
        obtain ⟨a1, a2, a3, a4, a5⟩ := x.st.call P hb hx hb2 hn2
        have ag : Agree (lvl ops.length - 8) (dnext row d).q.f f0 := by
          rw [a4]
          have h8 := wrN_agree (f := d.q.f) (p := lvl (ops.length + 1)) (v := bgs k + wide * ((j : Int) + 1)) (by rw [lvl_succ]; omega) (by rw [lvl_succ]; omega)
          rw [lvl_succ, show lvl ops.length - 16 + 8 = lvl ops.length - 8 by omega] at h8
          rw [lvl_succ]
          exact h8.trans x.ag
        obtain ⟨d', f1, f2, f3, f4, f5, f6, f7⟩ := ih k2 ops (own :: frs) (dnext row d) _ _ (by omega) (by omega) (by omega) (by omega) a2 a5 (Chain.mono (by rw [lvl_succ]; omega) _ _ (M.framed (by omega) ag)) (by rw [a3]; decide)
        refine ⟨d', ?_, ⟨⟨f3, f4, f5, f6⟩, (Agree.mono f2 (by rw [lvl_succ]; omega)).trans ag⟩⟩
        show Follows row d (momsAt _ _ _ _ _ _ _ _ ++ []) _
        rw [List.append_nil, momsAt, if_pos rfl, show framedOf body.length j ops frs = own :: frs from hfr 0 (Nat.lt_succ_self 0)]
        exact .cons (x.sim M hn2) (legal_of a1 x.st.hl (csl x.st.cs hn2) (by simp)) f1
    have hr2 : ∀ i r, (rowsOf its)[i]? = some r → body[j + it.rows.length + i]? = some r := fun i r h => by
      rw [Nat.add_assoc]
      refine hr _ r ?_
      rw [e, List.getElem?_append_right (Nat.le_add_right _ _), Nat.add_sub_cancel_left]; exact h
    obtain ⟨d2, F2, x2⟩ := mid_items P ih hb M hn hk hf ho hbs its (j + it.rows.length) d1 (fun i h => hi i (.tail _ h)) hr2 (by omega) (by omega) x1
    refine ⟨d2, ?_, ?_⟩
    · rw [e, seqM_append]; exact F1.append F2
    · rw [e, List.length_append, ← Nat.add_assoc]; exact x2
inductive BodyFollowsR (row : Int → Option (Ins × Int)) (bs : List (List (String × Int))) (bgs : Nat → Int) (wide : Int) (f : Nat) (k : Nat) (its : List Item) (ops : List Int) (frs : List Int) (b : Int) (d : DS) : Prop
  | mk (d' : _) (_ : Follows row d (seqM (nest bs bgs wide f) (bgs k) wide (bodyOf k its).length ops frs 0 ([("push", 5), ("mov", 0)] ++ rowsOf its ++ [("pop", 5)])) d') (_ : St bgs wide d' k ((rowsOf its).length + 3) ops (lvl ops.length) b) (_ : Agree (lvl ops.length) d'.q.f d.q.f) (_ : d'.lat = "pop") : BodyFollowsR row bs bgs wide f k its ops frs b d
theorem body_follows (P : Prg row bs bgs wide) {f : Nat} (ih : Runs row bs bgs wide f) {k : Nat} {its : List Item} {ops frs : List Int} {own b : Int} {d : DS} (hb : bs[k]? = some (bodyOf k its)) (hok : ItemsOk k its) (hn : ops.length ≤ k) (hk : k < 3) (hf : 3 ≤ k + (f + 1)) (ho : ownOf ops = [own])
    (hbs : ∀ k, k < 3 → ∃ body, bs[k]? = some body) (S : St bgs wide d k 0 ops (lvl ops.length) b) (hown : rdN d.q.f (lvl ops.length) 8 = own) (hch : Chain d.q.f (lvl ops.length) b frs) (hlat : Str.ofString d.lat ≠ Str.ofString "ret") : BodyFollowsR row bs bgs wide f k its ops frs b d := by
  have hn2 : ops.length ≤ 2 := by omega
  have hlv := lvl_lo (n := ops.length) (by omega)
  have hbd := Chain.bound (by omega) hch
  have hlen : (bodyOf k its).length = (rowsOf its).length + 4 := by rw [bodyOf]; simp only [List.length_append, List.length_cons, List.length_nil]; omega
  have r0 : (bodyOf k its)[0]? = some ("push", 5) := rfl
  have r1 : (bodyOf k its)[1]? = some ("mov", 0) := rfl
  have rm : ∀ i r, (rowsOf its)[i]? = some r → (bodyOf k its)[2 + i]? = some r := fun i r h => by
    have := (List.getElem?_eq_some_iff.mp h).1
    rw [bodyOf, List.getElem?_append_left (by rw [List.length_append]; show 2 + i < 2 + _; omega), List.getElem?_append_right (by show 2 ≤ 2 + i; omega)]
    rw [show 2 + i - [(("push" : String), (5 : Int)), ("mov", 0)].length = i by show 2 + i - 2 = i; omega]; exact h
  have rp : (bodyOf k its)[2 + (rowsOf its).length]? = some ("pop", 5) := by
    rw [bodyOf, List.getElem?_append_right (by rw [List.length_append]; show 2 + _ ≤ 2 + _; omega), List.length_append, show 2 + (rowsOf its).length - ([(("push" : String), (5 : Int)), ("mov", 0)].length + (rowsOf its).length) = 0 by show 2 + _ - (2 + _) = 0; omega]; rfl
  obtain ⟨a1, a2, a3, a4⟩ := S.push P hb r0 (by omega) (by omega)
  rw [show (5 : Int).toNat = 5 from rfl, S.rg.bp, Int.emod_eq_of_lt hbd.1 (by omega)] at a4
  have ag0 : Agree (lvl ops.length) (dnext row d).q.f d.q.f := by
    rw [a4]
    have h8 := wrN_agree (f := d.q.f) (p := lvl ops.length - 8) (v := b) (by omega) (by omega)
    rw [show lvl ops.length - 8 + 8 = lvl ops.length by omega] at h8
    exact h8
  have M : Mem (dnext row d).q.f ops.length own b frs := ⟨by rw [← hown]; exact rdN_congr ag0 (Int.le_refl _) (by omega) 8 (by omega), by rw [a4]; exact rdN_wrN (by omega) (by omega) hbd.1 (by omega), Chain.agree (by omega) (fun x hx => (ag0 x hx).symm) _ _ hch⟩
  obtain ⟨b1, b2, b3, b4⟩ := a2.mov P hb r1 (by omega) (by omega)
  have x : Mid bgs wide (dnext row d).q.f (dnext row (dnext row d)) k 2 ops := ⟨b2, by rw [b4]; exact Agree.refl _ _⟩
  obtain ⟨d3, F3, x3⟩ := mid_items P ih hb M hn hk hf ho hbs its 2 _ hok.2 rm (Nat.le_refl _) (by omega) x
  obtain ⟨c1, c2, c3, c4⟩ := x3.st.pop5 P hb rp (by omega) (by omega) (b0 := b) (by rw [← M.old]; exact rdN_congr x3.ag (Int.le_refl _) (by omega) 8 (by omega)) hbd.1 hbd.2
  have hsp : ∀ {z : Int}, z = lvl ops.length ∨ z = lvl ops.length - 8 → lvl ops.length - 16 ≤ z ∧ z ≤ lvl ops.length := fun h => by omega
  refine ⟨dnext row d3, ?_, ?_, ?_, c3⟩
  · rw [seqM_append, seqM_append]
    refine Follows.append (Follows.append ?_ F3) ?_
    · show Follows row d (momsAt _ _ _ _ _ _ _ _ ++ (momsAt _ _ _ _ _ _ _ _ ++ [])) _
      rw [List.append_nil, moms_plain (by decide), moms_plain (by decide), framedOf, if_neg (by omega), framedOf, if_neg (by omega)]
      refine .cons ⟨S.rip, S.cs, hn2, fun mo => ?_, ?_, fun _ => ?_, fun h => absurd h hlat⟩ (legal_of a1 S.hl (csl S.cs hn2) (by simp)) (.one ⟨a2.rip, a2.cs, hn2, fun mo => ?_, ?_, fun _ => ?_, fun h => ?_⟩ (legal_of b1 a2.hl (csl a2.cs hn2) (by simp)))
      · rw [S.rg.bp]; exact Chain.btF (by omega) _ _ hch mo
      · rw [S.rg.sp]; exact hsp (.inl rfl)
      · rw [S.rg.sp]; show lvl ops.length - 8 ≤ _; omega
      · rw [a2.rg.bp]; exact Chain.btF (by omega) _ _ M.ch mo
      · rw [a2.rg.sp]; exact hsp (.inr rfl)
      · rw [a2.rg.sp]; exact Int.le_refl _
      · rw [a3] at h; exact absurd h (by decide)
    · show Follows row d3 (momsAt _ _ _ _ _ _ (0 + ([(("push" : String), (5 : Int)), ("mov", 0)] ++ rowsOf its).length) _ ++ []) _
      have ej : 0 + ([(("push" : String), (5 : Int)), ("mov", 0)] ++ rowsOf its).length = 2 + (rowsOf its).length := by
        rw [List.length_append]; show 0 + (2 + _) = _; omega
      rw [List.append_nil, ej, moms_plain (by decide), framedOf, if_pos ⟨by omega, by omega⟩, ho]
      exact .one (x3.sim M hn2) (legal_of c1 x3.st.hl (csl x3.st.cs hn2) (by simp))
  · rw [show lvl ops.length - 8 + 8 = lvl ops.length by omega] at c2
    rw [show (rowsOf its).length + 3 = 2 + (rowsOf its).length + 1 by omega]; exact c2
  · rw [c4]; exact (Agree.mono x3.ag (by omega)).trans ag0
theorem bodyOf_split (k : Nat) (its : List Item) : bodyOf k its = ([("push", 5), ("mov", 0)] ++ rowsOf its ++ [("pop", 5)]) ++ [(if k = 0 then "hlt" else "ret", 0)] := by
  rw [bodyOf]; simp only [List.append_assoc]; rfl
theorem last_row (k : Nat) (its : List Item) : (bodyOf k its)[(rowsOf its).length + 3]? = some (if k = 0 then "hlt" else "ret", 0) := by
  have e : ([(("push" : String), (5 : Int)), ("mov", 0)] ++ rowsOf its ++ [("pop", 5)]).length = (rowsOf its).length + 3 := by
    simp only [List.length_append, List.length_cons, List.length_nil]; omega
  rw [bodyOf_split, List.getElem?_append_right (by rw [e]; exact Nat.le_refl _), e, Nat.sub_self]; rfl
theorem runs (P : Prg row bs bgs wide) (hbs : ∀ k, k < 3 → ∃ its, bs[k]? = some (bodyOf k its) ∧ ItemsOk k its) : ∀ f, Runs row bs bgs wide f
  | 0 => fun k ops frs d b own h1 h2 h3 => absurd h3 (by omega)
  | f + 1 => fun k ops frs d b own h1 h2 h3 h4 S hown hch hlat => by
    obtain ⟨its, hb, hok⟩ := hbs k h2
    have hbs' : ∀ k, k < 3 → ∃ body, bs[k]? = some body := fun k hk => (hbs k hk).elim fun its h => ⟨_, h.1⟩
    have hlv := lvl_lo (n := ops.length + 1) (by omega)
    have hlv' : 32720 ≤ lvl (own :: ops).length ∧ lvl (own :: ops).length ≤ 32768 := hlv
    obtain ⟨d1, F1, S1, A1, L1⟩ := body_follows P (runs P hbs f) hb hok (ops := own :: ops) (own := own) h4 h2 h3 (by rw [ownOf, if_neg (by simp)]; rfl) hbs' S hown hch hlat
    have hlr := last_row k its
    rw [if_neg (by omega)] at hlr
    have hlen : (bodyOf k its).length = (rowsOf its).length + 4 := by rw [bodyOf]; simp only [List.length_append, List.length_cons, List.length_nil]; omega
    obtain ⟨l1, e1, e2, e3, e4, e5, e6⟩ := S1.ret P hb hlr (by omega) (by rw [← hown]; exact rdN_congr A1 (Int.le_refl _) (by omega) 8 (by omega))
    refine ⟨dnext row d1, ?_, by rw [e6]; exact A1, e1, e2, e3, e4, e5⟩
    have hch1 : Chain d1.q.f (lvl (ops.length + 1)) b frs := Chain.agree (by omega) (fun x hx => (A1 x hx).symm) _ _ hch
    rw [nest_seq hb, if_neg (by omega), List.append_nil]
    conv => arg 3; arg 8; rw [bodyOf_split]
    rw [seqM_append]
    refine F1.append ?_
    have ej : 0 + ([(("push" : String), (5 : Int)), ("mov", 0)] ++ rowsOf its ++ [("pop", 5)]).length = (rowsOf its).length + 3 := by
      simp only [List.length_append, List.length_cons, List.length_nil]; omega
    rw [ej, if_neg (by omega)]
    show Follows row d1 (momsAt _ _ _ _ _ _ _ _ ++ []) _
    rw [List.append_nil, moms_plain (by decide), framedOf, if_neg (by omega)]
    refine .one ⟨S1.rip, S1.cs, ?_, fun mo => ?_, ?_, fun _ => ?_, fun h => ?_⟩ l1
    · show (own :: ops).length ≤ 2
      simp only [List.length_cons]; omega
    · rw [S1.rg.bp]; exact Chain.btF (by omega) _ _ hch1 mo
    · rw [S1.rg.sp]; show lvl (own :: ops).length - 16 ≤ lvl (own :: ops).length ∧ lvl (own :: ops).length ≤ lvl (own :: ops).length; omega
    · rw [S1.rg.sp]; show lvl (own :: ops).length - 8 ≤ lvl (own :: ops).length; omega
    · rw [L1] at h; exact absurd h (by decide)
end
theorem iter_succ' (row : Int → Option (Ins × Int)) (d : DS) : ∀ k, iter row d (k + 1) = iter row (dnext row d) k
  | 0 => rfl
  | k + 1 => by
    show dnext row (iter row d (k + 1)) = dnext row (iter row (dnext row d) k)
    rw [iter_succ' row d k]
theorem iter_add (row : Int → Option (Ins × Int)) (d : DS) (a : Nat) : ∀ b, iter row (iter row d a) b = iter row d (a + b)
  | 0 => rfl
  | b + 1 => by
    show dnext row (iter row (iter row d a) b) = dnext row (iter row d (a + b))
    rw [iter_add row d a b]
theorem Follows.end_ {row : Int → Option (Ins × Int)} {d d' : DS} {ms : List Mom} (x : Follows row d ms d') : iter row d ms.length = d' := by
  induction x with
  | nil => rfl
  | cons _ _ _ ih => rw [List.length_cons, iter_succ', ih]
theorem Follows.at_ {row : Int → Option (Ins × Int)} {d d' : DS} {ms : List Mom} (x : Follows row d ms d') : ∀ (i : Nat) (m : Mom), ms[i]? = some m → Sim (iter row d i) m ∧ Legal row (iter row d i) := by
  induction x with
  | nil => intro i m h; cases i <;> cases h
  | cons s l _ ih =>
    intro i m h
    cases i with
    | zero => cases h; exact ⟨s, l⟩
    | succ i => rw [iter_succ']; exact ih i m h
theorem legal_cnt {row : Int → Option (Ins × Int)} {d : DS} (l : Legal row d) : (dnext row d).cnt = d.cnt + 1 := by
  obtain ⟨_, _, ins, wd, h, _⟩ := l
  rw [dn h]
theorem iter_cnt {row : Int → Option (Ins × Int)} {d : DS} : ∀ n : Nat, (∀ j, j < n → Legal row (iter row d j)) → (iter row d n).cnt = d.cnt + (n : Int)
  | 0, _ => by simp [iter]
  | n + 1, h => by
    show (dnext row (iter row d n)).cnt = _
    rw [legal_cnt (h n (Nat.lt_succ_self n)), iter_cnt n fun j hj => h j (Nat.lt_succ_of_lt hj)]
    omega
theorem len_drop {row : Int → Option (Ins × Int)} {d : DS} (l : Legal row d) (h : (dnext row d).cs.length < d.cs.length) : (dnext row d).lat = "ret" ∧ (dnext row d).cs.length + 1 = d.cs.length := by
  obtain ⟨_, _, ins, wd, e, _⟩ := l
  rw [dn e] at h ⊢
  cases ins with
  | ret => exact ⟨rfl, by simp only [nextCs, List.length_dropLast] at h ⊢; omega⟩
  | call v => simp only [nextCs, List.length_append] at h; omega
  | push r => exact absurd h (Nat.lt_irrefl _)
  | pop r => exact absurd h (Nat.lt_irrefl _)
  | mov => exact absurd h (Nat.lt_irrefl _)
  | nop => exact absurd h (Nat.lt_irrefl _)
  | hlt => exact absurd h (Nat.lt_irrefl _)
structure Whole (row : Int → Option (Ins × Int)) (d : DS) (M : List Mom) : Prop where
  len : 5 ≤ M.length
  len2 : M.length ≤ 119
  sim : ∀ (i : Nat) m, M[i]? = some m → i + 1 < M.length → Sim (iter row d i) m ∧ Legal row (iter row d i)
  end_ : ∀ m, M[M.length - 1]? = some m → (iter row d (M.length - 1)).q.halted = true ∧ (iter row d (M.length - 1)).q.rip = m.1 ∧ (iter row d (M.length - 1)).cs = csOf m.2.1 ∧ m.2.1 = [] ∧ ∀ mo, btF (iter row d (M.length - 1)).q.f mo ((iter row d (M.length - 1)).q.ns.getD 5 0) = m.2.2.1.take mo
section
variable {row : Int → Option (Ins × Int)} {bs : List (List (String × Int))} {bgs : Nat → Int} {wide : Int}
theorem items_len {rec_ : Nat → List Int → List Int → List Mom} {b : Int} {len k c : Nat} {ops frs : List Int} (hc : 2 ≤ c) (hr : ∀ k2 ops frs, k < k2 → k2 ≤ 2 → (rec_ k2 ops frs).length + 1 ≤ c) :
    ∀ (its : List Item) (j : Nat), (∀ i ∈ its, i.Ok k) → (seqM rec_ b wide len ops frs j (rowsOf its)).length ≤ its.length * c
  | [], _, _ => Nat.zero_le _
  | it :: its, j, hi => by
    have ih := items_len (b := b) (len := len) (ops := ops) (frs := frs) hc hr its (j + it.rows.length) (fun i h => hi i (.tail _ h))
    rw [show rowsOf (it :: its) = it.rows ++ rowsOf its from rfl, seqM_append, List.length_append, List.length_cons, Nat.succ_mul]
    have h1 : (seqM rec_ b wide len ops frs j it.rows).length ≤ c := by
      cases it with
      | nop =>
        show (momsAt _ _ _ _ _ _ _ _ ++ []).length ≤ c
        rw [List.append_nil, moms_plain (by decide)]
        show 1 ≤ c
        omega
      | pp =>
        show (momsAt _ _ _ _ _ _ _ _ ++ (momsAt _ _ _ _ _ _ _ _ ++ [])).length ≤ c
        rw [List.append_nil, moms_plain (by decide), moms_plain (by decide)]
        exact hc
      | call k2 =>
        show (momsAt _ _ _ _ _ _ _ _ ++ []).length ≤ c
        rw [List.append_nil, momsAt, if_pos rfl, List.length_cons]
        obtain ⟨h1, h2⟩ : k < k2 ∧ k2 ≤ 2 := hi _ (.head _)
        exact hr k2 _ _ h1 h2
    omega
theorem bodyOf_two (k : Nat) (its : List Item) : bodyOf k its = [("push", 5), ("mov", 0)] ++ (rowsOf its ++ [("pop", 5), (if k = 0 then "hlt" else "ret", 0)]) := by
  rw [bodyOf]; simp only [List.append_assoc]
theorem body_len {rec_ : Nat → List Int → List Int → List Mom} {b : Int} {len k c : Nat} {ops frs : List Int} {its : List Item} (hok : ItemsOk k its) (hc : 2 ≤ c) (hr : ∀ k2 ops frs, k < k2 → k2 ≤ 2 → (rec_ k2 ops frs).length + 1 ≤ c) :
    (seqM rec_ b wide len ops frs 0 (bodyOf k its)).length ≤ 4 + 3 * c ∧ 4 ≤ (seqM rec_ b wide len ops frs 0 (bodyOf k its)).length := by
  have h := items_len (rec_ := rec_) (wide := wide) (b := b) (len := len) (ops := ops) (frs := frs) hc hr its (0 + [(("push" : String), (5 : Int)), ("mov", 0)].length) hok.2
  have h2 : (seqM rec_ b wide len ops frs (0 + [(("push" : String), (5 : Int)), ("mov", 0)].length + (rowsOf its).length) [("pop", 5), (if k = 0 then "hlt" else "ret", 0)]).length = 2 := by
    show (momsAt _ _ _ _ _ _ _ _ ++ (momsAt _ _ _ _ _ _ _ _ ++ [])).length = 2
    rw [List.append_nil, moms_plain (by decide), moms_plain (by split <;> decide)]; rfl
  have h3 : (seqM rec_ b wide len ops frs 0 [("push", 5), ("mov", 0)]).length = 2 := by
    show (momsAt _ _ _ _ _ _ _ _ ++ (momsAt _ _ _ _ _ _ _ _ ++ [])).length = 2
    rw [List.append_nil, moms_plain (by decide), moms_plain (by decide)]; rfl
  have h4 : its.length * c ≤ 3 * c := Nat.mul_le_mul_right c hok.1
  rw [bodyOf_two, seqM_append, seqM_append, List.length_append, List.length_append, h2, h3]
  omega
theorem nest_len (hbs : ∀ k, k < 3 → ∃ its, bs[k]? = some (bodyOf k its) ∧ ItemsOk k its) : ∀ (f k : Nat) (ops frs : List Int), 1 ≤ k → k ≤ 2 → (nest bs bgs wide f k ops frs).length ≤ if k = 1 then 37 else 10
  | 0, k, ops, frs, _, _ => Nat.zero_le _
  | f + 1, k, ops, frs, h1, h2 => by
    obtain ⟨its, hb, hok⟩ := hbs k (by omega)
    rw [nest_seq hb, if_neg (by omega), List.append_nil]
    by_cases c : k = 1
    · subst c
      exact (body_len hok (c := 11) (by decide) fun k2 ops frs a b => by
        have := nest_len hbs f k2 ops frs (by omega) b
        rw [if_neg (by omega)] at this; omega).1
    · rw [if_neg c]
      exact (body_len hok (c := 2) (by decide) fun k2 ops frs a b => absurd a (by omega)).1
theorem whole (P : Prg row bs bgs wide) (hbs : ∀ k, k < 3 → ∃ its, bs[k]? = some (bodyOf k its) ∧ ItemsOk k its) {d : DS} (hrip : d.q.rip = bgs 0) (hh : d.q.halted = false) (hcs : d.cs = []) (hrg : Rg d.q.ns 32768 0) (hm : rdN d.q.f 32768 8 = 1193046) (hlat : Str.ofString d.lat ≠ Str.ofString "ret") :
    Whole row d (nest bs bgs wide 3 0 [] []) := by
  obtain ⟨its, hb, hok⟩ := hbs 0 (by decide)
  have hbs' : ∀ k, k < 3 → ∃ body, bs[k]? = some body := fun k hk => (hbs k hk).elim fun its h => ⟨_, h.1⟩
  have S : St bgs wide d 0 0 [] (lvl ([] : List Int).length) 0 := ⟨by rw [hrip]; simp, hh, hcs, hrg⟩
  have hch : Chain d.q.f (lvl ([] : List Int).length) 0 [] := rfl
  obtain ⟨d1, F1, S1, A1, L1⟩ := body_follows P (runs P hbs 2) hb hok (ops := []) (frs := []) (own := 1193046) (by decide) (by decide) (by decide) (by rw [ownOf, if_pos rfl]) hbs' S hm hch hlat
  have hlr := last_row 0 its
  rw [if_pos rfl] at hlr
  have hlen : (bodyOf 0 its).length = (rowsOf its).length + 4 := by rw [bodyOf]; simp only [List.length_append, List.length_cons, List.length_nil]; omega
  obtain ⟨a1, e1, e2, e3, e4, e5, e6⟩ := S1.hlt P hb hlr
  have l0 : lvl ([] : List Int).length = 32768 := rfl
  have hch1 : Chain d1.q.f (lvl ([] : List Int).length) 0 [] := rfl
  have F2 : Follows row d (seqM (nest bs bgs wide 2) (bgs 0) wide (bodyOf 0 its).length [] [] 0 (bodyOf 0 its)) (dnext row d1) := by
    conv => arg 3; arg 8; rw [bodyOf_split]
    rw [seqM_append]
    refine F1.append ?_
    have ej : 0 + ([(("push" : String), (5 : Int)), ("mov", 0)] ++ rowsOf its ++ [("pop", 5)]).length = (rowsOf its).length + 3 := by
      simp only [List.length_append, List.length_cons, List.length_nil]; omega
    rw [ej, if_pos rfl]
    show Follows row d1 (momsAt _ _ _ _ _ _ _ _ ++ []) _
    rw [List.append_nil, moms_plain (by decide), framedOf, if_neg (by omega)]
    refine .one ⟨S1.rip, S1.cs, Nat.zero_le _, fun mo => ?_, ?_, fun _ => ?_, fun h => ?_⟩ (legal_of a1 S1.hl (csl S1.cs (Nat.zero_le _)) (by simp))
    · rw [S1.rg.bp]; exact Chain.btF (by decide) _ _ hch1 mo
    · rw [S1.rg.sp]; show lvl ([] : List Int).length - 16 ≤ lvl ([] : List Int).length ∧ lvl ([] : List Int).length ≤ lvl ([] : List Int).length; omega
    · rw [S1.rg.sp]; show lvl ([] : List Int).length - 8 ≤ lvl ([] : List Int).length; omega
    · rw [L1] at h; exact absurd h (by decide)
  have hlM := body_len (rec_ := nest bs bgs wide 2) (wide := wide) (b := bgs 0) (len := (bodyOf 0 its).length) (ops := []) (frs := []) hok (c := 38) (by decide) fun k2 ops frs a b => by
    have := nest_len (bgs := bgs) (wide := wide) hbs 2 k2 ops frs (by omega) b
    split at this <;> omega
  rw [nest_seq hb, if_pos rfl]
  generalize hms : seqM (nest bs bgs wide 2) (bgs 0) wide (bodyOf 0 its).length [] [] 0 (bodyOf 0 its) = ms at F2 hlM ⊢
  have hL : (ms ++ [(bgs 0 + wide * ((bodyOf 0 its).length : Int), ([] : List Int), ([] : List Int), false)]).length = ms.length + 1 := by rw [List.length_append]; rfl
  refine ⟨by omega, by omega, fun i m h hi => ?_, fun m h => ?_⟩
  · rw [List.getElem?_append_left (by omega)] at h
    exact F2.at_ i m h
  · rw [hL, Nat.add_sub_cancel, List.getElem?_append_right (Nat.le_refl _), Nat.sub_self] at h
    cases h
    rw [hL, Nat.add_sub_cancel, F2.end_]
    refine ⟨e2, by rw [e1, hlen], e3, rfl, fun mo => ?_⟩
    rw [e4.bp, btF_zero]; simp
end
structure Stands (d : DS) (m : Mom) (i : Nat) : Prop where
  rip : d.q.rip = m.1
  cs : d.cs.map (·.1) = m.2.1.reverse
  len : d.cs.length = m.2.1.length
  dep : m.2.1.length ≤ 2
  cnt : d.cnt = (i : Int)
  fr : ∀ mo, btF d.q.f mo (d.q.ns.getD 5 0) = m.2.2.1.take mo
section
variable {row : Int → Option (Ins × Int)} {d : DS} {M : List Mom}
theorem Whole.legal (W : Whole row d M) {i : Nat} (h : i + 1 < M.length) : Legal row (iter row d i) :=
  (W.sim i _ (List.getElem?_eq_getElem (by omega)) h).2
theorem Whole.stands (W : Whole row d M) (h0 : d.cnt = 0) {i : Nat} {m : Mom} (h : M[i]? = some m) : Stands (iter row d i) m i := by
  have hi := (List.getElem?_eq_some_iff.mp h).1
  have hc : (iter row d i).cnt = (i : Int) := by rw [iter_cnt i fun j hj => W.legal (by omega), h0, Int.zero_add]
  by_cases c : i + 1 < M.length
  · obtain ⟨s, _⟩ := W.sim i m h c
    exact ⟨s.rip, by rw [s.cs, csOf_fst], by rw [s.cs, csOf_length], s.dep, hc, s.fr⟩
  · have e : M.length - 1 = i := by omega
    obtain ⟨_, a, b, c, f⟩ := W.end_ m (by rw [e]; exact h)
    rw [e] at a b f
    exact ⟨a, by rw [b, csOf_fst], by rw [b, csOf_length], by rw [c]; decide, hc, f⟩
theorem Whole.halted (W : Whole row d M) {i : Nat} (h : i < M.length) : (iter row d i).q.halted = decide (i + 1 = M.length) := by
  by_cases c : i + 1 < M.length
  · rw [(W.legal c).1, decide_eq_false (by omega)]
  · have e : M.length - 1 = i := by omega
    have := (W.end_ _ (List.getElem?_eq_getElem (by omega))).1
    rw [e] at this
    rw [this, decide_eq_true (by omega)]
structure Behind (M : List Mom) (i : Nat) (most : Int) (g : Nat) : Prop where
  lt : i < g
  le : g < M.length
  no : ∀ j m, i < j → j < g → M[j]? = some m → ¬ (m.2.1.length : Int) ≤ most
  yes : g + 1 = M.length ∨ ∃ m, M[g]? = some m ∧ (m.2.1.length : Int) ≤ most
structure Deed (row : Int → Option (Ins × Int)) (d0 : DS) (M : List Mom) (ov : DS → Bool) (i g n : Nat) (res : String) : Prop where
  n1 : 1 ≤ n
  n2 : n ≤ 150
  go : ∀ j, j < n → Legal row (iter row (iter row d0 i) j)
  no : ∀ j, 0 < j → j < n → ov (iter row (iter row d0 i) j) = false
  fin : ((iter row (iter row d0 i) n).q.halted = true ∧ res = "halted") ∨ ((iter row (iter row d0 i) n).q.halted = false ∧ ov (iter row (iter row d0 i) n) = true ∧ res = "step")
  at_ : iter row (iter row d0 i) n = iter row d0 g
  res : res = if g + 1 = M.length then "halted" else "step"
theorem Whole.over (W : Whole row d M) {i g : Nat} {m : Mom} (h : M[i]? = some m) (B : Behind M i (m.2.1.length : Int) g) :
    Deed row d M (fun z => decide (z.cs.length ≤ (iter row d i).cs.length)) i g (g - i) (if g + 1 = M.length then "halted" else "step") := by
  have hlt := B.lt
  have hle := B.le
  have hl2 := W.len2
  have s1 := (W.sim i m h (by omega)).1
  have hcl : (iter row d i).cs.length = m.2.1.length := by rw [s1.cs, csOf_length]
  have e : iter row (iter row d i) (g - i) = iter row d g := by rw [iter_add, show i + (g - i) = g by omega]
  refine ⟨by omega, by omega, fun j hj => by rw [iter_add]; exact W.legal (by omega), fun j h0 hj => ?_, ?_, e, rfl⟩
  · rw [iter_add]
    have s2 := (W.sim (i + j) _ (List.getElem?_eq_getElem (by omega)) (by omega)).1
    have hn := B.no (i + j) _ (by omega) (by omega) (List.getElem?_eq_getElem (by omega))
    refine decide_eq_false ?_
    rw [hcl, s2.cs, csOf_length]
    omega
  · rw [e, W.halted (by omega)]
    by_cases c : g + 1 = M.length
    · exact .inl ⟨decide_eq_true c, if_pos c⟩
    · refine .inr ⟨decide_eq_false c, ?_, if_neg c⟩
      rcases B.yes with hy | ⟨m2, h2, hy⟩
      · exact absurd hy c
      · have s2 := (W.sim g m2 h2 (by omega)).1
        refine decide_eq_true ?_
        rw [hcl, s2.cs, csOf_length]; omega
theorem Whole.finish (W : Whole row d M) {i g : Nat} {m : Mom} (h : M[i]? = some m) (hw : m.2.2.2 = false) (B : Behind M i ((m.2.1.length : Int) - 1) g) :
    Deed row d M (finOv (iter row d i)) i g (g - i) (if g + 1 = M.length then "halted" else "step") := by
  have hlt := B.lt
  have hle := B.le
  have hl2 := W.len2
  have s1 := (W.sim i m h (by omega)).1
  have hcl : (iter row d i).cs.length = m.2.1.length := by rw [s1.cs, csOf_length]
  have hsp := s1.sp
  have hwt := s1.wt hw
  have e : iter row (iter row d i) (g - i) = iter row d g := by rw [iter_add, show i + (g - i) = g by omega]
  have hno : ∀ j m2, i ≤ j → j < g → M[j]? = some m2 → m.2.1.length ≤ m2.2.1.length := fun j m2 h1 h2 h3 => by
    by_cases c : j = i
    · subst c; rw [h] at h3; cases h3; exact Nat.le_refl _
    · have := B.no j m2 (by omega) h2 h3; omega
  refine ⟨by omega, by omega, fun j hj => by rw [iter_add]; exact W.legal (by omega), fun j h0 hj => ?_, ?_, e, rfl⟩
  · rw [iter_add]
    have s2 := (W.sim (i + j) _ (List.getElem?_eq_getElem (by omega)) (by omega)).1
    have hn := hno (i + j) _ (by omega) (by omega) (List.getElem?_eq_getElem (by omega))
    unfold finOv
    rw [Bool.and_eq_false_iff]
    by_cases c : Str.ofString (iter row d (i + j)).lat = Str.ofString "ret"
    · refine .inr (decide_eq_false ?_)
      rw [s2.lt c]
      unfold lvl at hwt ⊢
      omega
    · exact .inl (decide_eq_false c)
  · rw [e, W.halted (by omega)]
    by_cases c : g + 1 = M.length
    · exact .inl ⟨decide_eq_true c, if_pos c⟩
    · refine .inr ⟨decide_eq_false c, ?_, if_neg c⟩
      rcases B.yes with hy | ⟨m2, h2, hy⟩
      · exact absurd hy c
      · have s2 := (W.sim g m2 h2 (by omega)).1
        obtain ⟨p, rfl⟩ : ∃ p, g = p + 1 := ⟨g - 1, by omega⟩
        have h3 : M[p]? = some M[p] := List.getElem?_eq_getElem (by omega)
        obtain ⟨s3, l3⟩ := W.sim p _ h3 (by omega)
        have hp := hno p _ (by omega) (by omega) h3
        have hd := len_drop l3 (by
          show (iter row d (p + 1)).cs.length < _
          rw [s2.cs, s3.cs, csOf_length, csOf_length]; omega)
        have hd1 : (iter row d (p + 1)).lat = "ret" := hd.1
        have hd2 : (iter row d (p + 1)).cs.length + 1 = (iter row d p).cs.length := hd.2
        rw [s2.cs, s3.cs, csOf_length, csOf_length] at hd2
        unfold finOv
        rw [Bool.and_eq_true]
        refine ⟨decide_eq_true (by rw [hd1]), decide_eq_true ?_⟩
        rw [s2.lt (by rw [hd1])]
        unfold lvl at hsp ⊢
        omega
end
structure HP where
  ok : List Addr → Heap → Heap → Prop
  mono : ∀ {l z z' h h'}, ok l z h → z.StaysIn z' → (∀ a ∈ l, ∀ o, h.get? a = some o → h'.get? a = some o) → ok l z' h'
  has : ∀ {l z h}, ok l z h → ∀ a ∈ l, ∃ o, h.get? a = some o
theorem all2_perm {α β : Type} {R : α → β → Prop} {bs bs' : List β} (p : bs.Perm bs') : ∀ {as : List α}, All2 R as bs → ∃ as', as.Perm as' ∧ All2 R as' bs' := by
  induction p with
  | nil => intro as x; cases x; exact ⟨[], .nil, .nil⟩
  | cons b _ ih =>
    intro as x
    cases x with
    | cons r x =>
      obtain ⟨as', p, y⟩ := ih x
      exact ⟨_, p.cons _, .cons r y⟩
  | swap b c l =>
    intro as x
    cases x with
    | cons r x =>
      cases x with
      | cons r2 x => exact ⟨_, .swap _ _ _, .cons r2 (.cons r x)⟩
  | trans _ _ ih1 ih2 =>
    intro as x
    obtain ⟨a1, p1, y1⟩ := ih1 x
    obtain ⟨a2, p2, y2⟩ := ih2 y1
    exact ⟨a2, p1.trans p2, y2⟩
theorem all2_split {α β : Type} {R : α → β → Prop} {b1 b2 : List β} {as : List α} (x : All2 R as (b1 ++ b2)) : ∃ a1 a2, as = a1 ++ a2 ∧ All2 R a1 b1 ∧ All2 R a2 b2 := by
  induction b1 generalizing as with
  | nil => exact ⟨[], as, rfl, .nil, x⟩
  | cons b b1 ih =>
    cases x with
    | cons r x =>
      obtain ⟨a1, a2, e, y1, y2⟩ := ih x
      exact ⟨_ :: a1, a2, by rw [e]; rfl, .cons r y1, y2⟩
structure Own (z : Heap) (ls : List (List Addr)) (N : List HP) (h : Heap) : Prop where
  zh : z.StaysIn h
  ok : All2 (fun l P => P.ok l z h) ls N
  nd : ls.flatten.Nodup
  off : ∀ a ∈ ls.flatten, z.get? a = none
theorem Own.perm {z h : Heap} {ls : List (List Addr)} {N N' : List HP} (x : Own z ls N h) (p : N.Perm N') : ∃ ls', ls.Perm ls' ∧ Own z ls' N' h := by
  obtain ⟨ls', q, y⟩ := all2_perm p x.ok
  exact ⟨ls', q, x.zh, y, q.flatten.nodup x.nd, fun a ha => x.off a (q.flatten.mem_iff.mpr ha)⟩
theorem All2.has {z h : Heap} {ls : List (List Addr)} {N : List HP} (x : All2 (fun l P => HP.ok P l z h) ls N) : ∀ a ∈ ls.flatten, ∃ o, h.get? a = some o := by
  induction x with
  | nil => exact fun _ ha => nomatch ha
  | cons r _ ih =>
    intro a ha
    rcases List.mem_append.mp (List.flatten_cons ▸ ha) with ha | ha
    · exact HP.has _ r a ha
    · exact ih a ha
theorem All2.move {z z' h h' : Heap} {ls : List (List Addr)} {N : List HP} (x : All2 (fun l P => HP.ok P l z h) ls N) (hz : z.StaysIn z') (hk : ∀ a ∈ ls.flatten, ∀ o, h.get? a = some o → h'.get? a = some o) : All2 (fun l P => HP.ok P l z' h') ls N := by
  induction x with
  | nil => exact .nil
  | cons r _ ih =>
    rw [List.flatten_cons] at hk
    exact .cons (HP.mono _ r hz fun a ha => hk a (List.mem_append_left _ ha)) (ih fun a ha => hk a (List.mem_append_right _ ha))
structure Mv (z : Heap) (l : List Addr) (h z' : Heap) (l' : List Addr) (h' : Heap) : Prop where
  zz : z.StaysIn z'
  keep : ∀ b o, h.get? b = some o → b ∉ l → h'.get? b = some o
  ter : ∀ a, (∃ o, z'.get? a = some o) ∨ a ∈ l' → (∃ o, z.get? a = some o) ∨ a ∈ l ∨ h.get? a = none
theorem Mv.rfl' {z h : Heap} {l : List Addr} : Mv z l h z l h := ⟨fun _ _ e => e, fun _ _ e _ => e, fun _ x => x.imp id .inl⟩
theorem Mv.trans {z z' z'' h h' h'' : Heap} {l l' l'' ex : List Addr} (x : Mv z l h z' l' h') (y : Mv z' (ex ++ l') h' z'' l'' h'') (off : ∀ a ∈ l', z'.get? a = none) (hex : ∀ a ∈ ex, h.get? a = none) : Mv z l h z'' l'' h'' := by
  refine ⟨fun b o e => y.zz b o (x.zz b o e), fun b o e hb => y.keep b o (x.keep b o e hb) fun hm => ?_, fun a ha => ?_⟩
  · rcases List.mem_append.mp hm with hm | hm
    · rw [hex b hm] at e; cases e
    · rcases x.ter b (.inr hm) with ⟨o', e'⟩ | h1 | h1
      · have := x.zz _ _ e'; rw [off b hm] at this; cases this
      · exact hb h1
      · rw [e] at h1; cases h1
  · rcases y.ter a ha with h1 | h1 | h1
    · exact x.ter a (.inl h1)
    · rcases List.mem_append.mp h1 with h1 | h1
      · exact .inr (.inr (hex a h1))
      · exact x.ter a (.inr h1)
    · cases e : h.get? a with
      | none => exact .inr (.inr rfl)
      | some o =>
        by_cases hm : a ∈ l
        · exact .inr (.inl hm)
        · have := x.keep a o e hm; rw [h1] at this; cases this
theorem Mv.left {z z' h h' : Heap} {l k l' : List Addr} (x : Mv z l h z' l' h') (e : ∀ a, a ∈ l → a ∈ k) : Mv z k h z' l' h' :=
  ⟨x.zz, fun b o q hb => x.keep b o q fun hm => hb (e b hm), fun a ha => (x.ter a ha).imp id fun y => y.imp (e a) id⟩
theorem Mv.right {z z' h h' : Heap} {l k l' : List Addr} (x : Mv z l h z' l' h') (e : ∀ a, a ∈ k → a ∈ l') : Mv z l h z' k h' :=
  ⟨x.zz, x.keep, fun a ha => x.ter a (ha.imp id (e a))⟩
theorem Own.frame {z h z' h' : Heap} {ls1 ls2 ls1' : List (List Addr)} {N1 N2 N1' : List HP} {ex : List Addr} (x : Own z (ls1 ++ ls2) (N1 ++ N2) h) (h2 : All2 (fun l P => HP.ok P l z h) ls2 N2) (hex : ∀ a ∈ ex, a ∉ ls2.flatten) (y : Own z' ls1' N1' h') (m : Mv z (ex ++ ls1.flatten) h z' ls1'.flatten h') :
    Own z' (ls1' ++ ls2) (N1' ++ N2) h' ∧ Mv z (ex ++ (ls1 ++ ls2).flatten) h z' (ls1' ++ ls2).flatten h' := by
  have nd := x.nd
  have off := x.off
  rw [List.flatten_append] at nd off
  have dis : ∀ a ∈ ls2.flatten, a ∉ ex ++ ls1.flatten := fun a h2 h1 => (List.mem_append.mp h1).elim (fun h1 => hex a h1 h2) fun h1 => (List.nodup_append.mp nd).2.2 a h1 a h2 rfl
  have new : ∀ a ∈ ls2.flatten, ¬ ((∃ o, z'.get? a = some o) ∨ a ∈ ls1'.flatten) := fun a ha q => by
    rcases m.ter a q with ⟨o, e⟩ | q | q
    · rw [off a (List.mem_append_right _ ha)] at e; cases e
    · exact dis a ha q
    · obtain ⟨o, e⟩ := h2.has a ha
      rw [e] at q; cases q
  have keep : ∀ a ∈ ls2.flatten, ∀ o, h.get? a = some o → h'.get? a = some o := fun a ha o e => m.keep a o e (dis a ha)
  have sub : ∀ a, a ∈ ex ++ ls1.flatten → a ∈ ex ++ (ls1 ++ ls2).flatten := fun a q => by
    rw [List.flatten_append, ← List.append_assoc]; exact List.mem_append_left _ q
  refine ⟨⟨y.zh, y.ok.append (h2.move m.zz keep), ?_, ?_⟩, m.zz, fun b o e hb => m.keep b o e fun q => hb (sub b q), fun a ha => ?_⟩
  · rw [List.flatten_append]
    exact List.nodup_append.mpr ⟨y.nd, (List.nodup_append.mp nd).2.1, fun a ha b hb e => new b hb (.inr (e ▸ ha))⟩
  · intro a ha
    rw [List.flatten_append] at ha
    rcases List.mem_append.mp ha with ha | ha
    · exact y.off a ha
    · cases e : z'.get? a with
      | none => rfl
      | some o => exact absurd (.inl ⟨o, e⟩) (new a ha)
  · have : (∃ o, z'.get? a = some o) ∨ a ∈ ls1'.flatten ∨ a ∈ ls2.flatten := ha.elim .inl fun q => .inr (List.mem_append.mp (List.flatten_append ▸ q))
    rcases this with q | q | q
    · exact (m.ter a (.inl q)).imp id fun y => y.imp (sub a) id
    · exact (m.ter a (.inr q)).imp id fun y => y.imp (sub a) id
    · exact .inr (.inl (List.mem_append_right _ (by rw [List.flatten_append]; exact List.mem_append_right _ q)))
noncomputable def pickM {α : Type} : List Bool → List α → List α
  | true :: k, a :: l => a :: pickM k l
  | false :: k, _ :: l => pickM k l
  | _, _ => []
noncomputable def restM {α : Type} : List Bool → List α → List α
  | true :: k, _ :: l => restM k l
  | false :: k, a :: l => a :: restM k l
  | _, l => l
noncomputable def mergeM {α : Type} : List Bool → List α → List α → List α
  | true :: k, n :: new, _ :: l => n :: mergeM k new l
  | true :: k, [], _ :: l => mergeM k [] l
  | false :: k, new, a :: l => a :: mergeM k new l
  | _, new, l => new ++ l
theorem pick_perm {α : Type} : ∀ (k : List Bool) (l : List α), l.Perm (pickM k l ++ restM k l)
  | [], [] => .refl _
  | [], _ :: _ => .refl _
  | true :: k, [] => .refl _
  | false :: k, [] => .refl _
  | true :: k, a :: l => (pick_perm k l).cons a
  | false :: k, a :: l => ((pick_perm k l).cons a).trans (List.perm_middle.symm)
theorem merge_perm {α : Type} : ∀ (k : List Bool) (new l : List α), (new ++ restM k l).Perm (mergeM k new l)
  | [], _, _ => .refl _
  | true :: _, n :: new, [] => .refl _
  | true :: _, [], [] => .refl _
  | false :: _, new, [] => .refl _
  | true :: k, n :: new, a :: l => (merge_perm k new l).cons n
  | true :: k, [], _ :: l => merge_perm k [] l
  | false :: k, new, a :: l => (List.perm_middle).trans ((merge_perm k new l).cons a)
noncomputable def zAdd (z h : Heap) (U : Addr → Prop) : Heap := hideAll h ((List.range h.objs.size).filter fun b => @decide (¬ ((∃ o, z.get? b = some o) ∨ U b)) (Classical.propDecidable _))
theorem zAdd_in {z h : Heap} {U : Addr → Prop} {b : Addr} {o : Obj} (e : h.get? b = some o) (u : (∃ o, z.get? b = some o) ∨ U b) : (zAdd z h U).get? b = some o := hideAll_get _ e fun hm => by
  have := (List.mem_filter.mp hm).2
  exact (@of_decide_eq_true _ (Classical.propDecidable _) this) u
theorem zAdd_z {z h : Heap} {U : Addr → Prop} (st : z.StaysIn h) : z.StaysIn (zAdd z h U) := fun b o e => zAdd_in (st b o e) (.inl ⟨o, e⟩)
theorem zAdd_of {z h : Heap} {U : Addr → Prop} {b : Addr} {o : Obj} (e : (zAdd z h U).get? b = some o) : h.get? b = some o ∧ ((∃ o, z.get? b = some o) ∨ U b) := by
  have e2 := of_hideAll _ e
  refine ⟨e2, ?_⟩
  rcases Classical.em ((∃ o, z.get? b = some o) ∨ U b) with u | u
  · exact u
  · have : (zAdd z h U).get? b = none := hideAll_none _ (List.mem_filter.mpr ⟨List.mem_range.mpr (Heap.lt_size e2), @decide_eq_true _ (Classical.propDecidable _) u⟩)
    rw [this] at e; cases e
inductive AV | int (n : Int) | str (x : Str) | bool (b : Bool) | none | ref (a : Addr) | val (v : Value)
noncomputable def AV.den : AV → Value → Prop
  | .int n, v => ∃ t, v = .int n t
  | .str x, v => ∃ t, v = .str x t
  | .bool b, v => v = .bool b
  | .none, v => v = .none
  | .ref a, v => v = .ref a
  | .val u, v => v = u
structure Gx where
  prog : Program
  w : World
  p : Program
  loose : List Str
  mg : Str → Option Value
  mb : Str → Option Value
  hb : Heap
  X : (HD.KK w.params).In hb
  T : TopRead p loose mg mb hb
noncomputable def No (_ : Value) (_ : Shared) : Prop := False
noncomputable def Post (z : Heap) (l : List Addr) (s : Shared) (Q : Value → List HP → Prop) (v : Value) (s' : Shared) : Prop :=
  ∃ h' tk' z' ls' N', s' = { s with heap := h', toks := tk' } ∧ Own z' ls' N' h' ∧ Mv z l s.heap z' ls'.flatten h' ∧ Q v N'
noncomputable def Tr (G : Gx) (n : Nat) (f : Value) (args : List AV) (N : List HP) (Q : Value → List HP → Prop) : Prop :=
  ∀ (A : Around) (s : Shared) (z : Heap) (ls : List (List Addr)) (vs : List Value), Room n A → G.hb.StaysIn z → G.hb.objs.size ≤ s.heap.objs.size → Own z ls N s.heap → All2 AV.den args vs → wpAny (model G.prog G.w) A (call f vs) (Post z ls.flatten s Q) No s
structure Fst where
  cn : Str
  cs : Scope
  a : Addr
  cd : Value
  cl : Addr → List (Str × Addr)
structure Fd (G : Gx) (rn : Nat) where
  A : Around
  rm : Room rn A
  s : Shared
  z0 : Heap
  l0 : List Addr
  hz : G.hb.StaysIn z0
  L : Addr
  hL : s.heap.objs.size ≤ L
structure Fx (G : Gx) (rn : Nat) where
  st : Fst
  d : Fd G rn
section
variable {G : Gx} {rn : Nat}
noncomputable abbrev Fx.A (c : Fx G rn) : Around := c.d.A
noncomputable abbrev Fx.s (c : Fx G rn) : Shared := c.d.s
noncomputable abbrev Fx.L (c : Fx G rn) : Addr := c.d.L
noncomputable abbrev Fx.z0 (c : Fx G rn) : Heap := c.d.z0
noncomputable abbrev Fx.l0 (c : Fx G rn) : List Addr := c.d.l0
noncomputable def Fx.env (c : Fx G rn) : Env := envX c.st.cn c.st.cs c.L c.st.a c.st.cd (c.st.cl c.L)
noncomputable def Fx.at (c : Fx G rn) (h : Heap) (tk : Nat) : Shared := { c.s with heap := h, toks := tk }
end
noncomputable def Gx.K (G : Gx) : Frag := HD.KK G.w.params
noncomputable abbrev Lm := List (Str × AV)
noncomputable def Agr (m : Lm) (f : Str → Option Value) : Prop := ∀ x k, m.lookup x = some k → ∃ v, f x = some v ∧ k.den v
structure StI {G : Gx} {rn : Nat} (c : Fx G rn) (f : Str → Option Value) (z : Heap) (ls : List (List Addr)) (N : List HP) (h : Heap) : Prop where
  F : Fr G.hb c.L h f
  own : Own z ls N h
  mv : Mv c.z0 c.l0 c.s.heap z ls.flatten h
  Ll : c.L ∉ ls.flatten
  Lz : z.get? c.L = none
noncomputable def Sa {G : Gx} {rn : Nat} (c : Fx G rn) (m : Lm) (N : List HP) (h : Heap) : Prop := ∃ f z ls, Agr m f ∧ StI c f z ls N h
noncomputable def Kx {G : Gx} {rn : Nat} (c : Fx G rn) (m : Lm) (K : Value → List HP → Prop) (v : Value) (s' : Shared) : Prop := ∃ h' tk' N', s' = c.at h' tk' ∧ Sa c m N' h' ∧ K v N'
noncomputable def Kf {G : Gx} {rn : Nat} (c : Fx G rn) (P : Flow → Lm → List HP → Prop) (f : Flow) (s' : Shared) : Prop := ∃ h' tk' m' N', s' = c.at h' tk' ∧ Sa c m' N' h' ∧ P f m' N'
noncomputable def Sm {G : Gx} {rn : Nat} (c : Fx G rn) (m : Lm) (N : List HP) (t : Sem Value) (K : Value → List HP → Prop) : Prop := ∀ h tk, Sa c m N h → wpAny (model G.prog G.w) c.A t (Kx c m K) No (c.at h tk)
noncomputable def Ex {G : Gx} {rn : Nat} (c : Fx G rn) (m : Lm) (N : List HP) (e : PySem.Expr) (K : Value → List HP → Prop) : Prop := Sm c m N (eval e c.env) K
noncomputable def Is (k : AV) (N : List HP) (v : Value) (N' : List HP) : Prop := N' = N ∧ k.den v
noncomputable def Ev {G : Gx} {rn : Nat} (c : Fx G rn) (m : Lm) (N : List HP) (e : PySem.Expr) (k : AV) : Prop := Ex c m N e (Is k N)
noncomputable def Wk {G : Gx} {rn : Nat} (c : Fx G rn) (m : Lm) (N : List HP) (b : List Stmt) (P : Flow → Lm → List HP → Prop) : Prop := ∀ h tk, Sa c m N h → wpAny (model G.prog G.w) c.A (execs b c.env) (Kf c P) No (c.at h tk)
theorem perm_flat {ls ls' : List (List Addr)} (p : ls.Perm ls') : ∀ a, a ∈ ls.flatten → a ∈ ls'.flatten := fun _ => p.flatten.mem_iff.mp
theorem StI.go {G : Gx} {rn : Nat} {c : Fx G rn} {f : Str → Option Value} {z h : Heap} {ls : List (List Addr)} {N : List HP} (x : StI c f z ls N h) (mk : List Bool) :
    ∃ ls1, Own z ls1 (pickM mk N) h ∧ c.L ∉ ls1.flatten ∧ ∀ {f' : Str → Option Value} {z' h' : Heap} {ls1' : List (List Addr)} {N1' : List HP}, Fr G.hb c.L h' f' → Own z' ls1' N1' h' → Mv z (c.L :: ls1.flatten) h z' ls1'.flatten h' → c.L ∉ ls1'.flatten → z'.get? c.L = none → ∃ ls', StI c f' z' ls' (mergeM mk N1' N) h' := by
  obtain ⟨lsp, p, O⟩ := x.own.perm (pick_perm mk N)
  obtain ⟨ls1, ls2, rfl, o1, o2⟩ := all2_split O.ok
  have nd := O.nd
  have off := O.off
  rw [List.flatten_append] at nd off
  have hLp : c.L ∉ (ls1 ++ ls2).flatten := fun q => x.Ll (perm_flat p.symm _ q)
  rw [List.flatten_append] at hLp
  refine ⟨ls1, ⟨O.zh, o1, (List.nodup_append.mp nd).1, fun a ha => off a (List.mem_append_left _ ha)⟩, fun q => hLp (List.mem_append_left _ q), fun {f' z' h' ls1' N1'} F' y m hL1 hLz => ?_⟩
  obtain ⟨O2, M2⟩ := O.frame (ex := [c.L]) o2 (fun a ha q => hLp (List.mem_append_right _ (List.mem_singleton.mp ha ▸ q))) y m
  obtain ⟨ls', p', O3⟩ := O2.perm (merge_perm mk N1' N)
  refine ⟨ls', F', O3, ?_, fun q => ?_, hLz⟩
  · exact x.mv.trans (ex := [c.L]) ((M2.left (k := [c.L] ++ ls.flatten) fun a q => (List.mem_append.mp q).elim (List.mem_append_left _) fun q => List.mem_append_right _ (perm_flat p.symm a q)).right (perm_flat p'.symm)) x.own.off fun a ha => by rw [List.mem_singleton.mp ha]; exact Heap.get?_none_of_le c.d.hL
  · have := perm_flat p'.symm _ q
    rw [List.flatten_append] at this
    exact (List.mem_append.mp this).elim hL1 fun q => hLp (List.mem_append_right _ q)
theorem Sa.go {G : Gx} {rn : Nat} {c : Fx G rn} {m : Lm} {h : Heap} {N : List HP} (x : Sa c m N h) (mk : List Bool) :
    ∃ z ls1, G.hb.StaysIn z ∧ G.hb.objs.size ≤ h.objs.size ∧ Own z ls1 (pickM mk N) h ∧ ∀ {z' h' : Heap} {ls1' : List (List Addr)} {N1' : List HP}, Own z' ls1' N1' h' → Mv z ls1.flatten h z' ls1'.flatten h' → Sa c m (mergeM mk N1' N) h' := by
  obtain ⟨f, z, ls, ag, x⟩ := x
  obtain ⟨ls1, O, hL1, k⟩ := x.go mk
  have hz : G.hb.StaysIn z := fun b o e => x.mv.zz b o (c.d.hz b o e)
  obtain ⟨oL, es, ep, eL, rL⟩ := x.F.ns
  refine ⟨z, ls1, hz, Nat.le_of_lt (Nat.lt_of_le_of_lt x.F.above (Heap.lt_size eL)), O, fun {z' h' ls1' N1'} y m => ?_⟩
  have hLn : ¬ ((∃ o, z'.get? c.L = some o) ∨ c.L ∈ ls1'.flatten) := fun q => by
    rcases m.ter _ q with ⟨o, e⟩ | q | q
    · rw [x.Lz] at e; cases e
    · exact hL1 q
    · rw [eL] at q; cases q
  obtain ⟨ls', X⟩ := k ⟨⟨oL, es, ep, m.keep _ _ eL hL1, rL⟩, fun b o e => y.zh b o (m.zz b o (hz b o e)), x.F.above⟩ y (m.left fun a q => .tail _ q) (fun q => hLn (.inr q)) (by
    cases e : z'.get? c.L with
    | none => rfl
    | some o => exact absurd (.inl ⟨o, e⟩) hLn)
  exact ⟨f, _, ls', ag, X⟩
theorem pick0 {z h : Heap} {ls1 : List (List Addr)} {N : List HP} (O : Own z ls1 (pickM [] N) h) : ls1 = [] := by
  cases N <;> (have := O.ok; cases this; rfl)
theorem Sa.idleL {G : Gx} {rn : Nat} {c : Fx G rn} {m : Lm} {f f' : Str → Option Value} {h h' : Heap} {z : Heap} {ls : List (List Addr)} {N : List HP} (ag : Agr m f') (x : StI c f z ls N h) (F : Fr G.hb c.L h' f') (k : ∀ b o, b ≠ c.L → h.get? b = some o → h'.get? b = some o) : Sa c m N h' := by
  obtain ⟨ls1, O, _, g⟩ := x.go []
  obtain rfl := pick0 O
  obtain ⟨ls', X⟩ := g (z' := z) (ls1' := []) (N1' := []) F ⟨fun b o e => k b o (fun q => by rw [q, x.Lz] at e; cases e) (O.zh b o e), .nil, List.nodup_nil, fun _ q => nomatch q⟩ ⟨fun _ _ e => e, fun b o e q => k b o (fun z => q (z ▸ .head _)) e, fun a q => q.imp id fun q => nomatch q⟩ (fun q => nomatch q) x.Lz
  exact ⟨f', z, ls', ag, X⟩
theorem Sa.newLs {G : Gx} {rn : Nat} {c : Fx G rn} {m : Lm} {f : Str → Option Value} {h h' : Heap} {z : Heap} {ls : List (List Addr)} {N : List HP} {l : List Addr} {P : HP} (ag : Agr m f) (x : StI c f z ls N h) (F : Fr G.hb c.L h' f) (k : ∀ b o, b ≠ c.L → h.get? b = some o → h'.get? b = some o) (za : ∀ a ∈ l, h.get? a = none) (nd : l.Nodup) (ok : P.ok l z h') : Sa c m (P :: N) h' := by
  obtain ⟨ls1, O, _, g⟩ := x.go []
  obtain rfl := pick0 O
  have hz : ∀ a ∈ l, z.get? a = none := fun a ha => by
    cases e : z.get? a with
    | none => rfl
    | some o => have := za a ha; rw [O.zh _ _ e] at this; cases this
  obtain ⟨oL, es, ep, eL, rL⟩ := x.F.ns
  have haL : c.L ∉ l := fun q => by have := za _ q; rw [eL] at this; cases this
  obtain ⟨ls', X⟩ := g (z' := z) (ls1' := [l]) (N1' := [P]) F ⟨fun b o e => k b o (fun q => by rw [q, x.Lz] at e; cases e) (O.zh b o e), .cons ok .nil, by simpa using nd, fun b q => hz b (by simpa using q)⟩ ⟨fun _ _ e => e, fun b o e q => k b o (fun z => q (z ▸ .head _)) e, fun b q => q.imp id fun q => .inr (za b (by simpa using q))⟩ (fun q => haL (by simpa using q)) x.Lz
  exact ⟨f, z, ls', ag, X⟩
theorem Sa.newL {G : Gx} {rn : Nat} {c : Fx G rn} {m : Lm} {f : Str → Option Value} {h h' : Heap} {z : Heap} {ls : List (List Addr)} {N : List HP} {a : Addr} {P : HP} (ag : Agr m f) (x : StI c f z ls N h) (F : Fr G.hb c.L h' f) (k : ∀ b o, b ≠ c.L → h.get? b = some o → h'.get? b = some o) (za : h.get? a = none) (ok : P.ok [a] z h') : Sa c m (P :: N) h' :=
  .newLs ag x F k (fun b hb => by rw [List.mem_singleton.mp hb]; exact za) (by simp) ok
theorem fr_off {g h h' : Heap} {L : Addr} {f : Str → Option Value} (F : Fr g L h f) (k : ∀ b o, h.get? b = some o → h'.get? b = some o) : Fr g L h' f := by
  obtain ⟨oL, es, ep, eL, rL⟩ := F.ns
  exact ⟨⟨oL, es, ep, k _ _ eL, rL⟩, fun b o e => k b o (F.keep b o e), F.above⟩
theorem Sa.idle {G : Gx} {rn : Nat} {c : Fx G rn} {m : Lm} {h h' : Heap} {N : List HP} (x : Sa c m N h) (k : ∀ b o, h.get? b = some o → h'.get? b = some o) : Sa c m N h' := by
  obtain ⟨f, z, ls, ag, x⟩ := x
  exact .idleL ag x (fr_off x.F k) fun b o _ e => k b o e
theorem Sa.new {G : Gx} {rn : Nat} {c : Fx G rn} {m : Lm} {h h' : Heap} {N : List HP} {a : Addr} {P : HP} (x : Sa c m N h) (k : ∀ b o, h.get? b = some o → h'.get? b = some o) (z : h.get? a = none) (ok : ∀ z : Heap, (∀ b o, z.get? b = some o → h.get? b = some o) → P.ok [a] z h') : Sa c m (P :: N) h' := by
  obtain ⟨f, zz, ls, ag, x⟩ := x
  exact .newL ag x (fr_off x.F k) (fun b o _ e => k b o e) z (ok zz x.own.zh)
section
variable {G : Gx} {rn : Nat} {c : Fx G rn} {m : Lm} {N N1 N2 : List HP} {e e1 e2 : PySem.Expr} {es : List PySem.Expr} {k k1 k2 : AV} {ks : List AV} {x : Str} {p p' : Pos} {K K' : Value → List HP → Prop} {P P' : Flow → Lm → List HP → Prop} {rest b1 b2 : List Stmt} {t : Sem Value}
theorem Sa.fr {h : Heap} (x : Sa c m N h) : ∃ f, Fr G.hb c.L h f ∧ Agr m f := by
  obtain ⟨f, z, ls, ag, x⟩ := x
  exact ⟨f, x.F, ag⟩
theorem Sm.go {h0 : Heap} {tk0 : Nat} {Q : Value → Shared → Prop} (h : Sm c m N t K) (S : Sa c m N h0) (k : ∀ v h' tk' N', Sa c m N' h' → K v N' → Q v (c.at h' tk')) : wpAny (model G.prog G.w) c.A t Q No (c.at h0 tk0) := wpAny_mono (h h0 tk0 S) (fun v s1 y => by obtain ⟨h', tk', N', e, S', y⟩ := y; subst e; exact k v h' tk' N' S' y) fun _ _ y => y
theorem Ev.go {h0 : Heap} {tk0 : Nat} {Q : Value → Shared → Prop} (h : Ev c m N e k) (S : Sa c m N h0) (kk : ∀ v h' tk', Sa c m N h' → k.den v → Q v (c.at h' tk')) : wpAny (model G.prog G.w) c.A (eval e c.env) Q No (c.at h0 tk0) := Sm.go h S fun v h' tk' N' S' y => by obtain ⟨e, d⟩ := y; subst e; exact kk v h' tk' S' d
theorem Ev.goR {h0 : Heap} {tk0 : Nat} {Q : Value → Shared → Prop} {a : Addr} (h : Ev c m N e (.ref a)) (S : Sa c m N h0) (kk : ∀ h' tk', Sa c m N h' → Q (.ref a) (c.at h' tk')) : wpAny (model G.prog G.w) c.A (eval e c.env) Q No (c.at h0 tk0) := Ev.go h S fun v h' tk' S' d => by cases d; exact kk h' tk' S'
theorem Wk.go {h0 : Heap} {tk0 : Nat} {Q : Flow → Shared → Prop} (h : Wk c m N rest P) (S : Sa c m N h0) (k : ∀ f h' tk' m' N', Sa c m' N' h' → P f m' N' → Q f (c.at h' tk')) : wpAny (model G.prog G.w) c.A (execs rest c.env) Q No (c.at h0 tk0) := wpAny_mono (h h0 tk0 S) (fun f s1 y => by obtain ⟨h', tk', m', N', e, S', y⟩ := y; subst e; exact k f h' tk' m' N' S' y) fun _ _ y => y
theorem Sm.mono (h : Sm c m N t K) (hk : ∀ v N', K v N' → K' v N') : Sm c m N t K' := fun h1 tk S => Sm.go h S fun v h' tk' N' S' y => ⟨h', tk', N', rfl, S', hk v N' y⟩
theorem Kx.mk {h : Heap} {tk : Nat} {v : Value} (S : Sa c m N h) (y : K v N) : Kx c m K v (c.at h tk) := ⟨h, tk, N, rfl, S, y⟩
theorem Is.mk {v : Value} (y : k.den v) : Is k N v N := ⟨rfl, y⟩
noncomputable def localOk (st : Fst) (x : Str) : Bool := st.cs.kind == .function && (envX st.cn st.cs 0 st.a st.cd []).kindOf x == some .local && !(x == ("__debug__" : Str))
noncomputable def globOk (st : Fst) (x : Str) : Bool := st.cs.kind == .function && (envX st.cn st.cs 0 st.a st.cd []).kindOf x == some .globalImplicit && !(x == ("__debug__" : Str))
theorem Ev.loc (hv : m.lookup x = some k) (ok : localOk c.st x = true) : Ev c m N (.Name x p) k := fun h tk S => by
  simp only [localOk, Bool.and_eq_true, Bool.not_eq_true', beq_iff_eq] at ok
  obtain ⟨f, F, ag⟩ := S.fr
  obtain ⟨v, hv', d⟩ := ag x k hv
  exact nameX_L (s := c.at h tk) F hv' (.mk S (.mk d)) ok.1.1 ok.1.2 ok.2
theorem Ev.glob {v : Value} (hv : nsIn G.K mainGlobals x = some (some v)) (ok : globOk c.st x = true) (d : k.den v) : Ev c m N (.Name x p) k := fun h tk S => by
  simp only [globOk, Bool.and_eq_true, Bool.not_eq_true', beq_iff_eq] at ok
  obtain ⟨f, F, _⟩ := S.fr
  exact nameX_K (s := c.at h tk) F G.X G.T hv (.mk S (.mk d)) ok.1.1 ok.1.2 ok.2
theorem Ev.built {v : Value} (hv : nsIn G.K mainGlobals x = some none) (hb : bootBuiltins x = some v) (hn : x ≠ "__name__") (ok : globOk c.st x = true) : Ev c m N (.Name x p) (.val v) := fun h tk S => by
  simp only [globOk, Bool.and_eq_true, Bool.not_eq_true', beq_iff_eq] at ok
  obtain ⟨f, F, _⟩ := S.fr
  exact nameX_B (s := c.at h tk) F G.X G.T hv hb hn (.mk S (.mk rfl)) ok.1.1 ok.1.2 ok.2
theorem Ev.int {i : Int} : Ev c m N (.Constant (.int i) 0 p) (.int i) := fun h tk S => wpAny_Constant_int ⟨h, _, N, rfl, S, .mk ⟨_, rfl⟩⟩
theorem Ev.str {z : Str} : Ev c m N (.Constant (.str z) 0 p) (.str z) := fun h tk S => PySem.Calls.Constant_str ⟨h, _, N, rfl, S, .mk ⟨_, rfl⟩⟩
theorem Ev.use (he : Ev c m N e k) (hk : ∀ v, k.den v → K v N) : Ex c m N e K := he.mono fun v N' ⟨e1, d⟩ => e1 ▸ hk v d
theorem Ev.ref {a : Addr} (he : Ev c m N e (.ref a)) (hk : K (.ref a) N) : Ex c m N e K := he.use fun v d => by cases d; exact hk
theorem Ex.bin {op : Operator} (h1 : Ex c m N e1 fun v1 N1 => Ex c m N1 e2 fun v2 N2 => Sm c m N2 (binaryOp op v1 v2) K) : Ex c m N (.BinOp e1 op e2 p) K := fun h tk S =>
  wpAny_BinOp (Sm.go h1 S fun v1 h' tk' N' S' y => Sm.go y S' fun v2 h2 tk2 N2 S2 y2 => y2 h2 tk2 S2)
theorem Ev.bin {op : Operator} (h1 : Ev c m N e1 k1) (h2 : Ev c m N e2 k2) (ho : ∀ v1 v2 (s : Shared) (Q : Value → Shared → Prop), k1.den v1 → k2.den v2 → (∀ v tk, k.den v → Q v { s with toks := tk }) → wpAny (model G.prog G.w) c.A (binaryOp op v1 v2) Q No s) : Ev c m N (.BinOp e1 op e2 p) k :=
  Ex.bin (h1.use fun v1 d1 => h2.use fun v2 d2 h tk S => ho v1 v2 (c.at h tk) _ d1 d2 fun v tk' d => ⟨h, tk', N, rfl, S, .mk d⟩)
theorem Ev.add {i j : Int} (h1 : Ev c m N e1 (.int i)) (h2 : Ev c m N e2 (.int j)) : Ev c m N (.BinOp e1 .Add e2 p) (.int (i + j)) := h1.bin h2 fun v1 v2 s Q ⟨_, e1⟩ ⟨_, e2⟩ y => by subst e1 e2; exact add_int (y _ _ ⟨_, rfl⟩)
theorem Ev.sub {i j : Int} (h1 : Ev c m N e1 (.int i)) (h2 : Ev c m N e2 (.int j)) : Ev c m N (.BinOp e1 .Sub e2 p) (.int (i - j)) := h1.bin h2 fun v1 v2 s Q ⟨_, e1⟩ ⟨_, e2⟩ y => by subst e1 e2; exact sub_int (y _ _ ⟨_, rfl⟩)
theorem Ev.mul {i j : Int} (h1 : Ev c m N e1 (.int i)) (h2 : Ev c m N e2 (.int j)) (hm : IntMulOk i j) : Ev c m N (.BinOp e1 .Mult e2 p) (.int (i * j)) := h1.bin h2 fun v1 v2 s Q ⟨_, e1⟩ ⟨_, e2⟩ y => by subst e1 e2; exact mul_int (y _ _ ⟨_, rfl⟩) hm
noncomputable def Xs {G : Gx} {rn : Nat} (c : Fx G rn) (m : Lm) (N : List HP) (es : List PySem.Expr) (K : List Value → List HP → Prop) : Prop := ∀ pos h tk, Sa c m N h → wpAny (model G.prog G.w) c.A (spliced (backTo pos (starEach es c.env))) (fun vs s' => ∃ h' tk' N', s' = c.at h' tk' ∧ Sa c m N' h' ∧ K vs N') No (c.at h tk)
theorem Xs.go {pos : Pos} {h0 : Heap} {tk0 : Nat} {K : List Value → List HP → Prop} {Q : List Value → Shared → Prop} (h : Xs c m N es K) (S : Sa c m N h0) (k : ∀ vs h' tk' N', Sa c m N' h' → K vs N' → Q vs (c.at h' tk')) : wpAny (model G.prog G.w) c.A (spliced (backTo pos (starEach es c.env))) Q No (c.at h0 tk0) := wpAny_mono (h pos h0 tk0 S) (fun v s1 y => by obtain ⟨h', tk', N', e, S', y⟩ := y; subst e; exact k v h' tk' N' S' y) fun _ _ y => y
noncomputable def plainE : PySem.Expr → Bool
  | .Starred .. => false
  | _ => true
theorem star_plain {env : Env} (he : plainE e = true) : starEach (e :: es) env = (false, eval e env) :: starEach es env := by
  cases e <;> first | rfl | cases he
theorem plains {env : Env} {pos : Pos} : ∀ {es : List PySem.Expr}, es.all plainE = true → (backTo pos (starEach es env)).any (·.1) = false
  | [], _ => rfl
  | e :: es, h => by
    rw [List.all_cons, Bool.and_eq_true] at h
    rw [star_plain h.1]
    show (false || (backTo pos (starEach es env)).any (·.1)) = false
    rw [plains h.2]; rfl
theorem Xs.nil {K : List Value → List HP → Prop} (y : K [] N) : Xs c m N [] K := fun pos h tk S => args_nil ⟨h, tk, N, rfl, S, y⟩
theorem Xs.cons {K : List Value → List HP → Prop} (h1 : Ex c m N e fun v N1 => Xs c m N1 es fun vs N2 => K (v :: vs) N2) (he : plainE e = true) : Xs c m N (e :: es) K := fun pos h tk S =>
  args_cons (Sm.go h1 S fun v h' tk' N' S' y => y pos h' tk' S') (star_plain he)
noncomputable def Evs {G : Gx} {rn : Nat} (c : Fx G rn) (m : Lm) (N : List HP) (es : List PySem.Expr) (ks : List AV) : Prop := Xs c m N es fun vs N' => N' = N ∧ All2 AV.den ks vs
theorem Xs.mono {K K' : List Value → List HP → Prop} (h : Xs c m N es K) (hk : ∀ v N', K v N' → K' v N') : Xs c m N es K' := fun pos h1 tk S => Xs.go h S fun v h' tk' N' S' y => ⟨h', tk', N', rfl, S', hk v N' y⟩
theorem Evs.nil : Evs c m N [] [] := Xs.nil ⟨rfl, .nil⟩
theorem Evs.cons (h1 : Ev c m N e k) (h2 : Evs c m N es ks) (he : plainE e = true) : Evs c m N (e :: es) (k :: ks) := Xs.cons (h1.use fun v d => Xs.mono h2 fun vs N' ⟨a, b⟩ => ⟨a, .cons d b⟩) he
theorem Xs.of {K : List Value → List HP → Prop} (h : Evs c m N es ks) (hk : ∀ vs, All2 AV.den ks vs → K vs N) : Xs c m N es K := Xs.mono h fun vs N' ⟨a, b⟩ => a ▸ hk vs b
theorem Ex.call {f : Value} (hf : Ev c m N (.Name x p') (.val f)) (hk : keepIn G.K f = true) (ha : Xs c m N (e :: es) fun vs N' => Sm c m N' (call f vs) K) (hp : (e :: es).all plainE = true) : Ex c m N (.Call (.Name x p') (e :: es) [] p) K := fun h tk S => by
  rw [List.all_cons, Bool.and_eq_true] at hp
  exact Call_ (Ev.go hf S fun v h' tk' S' d => by
    cases d
    exact callWith_K (s := c.at h' tk') G.X hk (Xs.go ha S' fun vs h2 tk2 N2 S2 y => by
      obtain ⟨_, F, _⟩ := S2.fr
      exact ⟨G.X.keeps F.keep, y h2 tk2 S2⟩) (star_plain hp.1) (plains hp.2))
theorem Sm.tr {n : Nat} {f : Value} {args : List AV} {N1 : List HP} {vs : List Value} {Q : Value → List HP → Prop} (T : Tr G n f args N1 Q) (hn : n ≤ rn) (mk : List Bool) (hN : pickM mk N = N1) (ha : All2 AV.den args vs) (hk : ∀ v N1', Q v N1' → K v (mergeM mk N1' N)) : Sm c m N (call f vs) K := fun h tk S => by
  subst hN
  obtain ⟨z, ls1, hz, hs, O, k⟩ := S.go mk
  exact wpAny_mono (T c.A (c.at h tk) z ls1 vs (c.d.rm.le hn) hz hs O ha) (fun v s' y => by obtain ⟨h', tk', z', ls', N', e, O', M, y⟩ := y; subst e; exact ⟨h', tk', _, rfl, k O' M, hk v N' y⟩) fun _ _ y => y
theorem Ex.callT {n : Nat} {f : Value} {N1 : List HP} {Q : Value → List HP → Prop} (hf : Ev c m N (.Name x p') (.val f)) (ha : Evs c m N (e :: es) ks) (T : Tr G n f ks N1 Q) (mk : List Bool) (hN : pickM mk N = N1) (ok : (decide (n ≤ rn) && keepIn G.K f && (e :: es).all plainE) = true) (hk : ∀ v N1', Q v N1' → K v (mergeM mk N1' N)) : Ex c m N (.Call (.Name x p') (e :: es) [] p) K := by
  simp only [Bool.and_eq_true, decide_eq_true_eq] at ok
  exact .call hf ok.1.2 (Xs.of ha fun vs d => Sm.tr T ok.1.1 mk hN d hk) ok.2
theorem Wk.nil (hp : P .next m N) : Wk c m N [] P := fun h tk S => wpAny_execs_nil ⟨h, tk, m, N, rfl, S, hp⟩
theorem Wk.expr (hx : Ex c m N e fun _ N' => Wk c m N' rest P) (hi : interactive c.env = false) (hs : swapsWith e none p.line c.env = pure false) : Wk c m N (.Expr e p :: rest) P := fun h tk S =>
  wpAny_execs_cons (wpAny_Expr_any (Sm.go hx S fun _ h' tk' N' S' y => y h' tk' S') hi hs)
theorem lookup_cons {v : AV} : ∀ y, ((x, v) :: m).lookup y = if y = x then some v else m.lookup y := fun y => by
  by_cases q : y = x
  · subst q; simp [List.lookup]
  · rw [if_neg q]
    show (match y == x with | true => some v | false => m.lookup y) = _
    rw [beq_false_of_ne q]
theorem Wk.assign (hx : Ex c m N e fun v N' => ∃ k, k.den v ∧ Wk c ((x, k) :: m) N' rest P) (ok : localOk c.st x = true) (hs : swapsWith e (some (.Name x p')) p.line c.env = pure false) : Wk c m N (.Assign [.Name x p'] e p :: rest) P := fun h tk S => by
  simp only [localOk, Bool.and_eq_true, Bool.not_eq_true', beq_iff_eq] at ok
  refine wpAny_execs_cons (wpAny_Assign_Name (Sm.go hx S fun v h' tk' N' S' y => ?_) hs)
  obtain ⟨k, d, y⟩ := y
  obtain ⟨f, z, ls, ag, X⟩ := S'
  refine wpAny_storeName_local (env := c.env) ok.1.2 X.F.ns (fun h'' hn hs => y h'' _ (.idleL (fun y u e => ?_) X (X.F.set hn hs) fun a o ha e => (hs.2 a ha).trans e)) (by
    show (c.st.cs.kind == .class || (c.st.cs.kind == .module && c.L != mainGlobals)) = false
    rw [ok.1.1]; rfl)
  rw [lookup_cons y] at e
  by_cases q : y = x
  · rw [if_pos q] at e ⊢; cases e; exact ⟨v, rfl, d⟩
  · rw [if_neg q] at e ⊢; exact ag y u e
theorem Wk.set (hx : Ev c m N e k) (ok : localOk c.st x = true) (hs : swapsWith e (some (.Name x p')) p.line c.env = pure false) (hw : Wk c ((x, k) :: m) N rest P) : Wk c m N (.Assign [.Name x p'] e p :: rest) P :=
  .assign (hx.use fun v d => ⟨k, d, hw⟩) ok hs
theorem Wk.ret (hx : Ex c m N e fun v N' => P (.ret v) m N') : Wk c m N (.Return (some e) p :: rest) P := fun h tk S =>
  wpAny_execs_cons (wpAny_Return_some (Sm.go hx S fun v h' tk' N' S' y => ⟨h', tk', m, N', rfl, S', y⟩))
noncomputable def Tx {G : Gx} {rn : Nat} (c : Fx G rn) (m : Lm) (N : List HP) (e : PySem.Expr) (K : Bool → List HP → Prop) : Prop := ∀ h tk, Sa c m N h → wpAny (model G.prog G.w) c.A (isTrue e c.env (eval e c.env)) (fun b s' => ∃ h' tk' N', s' = c.at h' tk' ∧ Sa c m N' h' ∧ K b N') No (c.at h tk)
noncomputable def Et {G : Gx} {rn : Nat} (c : Fx G rn) (m : Lm) (N : List HP) (e : PySem.Expr) (b : Bool) : Prop := Tx c m N e fun b' N' => N' = N ∧ b' = b
theorem Tx.go {h0 : Heap} {tk0 : Nat} {K : Bool → List HP → Prop} {Q : Bool → Shared → Prop} (h : Tx c m N e K) (S : Sa c m N h0) (k : ∀ b h' tk' N', Sa c m N' h' → K b N' → Q b (c.at h' tk')) : wpAny (model G.prog G.w) c.A (isTrue e c.env (eval e c.env)) Q No (c.at h0 tk0) := wpAny_mono (h h0 tk0 S) (fun v s1 y => by obtain ⟨h', tk', N', e, S', y⟩ := y; subst e; exact k v h' tk' N' S' y) fun _ _ y => y
theorem Tx.mono {K K' : Bool → List HP → Prop} (h : Tx c m N e K) (hk : ∀ v N', K v N' → K' v N') : Tx c m N e K' := fun h1 tk S => Tx.go h S fun v h' tk' N' S' y => ⟨h', tk', N', rfl, S', hk v N' y⟩
theorem Tx.of {K : Bool → List HP → Prop} {b : Bool} (h : Et c m N e b) (y : K b N) : Tx c m N e K := Tx.mono h fun b' N' ⟨a, d⟩ => a ▸ d ▸ y
theorem Tx.cmp {op : CmpOp} {K : Bool → List HP → Prop} (h1 : Ex c m N e1 fun v1 N1 => Ex c m N1 e2 fun v2 N2 => Sm c m N2 (compareOp op v1 v2) fun v N3 => ∃ b, v = .bool b ∧ K b N3) (hm : behindInMarks op e2 = false) : Tx c m N (.Compare e1 [op] [e2] p) K := fun h tk S =>
  wpAny_isTrue_Compare1 (Sm.go h1 S fun v1 h' tk' N' S' y => Sm.go y S' fun v2 h2 tk2 N2 S2 y2 => Sm.go y2 S2 fun v h3 tk3 N3 S3 y3 => by
    obtain ⟨b, e2, y3⟩ := y3
    subst e2
    exact wpAny_truthy_bool ⟨h3, tk3, N3, rfl, S3, y3⟩) hm
theorem Et.cmp {op : CmpOp} {b : Bool} (h1 : Ev c m N e1 k1) (h2 : Ev c m N e2 k2) (hm : behindInMarks op e2 = false) (ho : ∀ v1 v2 (s : Shared) (Q : Value → Shared → Prop), k1.den v1 → k2.den v2 → Q (.bool b) s → wpAny (model G.prog G.w) c.A (compareOp op v1 v2) Q No s) : Et c m N (.Compare e1 [op] [e2] p) b :=
  Tx.cmp (h1.use fun v1 d1 => h2.use fun v2 d2 h tk S => ho v1 v2 (c.at h tk) _ d1 d2 ⟨h, tk, N, rfl, S, b, rfl, rfl, rfl⟩) hm
theorem Et.eqI {i j : Int} {b : Bool} (h1 : Ev c m N e1 (.int i)) (h2 : Ev c m N e2 (.int j)) (hb : decide (i = j) = b) (hm : behindInMarks .Eq e2 = false) : Et c m N (.Compare e1 [.Eq] [e2] p) b := .cmp h1 h2 hm fun v1 v2 s Q ⟨_, e1⟩ ⟨_, e2⟩ y => by subst e1 e2 hb; exact eq_int y
theorem Et.ltI {i j : Int} {b : Bool} (h1 : Ev c m N e1 (.int i)) (h2 : Ev c m N e2 (.int j)) (hb : decide (i < j) = b) (hm : behindInMarks .Lt e2 = false) : Et c m N (.Compare e1 [.Lt] [e2] p) b := .cmp h1 h2 hm fun v1 v2 s Q ⟨_, e1⟩ ⟨_, e2⟩ y => by subst e1 e2 hb; exact lt_int y
theorem Et.eqS {y z : Str} {b : Bool} (h1 : Ev c m N e1 (.str y)) (h2 : Ev c m N e2 (.str z)) (hb : (y == z) = b) (hm : behindInMarks .Eq e2 = false) : Et c m N (.Compare e1 [.Eq] [e2] p) b := .cmp h1 h2 hm fun v1 v2 s Q ⟨_, e1⟩ ⟨_, e2⟩ q => by subst e1 e2 hb; exact eq_str q
theorem Wk.ite (ht : Tx c m N e fun b N' => Wk c m N' (cond b b1 b2) P') (hn : ∀ m' N', P' .next m' N' → Wk c m' N' rest P) (ho : ∀ f m' N', f ≠ .next → P' f m' N' → P f m' N') : Wk c m N (.If e b1 b2 p :: rest) P := fun h tk S => by
  refine wpAny_execs_cons (wpAny_If (Tx.go ht S fun b h' tk' N' S' y => ?_))
  have key := Wk.go (tk0 := tk') (Q := fun f s' => match f with | .next => wpAny (model G.prog G.w) c.A (execs rest c.env) (Kf c P) No s' | f => Kf c P f s') y S' fun f h2 tk2 m2 N2 S2 y2 => by
    cases f <;> first | exact hn _ _ y2 h2 tk2 S2 | exact ⟨h2, tk2, m2, N2, rfl, S2, ho _ _ _ (fun q => by cases q) y2⟩
  cases b <;> exact key
end
structure ER (α : Type) where
  r : Heap → Value → α → Prop
  mono : ∀ {z z' : Heap} {v : Value} {x : α}, r z v x → z.StaysIn z' → r z' v x
noncomputable def eAV : ER AV := ⟨fun _ v k => k.den v, fun x _ => x⟩
noncomputable def eInt : ER Int := ⟨fun _ v n => ∃ t, v = .int n t, fun x _ => x⟩
noncomputable def eRow : ER (String × Int) := ⟨RowAt, RowAt.keeps⟩
noncomputable def eBody : ER (List (String × Int)) := ⟨BodyAt, BodyAt.keeps⟩
noncomputable def eMom : ER Mom := ⟨MomAt, MomAt.keeps⟩
noncomputable def Fact {α : Type} (R : ER α) (v : Value) (x : α) : HP := ⟨fun l z _ => l = [] ∧ R.r z v x, fun x k _ => ⟨x.1, R.mono x.2 k⟩, fun x a ha => by rw [x.1] at ha; cases ha⟩
noncomputable def Ls {α : Type} (fz : Bool) (R : ER α) (a : Addr) (xs : List α) : HP :=
  ⟨fun l z h => l = cond fz [] [a] ∧ ∃ vs n, (cond fz z h).get? a = some (listOf (List.toArray vs) n) ∧ All2 (R.r z) vs xs, fun {l z z' h h'} ⟨e, vs, n, g, x⟩ kz kh => ⟨e, vs, n, by
    cases fz
    · exact kh a (e ▸ .head _) _ g
    · exact kz _ _ g, x.mono fun _ _ y => R.mono y kz⟩, fun {l z h} ⟨e, vs, n, g, x⟩ b hb => by
    cases fz
    · rw [e] at hb; exact List.mem_singleton.mp hb ▸ ⟨_, g⟩
    · rw [e] at hb; cases hb⟩
theorem All2.get {z h : Heap} {ls : List (List Addr)} {N : List HP} {i : Nat} {P : HP} (x : All2 (fun l P => HP.ok P l z h) ls N) (e : N[i]? = some P) : ∃ l, P.ok l z h ∧ ∀ a ∈ l, a ∈ ls.flatten := by
  induction x generalizing i with
  | nil => cases e
  | cons r _ ih =>
    cases i with
    | zero =>
      cases e
      exact ⟨_, r, fun a ha => by rw [List.flatten_cons]; exact List.mem_append_left _ ha⟩
    | succ i =>
      obtain ⟨l, y, k⟩ := ih e
      exact ⟨l, y, fun a ha => by rw [List.flatten_cons]; exact List.mem_append_right _ (k a ha)⟩
section
variable {G : Gx} {rn : Nat} {c : Fx G rn} {m m' : Lm} {N N' N1 : List HP} {e e1 e2 : PySem.Expr} {es : List PySem.Expr} {k k1 k2 : AV} {ks : List AV} {x x2 : Str} {p p' p2 : Pos} {K K' : Value → List HP → Prop} {P P' : Flow → Lm → List HP → Prop} {rest body b1 b2 : List Stmt} {t : Sem Value} {α : Type} {R : ER α} {fz fz2 : Bool} {xs ys : List α} {a b : Addr} {i j : Nat}
theorem Sa.get {h : Heap} {Q : HP} (x : Sa c m N h) (e : N[i]? = some Q) : ∃ z l, z.StaysIn h ∧ Q.ok l z h := by
  obtain ⟨f, z, ls, ag, x⟩ := x
  obtain ⟨l, y, _⟩ := x.own.ok.get e
  exact ⟨z, l, x.own.zh, y⟩
theorem All2.ata {α β : Type} {R : α → β → Prop} {as : List α} {bs : List β} (x : All2 R as bs) (i : Nat) {a : α} {b : β} (h : as[i]? = some a) (h' : bs[i]? = some b) : R a b := by
  induction x generalizing i with
  | nil => cases h
  | cons r _ ih =>
    cases i with
    | zero => cases h; cases h'; exact r
    | succ i => exact ih i h h'
theorem Sa.list {h : Heap} (S : Sa c m N h) (e : N[i]? = some (Ls fz R a xs)) : ∃ vs n, h.get? a = some (listOf (List.toArray vs) n) ∧ vs.length = xs.length ∧ ∀ (j : Nat) v y, vs[j]? = some v → xs[j]? = some y → Sa c m (Fact R v y :: N) h := by
  obtain ⟨f, z, ls, ag, X⟩ := S
  obtain ⟨l, ⟨e1, vs, n, g, y⟩, _⟩ := X.own.ok.get e
  refine ⟨vs, n, ?_, y.length, fun j v x h1 h2 => ⟨f, z, [] :: ls, ag, X.F, ⟨X.own.zh, .cons ⟨rfl, y.ata j h1 h2⟩ X.own.ok, X.own.nd, X.own.off⟩, X.mv, X.Ll, X.Lz⟩⟩
  cases fz
  · exact g
  · exact X.own.zh _ _ g
noncomputable def Ent (N1 N1' : List HP) : Prop := ∀ z ls h, Own z ls N1 h → ∃ z' ls', Own z' ls' N1' h ∧ Mv z ls.flatten h z' ls'.flatten h
theorem Sa.vs {h : Heap} {N1' : List HP} (x : Sa c m N h) (mk : List Bool) (v : Ent (pickM mk N) N1') : Sa c m (mergeM mk N1' N) h := by
  obtain ⟨z, ls1, _, _, O, k⟩ := x.go mk
  obtain ⟨z', ls', O', M⟩ := v z ls1 h O
  exact k O' M
theorem Wk.vs {N1' : List HP} (mk : List Bool) (v : Ent (pickM mk N) N1') (hw : Wk c m (mergeM mk N1' N) rest P) : Wk c m N rest P := fun h tk S => hw h tk (S.vs mk v)
theorem Sm.vs {N1' : List HP} (mk : List Bool) (v : Ent (pickM mk N) N1') (hw : Sm c m (mergeM mk N1' N) t K) : Sm c m N t K := fun h tk S => hw h tk (S.vs mk v)
theorem Own.one {z h : Heap} {ls : List (List Addr)} {Q : HP} (O : Own z ls [Q] h) : ∃ l, ls = [l] ∧ Q.ok l z h := by
  have := O.ok
  cases this with
  | cons r x => cases x; exact ⟨_, rfl, r⟩
theorem Ent.drop {Q : HP} : Ent [Q] [] := fun z ls h O => ⟨z, [], ⟨O.zh, .nil, List.nodup_nil, fun _ q => nomatch q⟩, fun _ _ e => e, fun _ _ e _ => e, fun a q => q.imp id fun q => nomatch q⟩
theorem Ent.freeze {Q Q' : HP} (H : ∀ l z h z', Q.ok l z h → z.StaysIn z' → (∀ a ∈ l, ∀ o, h.get? a = some o → z'.get? a = some o) → Q'.ok [] z' h) : Ent [Q] [Q'] := fun z ls h O => by
  obtain ⟨l, rfl, ok⟩ := O.one
  exact ⟨zAdd z h (· ∈ l), [[]], ⟨fun b o e => (zAdd_of e).1, .cons (H l z h _ ok (zAdd_z O.zh) fun a ha o e => zAdd_in e (.inr ha)) .nil, List.nodup_nil, fun _ q => nomatch q⟩, zAdd_z O.zh, fun _ _ e _ => e, fun a q => by
    rcases q with ⟨o, e⟩ | q
    · exact (zAdd_of e).2.imp id fun y => .inl (by simpa using y)
    · exact nomatch q⟩
theorem Ls.freeze : Ent [Ls false R a xs] [Ls true R a xs] := .freeze fun l z h z' ⟨e, vs, n, g, y⟩ kz kh => ⟨rfl, vs, n, kh a (e ▸ .head _) _ g, y.mono fun _ _ q => R.mono q kz⟩
noncomputable def NF (N : List HP) (Φ : Heap → Prop) : Prop := ∀ z ls h, Own z ls N h → Φ z
theorem NF.fact {v : Value} {y : α} (e : N[i]? = some (Fact R v y)) : NF N fun z => R.r z v y := fun z ls h O => by
  obtain ⟨l, y, _⟩ := O.ok.get e
  exact y.2
theorem NF.all {Φ : Heap → Prop} (H : ∀ z, Φ z) : NF N Φ := fun z _ _ _ => H z
theorem Fact.new {v : Value} {y : α} (H : NF N fun z => R.r z v y) {h : Heap} (S : Sa c m N h) : Sa c m (Fact R v y :: N) h := by
  obtain ⟨f, z, ls, ag, X⟩ := S
  have hf := H z ls h X.own
  exact ⟨f, z, [] :: ls, ag, X.F, ⟨X.own.zh, .cons ⟨rfl, hf⟩ X.own.ok, X.own.nd, X.own.off⟩, X.mv, X.Ll, X.Lz⟩
theorem Fact.new1 {Q : HP} {v : Value} {y : α} (H : NF (Q :: N) fun z => R.r z v y) {h : Heap} (S : Sa c m (Q :: N) h) : Sa c m (Q :: Fact R v y :: N) h := by
  obtain ⟨f, z, ls, ag, X⟩ := S
  have hf := H z ls h X.own
  have ok := X.own.ok
  cases ok with
  | @cons l _ ls _ r q => exact ⟨f, z, l :: [] :: ls, ag, X.F, ⟨X.own.zh, .cons r (.cons ⟨rfl, hf⟩ q), X.own.nd, X.own.off⟩, X.mv, X.Ll, X.Lz⟩
theorem Wk.fact {v : Value} {y : α} (H : NF N fun z => R.r z v y) (hw : Wk c m (Fact R v y :: N) rest P) : Wk c m N rest P := fun h tk S => hw h tk (Fact.new H S)
theorem Ex.item (h1 : Ev c m N e1 (.ref a)) (h2 : Ev c m N e2 (.int (j : Int))) (hN : N[i]? = some (Ls fz R a xs)) {y : α} (hy : xs[j]? = some y) (hj : j ≤ 1000000) (hs : ∀ u, subscripted e2 false (.ref a) (.int (j : Int) u) = operate [.ref a, .int (j : Int) u] (getItem (.ref a) (.int (j : Int) u)))
    (hk : ∀ v, K v (Fact R v y :: N)) : Ex c m N (.Subscript e1 e2 p) K := fun h tk S =>
  Subscript_ (Ev.goR h1 S fun h' tk' S' => Ev.go h2 S' fun v2 hh tk2 S2 d => by
      obtain ⟨u, d⟩ := d
      subst d
      obtain ⟨vs, n, g, hl, hf⟩ := S2.list hN
      have hj2 : j < vs.length := by rw [hl]; exact (List.getElem?_eq_some_iff.mp hy).1
      have hw : vs[j]? = some vs[j] := List.getElem?_eq_getElem hj2
      have hl : hh.IsList a (List.toArray vs) := ⟨_, g, rfl, n, rfl⟩
      exact tail_any (s := c.at hh tk2) hl.typeIs slot_list_getitem.lookup (wpAny_getItem_list hl (by omega) (by omega) (by simpa using hw) ⟨hh, tk2, _, rfl, hf j _ y hw hy, hk _⟩) (hs u))
theorem Sa.unfact {h : Heap} {Q : HP} (S : Sa c m (Q :: N) h) : Sa c m N h := S.vs [true] .drop
theorem Ev.item {y : α} (h1 : Ev c m N e1 (.ref a)) (h2 : Ev c m N e2 (.int (j : Int))) (hN : N[i]? = some (Ls fz R a xs)) (hy : xs[j]? = some y) (hd : ∀ z v, R.r z v y → k.den v) (hj : j ≤ 1000000) (hs : ∀ u, subscripted e2 false (.ref a) (.int (j : Int) u) = operate [.ref a, .int (j : Int) u] (getItem (.ref a) (.int (j : Int) u))) : Ev c m N (.Subscript e1 e2 p) k := fun h tk S =>
  Sm.go (Ex.item (K := fun v N' => N' = Fact R v y :: N) h1 h2 hN hy hj hs fun _ => rfl) S fun v h' tk' N' S' e2 => by
    subst e2
    obtain ⟨_, _, _, _, d⟩ := S'.get (i := 0) rfl
    exact ⟨h', tk', N, rfl, S'.unfact, rfl, hd _ _ d⟩
theorem Ex.list (h : Xs c m N es fun vs N' => vs.length ≤ sizeLine ∧ ∃ (α : Type) (R : ER α) (xs : List α), NF N' (fun z => All2 (R.r z) vs xs) ∧ ∀ a, K (.ref a) (Ls false R a xs :: N')) : Ex c m N (.List es p) K := fun h1 tk S =>
  List_ (Xs.go h S fun vs h' tk' N' S' y => by
    obtain ⟨hl, α, R, xs, hf, y⟩ := y
    refine wpAny_newList (s := c.at h' tk') ⟨_, tk', _, rfl, ?_, y _⟩ hl
    obtain ⟨f, z, ls, ag, X⟩ := S'
    exact .newL ag X (fr_off X.F fun b o e => Heap.get?_push_of_some _ e) (fun b o _ e => Heap.get?_push_of_some _ e) (Heap.get?_none_of_le (Nat.le_refl _)) ⟨rfl, vs, 0, Heap.get?_push_size _ rfl, hf z ls h' X.own⟩)
theorem all2_av {vs : List Value} (h : All2 AV.den ks vs) (z : Heap) : All2 (eAV.r z) vs ks := by
  induction h with
  | nil => exact .nil
  | cons r _ ih => exact .cons r ih
theorem sizeLine_of {n : Nat} (h : n ≤ 1000000) : n ≤ sizeLine := Nat.le_trans h (by rw [sizeLine_eq]; decide)
theorem Ex.listK (h : Evs c m N es ks) (hl : ks.length ≤ 1000000) (hk : ∀ a, K (.ref a) (Ls false eAV a ks :: N)) : Ex c m N (.List es p) K :=
  Ex.list (Xs.of h fun vs d => ⟨sizeLine_of (by rw [← d.length]; exact hl), AV, eAV, ks, NF.all (all2_av d), hk⟩)
noncomputable def Er {G : Gx} {rn : Nat} (c : Fx G rn) (m : Lm) (e : PySem.Expr) (r : String × Int) : Prop := ∀ N, Ex c m N e fun v N' => N' = Fact eRow v r :: N
theorem Er.mk {s : String} {n : Int} (h1 : ∀ N, Ev c m N e1 (.str (Str.ofString s))) (h2 : ∀ N, Ev c m N e2 (.int n)) (ok : (plainE e1 && plainE e2) = true) : Er c m (.List [e1, e2] p) (s, n) := fun N => by
  rw [Bool.and_eq_true] at ok
  refine fun h tk S => Sm.go (Ex.listK (K := fun v N' => ∃ a, v = .ref a ∧ N' = Ls false eAV a [.str (Str.ofString s), .int n] :: N) (.cons (h1 N) (.cons (h2 N) .nil ok.2) ok.1) (Nat.le_of_ble_eq_true rfl) fun a => ⟨a, rfl, rfl⟩) S fun v h' tk' N' S' y => ?_
  obtain ⟨a, e2, e3⟩ := y
  subst e2 e3
  exact ⟨h', tk', _, rfl, S'.vs [true] (.freeze (Q' := Fact eRow (.ref a) (s, n)) fun l z h z' ⟨e, vs, n, g, y⟩ kz kh => ⟨rfl, by
    cases y with
    | cons r1 y =>
      cases y with
      | cons r2 y =>
        cases y
        obtain ⟨t1, rfl⟩ := r1
        obtain ⟨t2, rfl⟩ := r2
        exact ⟨a, t1, t2, n, rfl, kh a (e ▸ .head _) _ g⟩⟩), rfl⟩
theorem NF.weak {Φ : Heap → Prop} (H : NF N Φ) : NF (N1 ++ N) Φ := fun z ls h O => by
  obtain ⟨a1, a2, rfl, y1, y2⟩ := all2_split O.ok
  have nd := O.nd
  have off := O.off
  rw [List.flatten_append] at nd off
  exact H z a2 h ⟨O.zh, y2, (List.nodup_append.mp nd).2.1, fun a ha => off a (List.mem_append_right _ ha)⟩
theorem Xs.rows {rows : List (String × Int)} (h : All2 (Er c m) es rows) (hp : es.all plainE = true) : ∀ {N} {K : List Value → List HP → Prop}, (∀ vs Fs, (NF (Fs ++ N) fun z => All2 (RowAt z) vs rows) → vs.length = rows.length → K vs (Fs ++ N)) → Xs c m N es K := by
  induction h with
  | nil => exact fun hk => .nil (hk [] [] (NF.all fun _ => .nil) rfl)
  | @cons e r es rows hr y ih =>
    intro N K hk
    rw [List.all_cons, Bool.and_eq_true] at hp
    refine .cons ((hr N).mono fun v N1 e => ?_) hp.1
    subst e
    refine ih hp.2 fun vs Fs hf hl => ?_
    have := hk (v :: vs) (Fs ++ [Fact eRow v r])
    rw [List.append_assoc] at this
    exact this (fun z ls h O => .cons (NF.weak (NF.fact (i := 0) rfl) z ls h O) (hf z ls h O)) (by rw [List.length_cons, hl]; rfl)
theorem Ent.drops : Ent N [] := fun z ls h O => ⟨z, [], ⟨O.zh, .nil, List.nodup_nil, fun _ q => nomatch q⟩, fun _ _ e => e, fun _ _ e _ => e, fun a q => q.imp id fun q => nomatch q⟩
theorem merge_reps {α : Type} : ∀ (F N : List α), mergeM (List.replicate F.length true) [] (F ++ N) = N
  | [], N => by cases N <;> rfl
  | _ :: F, N => merge_reps F N
theorem Sa.weak1 {h : Heap} {Q : HP} (S : Sa c m (Q :: (N1 ++ N)) h) : Sa c m (Q :: N) h := by
  have e : mergeM (false :: List.replicate N1.length true) [] (Q :: (N1 ++ N)) = Q :: N := congrArg (Q :: ·) (merge_reps N1 N)
  exact e ▸ S.vs (false :: List.replicate N1.length true) .drops
theorem Ex.rows {rows : List (String × Int)} (h : All2 (Er c m) es rows) (ok : (es.all plainE && decide (rows.length ≤ 1000000)) = true) (hk : ∀ a, K (.ref a) (Ls false eRow a rows :: N)) : Ex c m N (.List es p) K := by
  rw [Bool.and_eq_true, decide_eq_true_eq] at ok
  refine fun h1 tk S => Sm.go (Ex.list (p := p) (K := fun v N' => ∃ a Fs, v = .ref a ∧ N' = Ls false eRow a rows :: (Fs ++ N)) (Xs.rows h ok.1 fun vs Fs hf hl => ⟨sizeLine_of (hl ▸ ok.2), _, eRow, rows, hf, fun a => ⟨a, Fs, rfl, rfl⟩⟩)) S fun v h' tk' N' S' y => ?_
  obtain ⟨a, Fs, e2, e3⟩ := y
  subst e2 e3
  exact ⟨h', tk', _, rfl, S'.weak1, hk a⟩
end
section
variable {G : Gx} {rn : Nat} {c : Fx G rn} {m m' : Lm} {N N' N1 : List HP} {e e1 e2 : PySem.Expr} {es : List PySem.Expr} {k k1 k2 : AV} {ks : List AV} {x x2 : Str} {p p' p2 : Pos} {K K' : Value → List HP → Prop} {P P' : Flow → Lm → List HP → Prop} {rest body b1 b2 : List Stmt} {t : Sem Value} {α : Type} {R : ER α} {fz fz2 : Bool} {xs ys : List α} {a b : Addr} {i j : Nat}
theorem Own.list {z h : Heap} {ls : List (List Addr)} (O : Own z ls N h) (e : N[i]? = some (Ls fz R a xs)) : ∃ vs n, h.get? a = some (listOf (List.toArray vs) n) ∧ All2 (R.r z) vs xs := by
  obtain ⟨l, ⟨e1, vs, n, g, y⟩, _⟩ := O.ok.get e
  refine ⟨vs, n, ?_, y⟩
  cases fz
  · exact g
  · exact O.zh _ _ g
theorem StI.snap {f : Str → Option Value} {z h : Heap} {ls : List (List Addr)} (X : StI c f z ls N h) : ∃ Rs, News G.hb c.L h Rs ∧ (∀ b o, h.get? b = some o → b ≠ c.L → G.hb.get? b = some o ∨ (b, o) ∈ Rs) ∧ ∀ {h' : Heap} {f' : Str → Option Value} {news' : List (Addr × Obj)}, Fr G.hb c.L h' f' → News G.hb c.L h' news' → (∀ q ∈ Rs, q ∈ news') → ∀ b o, b ≠ c.L → h.get? b = some o → h'.get? b = some o := by
  obtain ⟨Rs, N0, _, hs⟩ := Mine.snap X.F [] fun _ hq => nomatch hq
  exact ⟨Rs, N0, fun b o e hb => hs b o e hb (fun _ hq => nomatch hq), fun F' N' hR b o hb e => snap_keep hs F' N' hR b o e hb fun _ hq => nomatch hq⟩
theorem Sm.cat (ha : N[i]? = some (Ls fz R a xs)) (hb : N[j]? = some (Ls fz2 R b ys)) (hl : xs.length + ys.length ≤ 1000000) (hk : ∀ d, K (.ref d) (Ls false R d (xs ++ ys) :: N)) : Sm c m N (binaryOp .Add (.ref a) (.ref b)) K := fun h tk S => by
  obtain ⟨f, z, ls, ag, X⟩ := S
  obtain ⟨vs, n, g1, y1⟩ := X.own.list ha
  obtain ⟨ws, n2, g2, y2⟩ := X.own.list hb
  obtain ⟨Rs, N0, _, hs⟩ := X.snap
  have l1 : (c.at h tk).heap.IsList a (List.toArray vs) := ⟨_, g1, rfl, n, rfl⟩
  have l2 : (c.at h tk).heap.IsList b (List.toArray ws) := ⟨_, g2, rfl, n2, rfl⟩
  refine add_lists (s := c.at h tk) X.F N0 l1 l2 (fun h' F' N' => ⟨h', tk, _, rfl, ?_, hk h.objs.size⟩) (sizeLine_of (by rw [y1.length, y2.length]; exact hl))
  exact .newL ag X F' (hs F' N' fun q hq => .tail _ hq) (Heap.get?_none_of_le (Nat.le_refl _)) ⟨rfl, _, 0, (N' _ (.head _)).1, y1.append y2⟩
noncomputable def mkAt : Nat → List Bool
  | 0 => [true]
  | n + 1 => false :: mkAt n
theorem pick_at {β : Type} : ∀ (j : Nat) (l : List β) {q : β}, l[j]? = some q → pickM (mkAt j) l = [q]
  | 0, _ :: l, _, e => by cases e; cases l <;> rfl
  | j + 1, _ :: l, _, e => pick_at j l (show _ = some _ from e)
theorem merge_at {β : Type} : ∀ (j : Nat) (l : List β) {q : β}, j < l.length → mergeM (mkAt j) [q] l = l.set j q
  | 0, _ :: l, _, _ => by cases l <;> rfl
  | j + 1, a :: l, q, e => congrArg (a :: ·) (merge_at j l (Nat.lt_of_succ_lt_succ e))
theorem StI.put {f : Str → Option Value} {z h : Heap} {ls : List (List Addr)} {Q : HP} (X : StI c f z ls N h) (ag : Agr m f) (hj : N[j]? = some Q) : ∃ l, Q.ok l z h ∧ (∀ a ∈ l, z.get? a = none) ∧ ∀ {h' : Heap} {Q' : HP}, (∀ b o, b ∉ l → h.get? b = some o → h'.get? b = some o) → Q'.ok l z h' → Sa c m (N.set j Q') h' := by
  obtain ⟨ls1, O, hL, k⟩ := X.go (mkAt j)
  rw [pick_at j N hj] at O
  obtain ⟨l, rfl, ok⟩ := O.one
  have off : ∀ a ∈ l, z.get? a = none := fun a q => O.off a (by simpa using q)
  have hLl : c.L ∉ l := fun q => hL (by simpa using q)
  refine ⟨l, ok, off, fun {h' Q'} hk ok' => ?_⟩
  have zh : z.StaysIn h' := fun b o e => hk b o (fun q => by rw [off b q] at e; cases e) (O.zh b o e)
  obtain ⟨oL, es, ep, eL, rL⟩ := X.F.ns
  obtain ⟨ls', X'⟩ := k (f' := f) (z' := z) (ls1' := [l]) (N1' := [Q']) (h' := h') ⟨⟨oL, es, ep, hk _ _ hLl eL, rL⟩, fun b o e => zh b o (X.mv.zz b o (c.d.hz b o e)), X.F.above⟩ ⟨zh, .cons ok' .nil, O.nd, O.off⟩ ⟨fun _ _ e => e, fun b o e q => hk b o (fun y => q (List.mem_cons_of_mem _ (by simpa using y))) e, fun a q => q.imp id fun y => .inl (List.mem_cons_of_mem _ y)⟩ hL X.Lz
  rw [merge_at j N (List.getElem?_eq_some_iff.mp hj).1] at X'
  exact ⟨f, z, ls', ag, X'⟩
theorem Sa.put {Q Q' : HP} {h h' : Heap} (S : Sa c m N h) (hj : N[j]? = some Q) (H : ∀ l z, z.StaysIn h → (∀ a ∈ l, z.get? a = none) → Q.ok l z h → (∀ b o, b ∉ l → h.get? b = some o → h'.get? b = some o) ∧ Q'.ok l z h') : Sa c m (N.set j Q') h' := by
  obtain ⟨f, z, ls, ag, X⟩ := S
  obtain ⟨l, ok, off, k⟩ := X.put ag hj
  obtain ⟨a, b⟩ := H l z X.own.zh off ok
  exact k a b
noncomputable def Sh (c : Fx G rn) (m : Lm) (N N' : List HP) : Prop := ∀ h, Sa c m N h → Sa c m N' h
theorem Sh.rfl' : Sh c m N N := fun _ S => S
theorem Sh.trans (a : Sh c m N N1) (b : Sh c m N1 N') : Sh c m N N' := fun h S => b h (a h S)
theorem Sh.vs {N1' : List HP} (mk : List Bool) (v : Ent (pickM mk N) N1') : Sh c m N (mergeM mk N1' N) := fun _ S => S.vs mk v
theorem Wk.append {pos pa pe : Pos} (ho : Ev c m N e1 (.ref a)) (hN : N[i]? = some (Ls fz R a xs)) (hx : Ex c m N e fun v N0 => ∃ N', Sh c m N0 N' ∧ ∃ i xs y, N'[i]? = some (Ls false R a xs) ∧ xs.length ≤ 1000000 ∧ NF N' (fun z => R.r z v y) ∧ Wk c m (N'.set i (Ls false R a (xs ++ [y]))) rest P)
    (hp : plainE e = true) (hi : interactive c.env = false) (hsw : swapsWith (.Call (.Attribute e1 "append" pa) [e] [] pos) none pe.line c.env = pure false)
    {pl : Sem Bool} (hm : eval (.Call (.Attribute e1 "append" pa) [e] [] pos) c.env = (do
      let ov ← eval e1 c.env
      standAt pa.atName
      let (f, first) ← holding [ov] (getMethod ov "append" pl)
      callWith pos f first (backTo pos (starEach [e] c.env)) [])) : Wk c m N (.Expr (.Call (.Attribute e1 "append" pa) [e] [] pos) pe :: rest) P := fun h tk S => by
  refine wpAny_execs_cons (wpAny_Expr_any (MethodCall_ (Ev.goR ho S fun h1 tk1 S1 => ?_) hm) hi hsw)
  obtain ⟨vs, n, g, _, _⟩ := S1.list hN
  refine getMethod_list_append (s := c.at h1 tk1) g rfl rfl ?_
  refine callWith_method1 (first := [.ref a]) (args_cons (Sm.go hx S1 fun v h2 tk2 N0 S0 y => args_nil ?_) (star_plain hp)) (star_plain hp) rfl
  obtain ⟨N2, sh, j, xs, y, hj, hl, hf, hw⟩ := y
  have S2 := sh h2 S0
  obtain ⟨f, z, ls, ag, X⟩ := id S2
  obtain ⟨l, ⟨el, vs, n, g, q⟩, _, put⟩ := X.put ag hj
  refine wpAny_list_append_plain (s := c.at h2 tk2) ⟨n, g⟩ (fun h3 hp hs => ?_) (sizeLine_of (by rw [List.size_toArray, q.length]; exact hl))
  obtain ⟨n3, g3⟩ := hp
  exact hw h3 tk2 (put (fun b o hb e => (hs.2 b fun y => hb (by rw [el, y]; exact .head _)).trans e) ⟨el, vs ++ [v], n3, (show h3.get? a = _ by rw [g3]; simp), q.append (.cons (hf z ls h2 X.own) .nil)⟩)
theorem Ex.callB {id : String} (hf : Ev c m N (.Name x p') (.val (Value.builtin id))) (ha : Xs c m N (e :: es) fun vs N' => Sm c m N' (PySem.call (Value.builtin id) vs) K) (hp : (e :: es).all plainE = true) : Ex c m N (.Call (.Name x p') (e :: es) [] p) K := fun h tk S => by
  rw [List.all_cons, Bool.and_eq_true] at hp
  exact Call_ (Ev.go hf S fun v h' tk' S' d => by
    cases d
    exact callWith_builtin1 (Xs.go ha S' fun vs h2 tk2 N2 S2 y => y h2 tk2 S2) (star_plain hp.1) (plains hp.2))
theorem Ex.callY {id : String} (hf : Ev c m N (.Name x p') (.val (Value.type id))) (ha : Xs c m N (e :: es) fun vs N' => Sm c m N' (PySem.call (Value.type id) vs) K) (hp : (e :: es).all plainE = true) : Ex c m N (.Call (.Name x p') (e :: es) [] p) K := fun h tk S => by
  rw [List.all_cons, Bool.and_eq_true] at hp
  exact Call_ (Ev.go hf S fun v h' tk' S' d => by
    cases d
    exact PyProof.Rows.callWith_type1 (Xs.go ha S' fun vs h2 tk2 N2 S2 y => y h2 tk2 S2) (star_plain hp.1) (plains hp.2))
theorem Ev.len (hf : Ev c m N (.Name x p') (.val (Value.builtin "len"))) (h1 : Ev c m N e (.ref a)) (hN : N[i]? = some (Ls fz R a xs)) (hl : xs.length ≤ 1000000) (hp : plainE e = true) : Ev c m N (.Call (.Name x p') [e] [] p) (.int xs.length) :=
  Ex.callB hf (Xs.cons (h1.use fun v d => .nil fun h tk S => by
    cases d
    obtain ⟨vs, n, g, el, _⟩ := S.list hN
    have l1 : (c.at h tk).heap.IsList a (List.toArray vs) := ⟨_, g, rfl, n, rfl⟩
    exact PyProof.Rows.len_list (s := c.at h tk) l1 (by rw [List.size_toArray, el]; omega) ⟨h, tk + 1 + 1, N, rfl, S, rfl, _, by rw [List.size_toArray, el]⟩) hp) (by simp [hp])
theorem Ex.nilL (R : ER α) (hk : ∀ a, K (.ref a) (Ls false R a [] :: N)) : Ex c m N (.List [] p) K :=
  Ex.list (.nil ⟨Nat.zero_le _, α, R, [], NF.all fun _ => .nil, hk⟩)
theorem Sa.perm {h : Heap} (S : Sa c m N h) (q : N.Perm N') : Sa c m N' h := by
  obtain ⟨f, z, ls, ag, X⟩ := S
  obtain ⟨ls', p', O⟩ := X.own.perm q
  exact ⟨f, z, ls', ag, X.F, O, X.mv.right (perm_flat p'.symm), fun hm => X.Ll (perm_flat p'.symm _ hm), X.Lz⟩
theorem Sm.post (h : Sm c m N t K) (hk : ∀ v N' h, K v N' → Sa c m N' h → ∃ N'', Sa c m N'' h ∧ K' v N'') : Sm c m N t K' := fun h1 tk S => Sm.go h S fun v h' tk' N' S' y => by
  obtain ⟨N'', S'', y''⟩ := hk v N' h' y S'
  exact ⟨h', tk', N'', rfl, S'', y''⟩
theorem pick1 {Q : HP} : ∀ {N : List HP}, pickM [true] (Q :: N) = [Q]
  | [] => rfl
  | _ :: _ => rfl
theorem merge1 {Q Q' : HP} : ∀ {N : List HP}, mergeM [true] [Q'] (Q :: N) = Q' :: N
  | [] => rfl
  | _ :: _ => rfl
theorem Sm.catF (ha : N[i]? = some (Ls fz R a xs)) (hb : N[j]? = some (Ls fz2 R b ys)) (hl : xs.length + ys.length ≤ 1000000) (hk : ∀ d, K (.ref d) (Ls true R d (xs ++ ys) :: N)) : Sm c m N (binaryOp .Add (.ref a) (.ref b)) K :=
  Sm.post (K := fun v N' => ∃ d, v = .ref d ∧ N' = Ls false R d (xs ++ ys) :: N) (Sm.cat ha hb hl fun d => ⟨d, rfl, rfl⟩) fun v N' h ⟨d, e1, e2⟩ S => by
    subst e1 e2
    exact ⟨_, merge1 (N := N) ▸ S.vs [true] (pick1 (N := N) ▸ Ls.freeze), hk d⟩
theorem set_perm {β : Type} {q : β} : ∀ (i : Nat) (l : List β) (hi : i < l.length), (q :: l).Perm (l[i] :: l.set i q)
  | 0, _ :: _, _ => .swap _ _ _
  | i + 1, x :: r, hi => (List.Perm.swap x q r).trans (((set_perm i r (Nat.lt_of_succ_lt_succ hi)).cons x).trans (.swap _ _ _))
theorem Sm.catR (ha : N[i]? = some (Ls fz R a xs)) (hb : N[j]? = some (Ls fz2 R b ys)) (hl : xs.length + ys.length ≤ 1000000) (hk : ∀ d, K (.ref d) (N.set i (Ls false R d (xs ++ ys)))) : Sm c m N (binaryOp .Add (.ref a) (.ref b)) K :=
  Sm.post (K := fun v N' => ∃ d, v = .ref d ∧ N' = Ls false R d (xs ++ ys) :: N) (Sm.cat ha hb hl fun d => ⟨d, rfl, rfl⟩) fun v N' h ⟨d, e1, e2⟩ S => by
    subst e1 e2
    have hi := (List.getElem?_eq_some_iff.mp ha).1
    refine ⟨_, Sa.unfact (Q := N[i]) (S.perm ?_), hk d⟩
    exact set_perm i N hi
theorem Wk.retS (hx : Ex c m N e fun v N0 => ∃ N', Sh c m N0 N' ∧ P (.ret v) m N') : Wk c m N (.Return (some e) p :: rest) P :=
  .ret (Sm.post hx fun v N' h ⟨N'', sh, y⟩ S => ⟨N'', sh h S, y⟩)
theorem all2_ints {z : Heap} : ∀ {ns : List Int} {vs : List Value}, All2 (eAV.r z) vs (ns.map .int) → All2 (eInt.r z) vs ns
  | [], _, .nil => .nil
  | _ :: _, _, .cons r y => .cons r (all2_ints y)
theorem Ls.ints {ns : List Int} : Ent [Ls false eAV a (ns.map .int)] [Ls true eInt a ns] := .freeze fun l z h z' ⟨e, vs, n, g, y⟩ kz kh => ⟨rfl, vs, n, kh a (e ▸ .head _) _ g, (all2_ints y).mono fun _ _ q => eInt.mono q kz⟩
theorem mulOkL {i j : Int} (h : i.natAbs < 2 ^ 64) : IntMulOk i j := IntMulOk.of_left (intBits_le_64 (by omega) (by omega))
noncomputable def Su (c : Fx G rn) (m : Lm) (N : List HP) (t : Sem Unit) (K : List HP → Prop) : Prop := ∀ h tk, Sa c m N h → wpAny (model G.prog G.w) c.A t (fun _ s' => ∃ h' tk' N', s' = c.at h' tk' ∧ Sa c m N' h' ∧ K N') No (c.at h tk)
theorem Wk.setItem (hx : Ex c m N e fun v N1 => Ex c m N1 e1 fun ov N2 => Ex c m N2 e2 fun iv N3 => Su c m N3 (PySem.setItem ov iv v) fun N4 => Wk c m N4 rest P) (hs : swapsWith e (some (.Subscript e1 e2 p')) p.line c.env = pure false) : Wk c m N (.Assign [.Subscript e1 e2 p'] e p :: rest) P := fun h tk S =>
  wpAny_execs_cons (wpAny_Assign_Subscript (Sm.go hx S fun v h1 tk1 N1 S1 y1 => Sm.go y1 S1 fun ov h2 tk2 N2 S2 y2 => Sm.go y2 S2 fun iv h3 tk3 N3 S3 y3 => wpAny_mono (y3 h3 tk3 S3) (fun _ s4 y => by
    obtain ⟨h4, tk4, N4, q4, S4, y4⟩ := y
    subst q4
    exact y4 h4 tk4 S4) fun _ _ y => y) hs)
end
structure FP where
  p : Heap → Prop
  mono : ∀ {z z' : Heap}, p z → z.StaysIn z' → p z'
noncomputable def ItH (Φ : FP) (own fr : List Addr) (Sti : Nat → Heap → Prop) (i : Nat) : HP :=
  ⟨fun l z h => Φ.p z ∧ l = own ∧ (∀ a ∈ own, ∃ o, h.get? a = some o) ∧ (∀ b ∈ fr, ∃ o, z.get? b = some o) ∧ ∀ g : Heap, z.StaysIn g → (∀ a ∈ own, ∀ o, h.get? a = some o → g.get? a = some o) → Sti i g,
    fun {l z z' h h'} ⟨w, e, p, f, k⟩ kz kh => ⟨Φ.mono w kz, e, fun a ha => let ⟨o, q⟩ := p a ha; ⟨o, kh a (e ▸ ha) o q⟩, fun b hb => let ⟨o, q⟩ := f b hb; ⟨o, kz _ _ q⟩, fun g hz ho => k g (fun b o q => hz b o (kz b o q)) fun a ha o q => ho a ha o (kh a (e ▸ ha) o q)⟩,
    fun {l z h} ⟨_, e, p, _⟩ a ha => p a (e ▸ ha)⟩
theorem ItH.mk {Φ : FP} {own fr : List Addr} {Sti : Nat → Heap → Prop} {i : Nat} {z h : Heap} (zh : z.StaysIn h) (st : Sti i h) (fm : ∀ i h h', Sti i h → (∀ b ∈ own ++ fr, ∀ o, h.get? b = some o → h'.get? b = some o) → Sti i h') (pres : ∀ a ∈ own, ∃ o, h.get? a = some o) (hfr : ∀ b ∈ fr, ∃ o, z.get? b = some o) (w : Φ.p z) : (ItH Φ own fr Sti i).ok own z h :=
  ⟨w, rfl, pres, hfr, fun g hz ho => fm i h g st fun b hb o e => (List.mem_append.mp hb).elim (fun hb => ho b hb o e) fun hb => by
    obtain ⟨o', e'⟩ := hfr b hb
    have := zh _ _ e'
    rw [e] at this; cases this
    exact hz _ _ e'⟩
noncomputable def SubL : Lm → Lm → Prop
  | [], _ => True
  | (x, k) :: r, m => m.lookup x = some k ∧ SubL r m
theorem SubL.get {m0 m : Lm} (h : SubL m0 m) (x : Str) (k : AV) (e : m0.lookup x = some k) : m.lookup x = some k := by
  induction m0 with
  | nil => cases e
  | cons p r ih =>
    obtain ⟨y, u⟩ := p
    rw [lookup_cons x] at e
    by_cases q : x = y
    · rw [if_pos q] at e; cases e; rw [q]; exact h.1
    · rw [if_neg q] at e; exact ih h.2 e
theorem Sa.sub {G : Gx} {rn : Nat} {c : Fx G rn} {m0 m : Lm} {N : List HP} {h : Heap} (S : Sa c m N h) (s : SubL m0 m) : Sa c m0 N h := by
  obtain ⟨f, z, ls, ag, X⟩ := S
  exact ⟨f, z, ls, fun x k e => ag x k (s.get x k e), X⟩
noncomputable def LoopP (J : Nat → Lm → List HP → Prop) (i : Nat) (It : HP) (P : Flow → Lm → List HP → Prop) (D : Lm → List HP → Prop) (f : Flow) (m' : Lm) (N' : List HP) : Prop := ∃ N0, N' = It :: N0 ∧ match f with
  | .ret v => P (.ret v) m' N0
  | .brk => D m' N0
  | _ => ∃ m0, J i m0 N0 ∧ SubL m0 m'
section
variable {G : Gx} {rn : Nat} {c : Fx G rn} {m m' : Lm} {N N' N1 : List HP} {e e1 e2 : PySem.Expr} {es : List PySem.Expr} {x x1 x2 : Str} {p p' p1 p2 pp : Pos} {P P' : Flow → Lm → List HP → Prop} {rest body b1 b2 : List Stmt} {D : Lm → List HP → Prop}
theorem Wk.sub {m0 : Lm} (s : SubL m0 m) (h : Wk c m0 N rest P) : Wk c m N rest P := fun hh tk S => h hh tk (S.sub s)
theorem Sa.turn {Φ : FP} {own fr wr : List Addr} {Sti : Nat → Heap → Prop} {i : Nat} {h h' : Heap} (fm : ∀ i h h', Sti i h → (∀ b ∈ own ++ fr, ∀ o, h.get? b = some o → h'.get? b = some o) → Sti i h') (pr : ∀ i h, Sti i h → ∀ a ∈ own, ∃ o, h.get? a = some o) (S : Sa c m (ItH Φ own fr Sti i :: N) h) (st : Sti (i + 1) h') (k : ∀ b o, b ∉ wr → h.get? b = some o → h'.get? b = some o) (hw : ∀ b ∈ wr, b ∈ own) : Sa c m (ItH Φ own fr Sti (i + 1) :: N) h' := by
  refine S.put (j := 0) (Q' := ItH Φ own fr Sti (i + 1)) rfl fun l z zh off ⟨w, e, p, f, q⟩ => ?_
  have hk : ∀ b o, b ∉ l → h.get? b = some o → h'.get? b = some o := fun b o hb => k b o fun hm => hb (e ▸ hw b hm)
  refine ⟨hk, ?_⟩
  rw [e]
  exact ItH.mk (z := z) (h := h') (fun b o q => hk b o (fun hm => by rw [off b hm] at q; cases q) (zh b o q)) st fm (pr _ _ st) f w
theorem Sa.over {Φ : FP} {own fr : List Addr} {Sti : Nat → Heap → Prop} {i : Nat} {h h' : Heap} (S : Sa c m (ItH Φ own fr Sti i :: N) h) (k : ∀ b o, b ∉ own → h.get? b = some o → h'.get? b = some o) : Sa c m N h' := by
  obtain ⟨z, ls1, _, _, O, g⟩ := S.go [true]
  rw [pick1] at O
  obtain ⟨l, rfl, _, e, _⟩ := O.one
  have e2 : mergeM [true] [] (ItH Φ own fr Sti i :: N) = N := by cases N <;> rfl
  rw [← e2]
  exact g (z' := z) (ls1' := []) ⟨fun b o q => k b o (fun hm => by rw [O.off b (by simp [e, hm])] at q; cases q) (O.zh b o q), .nil, List.nodup_nil, fun _ q => nomatch q⟩ ⟨fun _ _ e => e, fun b o q hb => k b o (fun hm => hb (by simp [e, hm])) q, fun a q => q.imp id fun q => nomatch q⟩
noncomputable def Aft {G : Gx} {rn : Nat} (c : Fx G rn) (P : Flow → Lm → List HP → Prop) (D : Lm → List HP → Prop) (f : Flow) (s' : Shared) : Prop := match f with
  | .ret v => ∃ h' tk' m' N', s' = c.at h' tk' ∧ Sa c m' N' h' ∧ P (.ret v) m' N'
  | .next => ∃ h' tk' m' N', s' = c.at h' tk' ∧ Sa c m' N' h' ∧ D m' N'
  | _ => False
theorem Aft.use {s' : Shared} {f : Flow} (y : Aft c P D f s') (hD : ∀ mi Ni, D mi Ni → Wk c mi Ni rest P) : match (generalizing := false) f with | .next => wpAny (model G.prog G.w) c.A (execs rest c.env) (Kf c P) No s' | f => Kf c P f s' := by
  cases f with
  | next => obtain ⟨h', tk', m', N', rfl, S, d⟩ := y; exact hD _ _ d h' tk' S
  | ret v => obtain ⟨h', tk', m', N', rfl, S, d⟩ := y; exact ⟨h', tk', m', N', rfl, S, d⟩
  | brk => exact y.elim
  | cont => exact y.elim
theorem Aft.turn {It : HP} {J : Nat → Lm → List HP → Prop} {i : Nat} {f : Flow} {s₃ : Shared} {R : Result → Shared → Prop} {Z : Prop} (hR : ∀ f s', Aft c P D f s' → R (.ok f) s') (y : Kf c (LoopP J i It P D) f s₃) (g : (∃ h' tk' m0 N0, s₃ = c.at h' tk' ∧ Sa c m0 (It :: N0) h' ∧ J i m0 N0) → Z) : match (generalizing := false) f with
    | .next | .cont => Z
    | .brk => R (.ok .next) s₃
    | .ret v => R (.ok (.ret v)) s₃ := by
  obtain ⟨h', tk', m', N', e, S, N0, e2, y⟩ := y
  subst e e2
  cases f with
  | ret v => exact hR _ _ ⟨h', tk', m', N0, rfl, S.unfact, y⟩
  | brk => exact hR _ _ ⟨h', tk', m', N0, rfl, S.unfact, y⟩
  | next => obtain ⟨m0, j, s⟩ := y; exact g ⟨h', tk', m0, N0, rfl, S.sub s, j⟩
  | cont => obtain ⟨m0, j, s⟩ := y; exact g ⟨h', tk', m0, N0, rfl, S.sub s, j⟩
theorem Sn.store {h : Heap} {tk : Nat} {v : Value} {k : AV} {Q : Unit → Shared → Prop} {E : Value → Shared → Prop} (S : Sa c m N h) (d : k.den v) (ok : localOk c.st x = true) (y : ∀ h' tk', Sa c ((x, k) :: m) N h' → (∀ b o, b ≠ c.L → h.get? b = some o → h'.get? b = some o) → Q () (c.at h' tk')) : wpAny (model G.prog G.w) c.A (storeName c.env x v) Q E (c.at h tk) := by
  simp only [localOk, Bool.and_eq_true, Bool.not_eq_true', beq_iff_eq] at ok
  obtain ⟨f, z, ls, ag, X⟩ := S
  refine wpAny_storeName_local (env := c.env) ok.1.2 X.F.ns (fun h'' hn hs => y h'' _ (.idleL (fun y u e => ?_) X (X.F.set hn hs) fun a o ha e => (hs.2 a ha).trans e) fun a o ha e => (hs.2 a ha).trans e) (by
    show (c.st.cs.kind == .class || (c.st.cs.kind == .module && c.L != mainGlobals)) = false
    rw [ok.1.1]; rfl)
  rw [lookup_cons y] at e
  by_cases q : y = x
  · rw [if_pos q] at e ⊢; cases e; exact ⟨v, rfl, d⟩
  · rw [if_neg q] at e ⊢; exact ag y u e
theorem Sa.notL {Φ : FP} {h : Heap} {own fr : List Addr} {Sti : Nat → Heap → Prop} {i : Nat} (S : Sa c m (ItH Φ own fr Sti i :: N) h) : c.L ∉ own ++ fr ∧ Sti i h := by
  obtain ⟨f, z, ls, ag, X⟩ := S
  have ok := X.own.ok
  cases ok with
  | cons r _ =>
    obtain ⟨_, rfl, p, f, q⟩ := r
    refine ⟨fun hm => ?_, q h X.own.zh fun _ _ _ e => e⟩
    rcases List.mem_append.mp hm with hm | hm
    · exact X.Ll (by rw [List.flatten_cons]; exact List.mem_append_left _ hm)
    · obtain ⟨o, e⟩ := f _ hm
      rw [X.Lz] at e; cases e
theorem loop1 {Φ : FP} {I : Addr} {own fr wr : List Addr} {n : Nat} {Pv : Nat → Value → Prop} {Sti : Nat → Heap → Prop} {px : Pos} {R : Result → Shared → Prop} (J : Nat → Lm → List HP → Prop) (kv : Nat → AV) (W : Walks G.prog G.w c.A I (own ++ fr) wr n Pv Sti) (hw : ∀ b ∈ wr, b ∈ own) (pr : ∀ i h, Sti i h → ∀ a ∈ own, ∃ o, h.get? a = some o) (hP : ∀ i v, Pv i v → (kv i).den v) (ok : localOk c.st x = true)
    (turn : ∀ i mi Ni, i < n → J i mi Ni → Wk c ((x, kv i) :: mi) (ItH Φ own fr Sti (i + 1) :: Ni) body (LoopP J (i + 1) (ItH Φ own fr Sti (i + 1)) P D)) (done : ∀ mi Ni, J n mi Ni → D mi Ni) (hR : ∀ f s', Aft c P D f s' → R (.ok f) s') {h : Heap} {tk : Nat} (S : Sa c m (ItH Φ own fr Sti 0 :: N) h) (j : J 0 m N) :
    codeAny (model G.prog G.w) c.A (.forLoop (.Name x px) (.ref I) body [] c.env) R (c.at h tk) := by
  refine codeAny_forLoop (fun k s' => ∃ h' tk mi Ni i, s' = c.at h' tk ∧ Sa c mi (ItH Φ own fr Sti i :: Ni) h' ∧ J i mi Ni ∧ i ≤ n ∧ k = n + 1 - i) ?_ (n + 1) ⟨h, tk, m, N, 0, rfl, S, j, Nat.zero_le _, rfl⟩
  rintro k s' ⟨h', tk, mi, Ni, i, rfl, S, j, hi, rfl⟩
  obtain ⟨hL, st⟩ := S.notL
  by_cases hlt : i < n
  · refine W.item i _ _ _ hlt st fun v h₁ tk₁ hPv st₁ hk₁ => ?_
    have S1 := S.turn W.frame pr st₁ hk₁ hw
    refine wpAny_assign_Name (Sn.store S1 (hP i v hPv) ok fun h₂ tk₂ S2 _ => ?_)
    refine wpAny_mono (turn i mi Ni hlt j h₂ tk₂ S2) (fun f s₃ y => Aft.turn hR y fun y => by
      obtain ⟨h4, tk4, m0, N0, e, S4, j4⟩ := y
      exact ⟨n + 1 - (i + 1), by omega, h4, tk4, m0, N0, i + 1, e, S4, j4, hlt, rfl⟩) fun _ _ y => y.elim
  · have hin : i = n := by omega
    subst hin
    refine W.done _ _ _ st fun h₁ tk₁ hk₁ => wpAny_execs_nil (hR _ _ ⟨h₁, tk₁, mi, Ni, rfl, ?_, done _ _ j⟩)
    exact S.over fun b o hb => hk₁ b o fun hm => hb (hw b hm)
theorem Wk.forR {px pr : Pos} (hf : Ev c m N (.Name x2 pr) (.val (Value.type "range"))) (ha : Xs c m N (e :: es) fun vs N' => ∃ (a : Int) (n : Nat), ((∃ t, a = 0 ∧ vs = [.int (n : Int) t]) ∨ ∃ t u, vs = [.int a t, .int (a + (n : Int)) u]) ∧ 0 ≤ a ∧ a ≤ 1000000 ∧ n ≤ 1000000 ∧ ∃ J : Nat → Lm → List HP → Prop, J 0 m N' ∧
      (∀ i mi Ni It, i < n → J i mi Ni → Wk c ((x, .int (a + (i : Int))) :: mi) (It :: Ni) body (LoopP J (i + 1) It P D)) ∧ ∀ mi Ni, J n mi Ni → D mi Ni)
    (hD : ∀ mi Ni, D mi Ni → Wk c mi Ni rest P) (ok : (localOk c.st x && (e :: es).all plainE) = true) : Wk c m N (.For (.Name x px) (.Call (.Name x2 pr) (e :: es) [] p) body [] pp :: rest) P := fun h tk S => by
  rw [Bool.and_eq_true, List.all_cons, Bool.and_eq_true] at ok
  refine wpAny_execs_cons (wpAny_For (Call_ (Ev.go hf S fun v h' tk' S' d => ?_)) fun _ => rfl)
  cases d
  refine PyProof.Rows.callWith_type1 (Xs.go ha S' fun vs h2 tk2 N2 S2 y => ?_) (star_plain ok.2.1) (plains ok.2.2)
  obtain ⟨a, n, hv, a0, a1, n1, J, j, turn, done⟩ := y
  have hn : Builtin.Range.rangeSize a (a + (n : Int)) 1 = n := by
    rw [rangeSize_one]; split <;> omega
  have hsm : Builtin.Range.small a (a + (n : Int)) 1 = true := small_one (by omega) (by omega) (by omega) (by omega)
  have go : ∀ r h3 tk3 t u v, Sa c m N2 h3 → IsRange h3 r a (a + (n : Int)) 1 t u v → wpAny (model G.prog G.w) c.A (pyIter (.ref r)) (fun it s₂ => codeAny (model G.prog G.w) c.A (.forLoop (.Name x px) it body [] c.env) (fun r s' => match r with | .ok f => (match f with | .next => wpAny (model G.prog G.w) c.A (execs rest c.env) (Kf c P) No s' | f => Kf c P f s') | .error e => cameBackBy (model G.prog G.w) c.A c.env No e s') s₂) No (c.at h3 tk3) := by
    intro r h3 tk3 t u v S3 hr
    refine wpAny_pyIter_range (s := c.at h3 tk3) hr hsm ?_
    refine loop1 (Φ := ⟨fun _ => True, fun _ _ => trivial⟩) (own := [h3.objs.size]) (fr := []) J (fun i => .int (a + (i : Int))) (Walks.range (c.d.rm.hh) h3.objs.size a 1 n) (fun _ h => h) (fun i h st a ha => by rw [List.mem_singleton.mp ha]; exact ⟨_, st⟩) (fun i v y => by obtain ⟨t, e⟩ := y; exact ⟨t, by rw [e, Int.mul_one]⟩) ok.1 (fun i mi Ni hi j => turn i mi Ni _ hi j) done (fun f s' y => Aft.use y hD) (h := h3.push _) (N := N2) ?_ j
    obtain ⟨f, z, ls, ag, X⟩ := S3
    refine .newL (f := f) ag X (fr_off X.F fun b o e => Heap.get?_push_of_some _ e) (fun b o _ e => Heap.get?_push_of_some _ e) (Heap.get?_none_of_le (Nat.le_refl _)) (ItH.mk (z := z) (fun b o e => Heap.get?_push_of_some _ (X.own.zh b o e)) ?_ (Walks.range (prog := G.prog) (w := G.w) (A := c.A) (c.d.rm.hh) h3.objs.size a 1 n).frame (fun a ha => by rw [List.mem_singleton.mp ha]; exact ⟨_, Heap.get?_push_size _ rfl⟩) (fun _ hb => nomatch hb) trivial)
    have : IsRangeIter (h3.push { cls := .type "range_iterator", data := .fields #[rawInt a, rawInt (Builtin.Range.rangeSize a (a + (n : Int)) 1), rawInt 1] }) h3.objs.size a n 1 := by
      rw [hn]; exact Heap.get?_push_size _ rfl
    simpa using this
  rcases hv with ⟨t, rfl, rfl⟩ | ⟨t, u, rfl⟩
  · exact call_range_1 (s := c.at h2 tk2) (go _ _ _ _ _ _ (S2.idle fun b o e => Heap.get?_push_of_some _ e) (by rw [Int.zero_add]; exact IsRange.new h2 0 n 1 tk2 t (tk2 + 1)))
  · exact call_range_2 (s := c.at h2 tk2) (go _ _ _ _ _ _ (S2.idle fun b o e => Heap.get?_push_of_some _ e) (IsRange.new ..))
theorem loop2 {Φ : FP} {I : Addr} {own fr wr : List Addr} {n : Nat} {Pt : Nat → Array Value → Prop} {Sti : Nat → Heap → Prop} {Mid : Nat → Addr → Heap → Prop} {kk : Nat} {pos : Pos} {R : Result → Shared → Prop} (J : Nat → Lm → List HP → Prop) (W : WalksU G.prog G.w c.A I (own ++ fr) wr n Pt Sti Mid) (hw : ∀ b ∈ wr, b ∈ own) (pr : ∀ i h, Sti i h → ∀ a ∈ own, ∃ o, h.get? a = some o) (ku kv : Nat → Value → AV) (hP : ∀ i vals, Pt i vals → ∃ u v, vals = #[u, v] ∧ (ku i u).den u ∧ (kv i v).den v) (ok : (localOk c.st x1 && localOk c.st x2) = true)
    (turn : ∀ i u v mi Ni, i < n → Pt i #[u, v] → J i mi Ni → Wk c ((x2, kv i v) :: (x1, ku i u) :: mi) (ItH Φ own fr Sti (i + 1) :: Ni) body (LoopP J (i + 1) (ItH Φ own fr Sti (i + 1)) P D)) (done : ∀ mi Ni, J n mi Ni → D mi Ni) (hR : ∀ f s', Aft c P D f s' → R (.ok f) s') {h : Heap} {tk : Nat} (S : Sa c m (ItH Φ own fr Sti 0 :: N) h) (j : J 0 m N) :
    codeAny (model G.prog G.w) c.A (.forLoop (.Tuple [.Name x1 p1, .Name x2 p2] kk pos) (.ref I) body [] c.env) R (c.at h tk) := by
  rw [Bool.and_eq_true] at ok
  refine codeAny_forLoop_any (fun k s' => ∃ h' tk mi Ni i, s' = c.at h' tk ∧ Sa c mi (ItH Φ own fr Sti i :: Ni) h' ∧ J i mi Ni ∧ i ≤ n ∧ k = n + 1 - i) ?_ (n + 1) ⟨h, tk, m, N, 0, rfl, S, j, Nat.zero_le _, rfl⟩
  rintro k s' ⟨h', tk, mi, Ni, i, rfl, S, j, hi, rfl⟩
  obtain ⟨hL, st⟩ := S.notL
  by_cases hlt : i < n
  · refine W.item i _ _ _ hlt st fun T vals h₁ tk₁ hPt hT₁ hM₁ hk₁ => ?_
    obtain ⟨u, v, rfl, du, dv⟩ := hP _ _ hPt
    refine W.go _ _ _ i T _ _ _ hM₁ fun h₂ st₂ hk₂ => ?_
    replace hk₂ : ∀ b o, b ∉ wr → h₁.get? b = some o → h₂.get? b = some o := hk₂
    have hT₂ : h₂.IsTuple T #[u, v] := hT₁.at fun o e => hk₂ _ _ (W.apart _ _ _ hM₁) e
    have S2 := S.turn W.frame pr st₂ (fun b o hb e => hk₂ b o hb (hk₁ b o hb e)) hw
    refine wpAny_assign_Tuple c.d.rm.hh hT₂ rfl rfl fun h₃ hx₃ => ?_
    have S3 := S2.idle (h' := h₃) fun b o e => hx₃ b o (Nat.ne_of_lt (Heap.lt_size e)) e
    show wpAny _ _ (do holding [v] (assign (.Name x1 p1) c.env u); do holding [] (assign (.Name x2 p2) c.env v); pure ()) _ _ _
    refine wpAny_bind (wpAny_holding (wpAny_assign_Name (Sn.store (k := ku i u) S3 du ok.1 fun h4 tk4 S4 _ => ?_)))
    refine wpAny_bind (wpAny_holding (wpAny_assign_Name (Sn.store (k := kv i v) S4 dv ok.2 fun h5 tk5 S5 _ => wpAny_pure ?_)))
    refine wpAny_mono (turn i u v mi Ni hlt hPt j h5 tk5 S5) (fun f s₃ y => Aft.turn hR y fun y => by
      obtain ⟨h4, tk4, m0, N0, e, S4, j4⟩ := y
      exact ⟨n + 1 - (i + 1), by omega, h4, tk4, m0, N0, i + 1, e, S4, j4, hlt, rfl⟩) fun _ _ y => y.elim
  · have hin : i = n := by omega
    subst hin
    refine W.done _ _ _ st fun h₁ tk₁ hk₁ => wpAny_execs_nil (hR _ _ ⟨h₁, tk₁, mi, Ni, rfl, ?_, done _ _ j⟩)
    exact S.over fun b o hb => hk₁ b o fun hm => hb (hw b hm)
theorem enum_pr {n l : Addr} {its : Array Value} {i : Nat} {h : Heap} (st : (∃ old, IsEnum h (n + 1) n i old) ∧ h.IsListIter n l (i : Nat) ∧ h.IsList l its) : ∀ a ∈ ([n + 1, n] : List Addr), ∃ o, h.get? a = some o := by
  obtain ⟨⟨_, q1⟩, ⟨_, q2, _⟩, _⟩ := st
  exact List.forall_mem_cons.mpr ⟨⟨_, q1⟩, List.forall_mem_cons.mpr ⟨⟨_, q2⟩, fun _ h => nomatch h⟩⟩
noncomputable def ZipSt (n : Nat) (l1 l2 : Addr) (xs ys : Array Value) (i : Nat) (h : Heap) : Prop := IsZip h (n + 4) (n + 2) (n + 3) .none ∧ IsPair h (n + 2) (.ref n) (.ref (n + 1)) ∧ (∃ a b, IsPair h (n + 3) a b) ∧ h.IsListIter n l1 i ∧ h.IsListIter (n + 1) l2 i ∧ h.IsList l1 xs ∧ h.IsList l2 ys
theorem zip_pr {n : Nat} {l1 l2 : Addr} {xs ys : Array Value} {i : Nat} {h : Heap} (st : ZipSt n l1 l2 xs ys i h) : ∀ a ∈ ([n + 4, n + 2, n + 3, n, n + 1] : List Addr), ∃ o, h.get? a = some o := by
  obtain ⟨q1, q2, ⟨_, _, q3⟩, ⟨_, q4, _⟩, ⟨_, q5, _⟩, _⟩ := st
  exact List.forall_mem_cons.mpr ⟨⟨_, q1⟩, List.forall_mem_cons.mpr ⟨⟨_, q2⟩, List.forall_mem_cons.mpr ⟨⟨_, q3⟩, List.forall_mem_cons.mpr ⟨⟨_, q4⟩, List.forall_mem_cons.mpr ⟨⟨_, q5⟩, fun _ h => nomatch h⟩⟩⟩⟩⟩
theorem mem_zip {n b : Nat} (h : b ∈ ([n + 4, n + 3, n, n + 1] : List Nat)) : b ∈ ([n + 4, n + 2, n + 3, n, n + 1] : List Nat) := by
  rcases List.mem_cons.mp h with rfl | h
  · exact .head _
  · exact .tail _ (.tail _ h)
theorem Wk.forE {α : Type} {R : ER α} {xs : List α} {l : Addr} {j : Nat} {kk : Nat} {pos pr pe : Pos} (J : Nat → Lm → List HP → Prop) (hf : Ev c m N (.Name x pr) (.val (Value.type "enumerate"))) (he : Ev c m N e (.ref l)) (hN : N[j]? = some (Ls true R l xs)) (j0 : J 0 m N)
    (turn : ∀ i v mi Ni It y, xs[i]? = some y → J i mi Ni → Wk c ((x2, .val v) :: (x1, .int (i : Int)) :: mi) (It :: Fact R v y :: Ni) body (LoopP J (i + 1) It P D)) (done : ∀ mi Ni, J xs.length mi Ni → D mi Ni)
    (hD : ∀ mi Ni, D mi Ni → Wk c mi Ni rest P) (ok : (localOk c.st x1 && localOk c.st x2 && plainE e) = true) : Wk c m N (.For (.Tuple [.Name x1 p1, .Name x2 p2] kk pos) (.Call (.Name x pr) [e] [] pe) body [] pp :: rest) P := fun h tk S => by
  rw [Bool.and_eq_true] at ok
  refine wpAny_execs_cons (wpAny_For (Call_ (Ev.go hf S fun v h' tk' S' d => ?_)) fun _ => rfl)
  cases d
  refine PyProof.Rows.callWith_type1 (args_cons (Ev.goR he S' fun h2 tk2 S2 => args_nil ?_) (star_plain ok.2)) (star_plain ok.2) rfl
  obtain ⟨f, z, ls, ag, X⟩ := S2
  obtain ⟨l', ⟨el, vs, n, g, q⟩, _⟩ := X.own.ok.get hN
  replace g : z.get? l = _ := g
  have g2 := X.own.zh _ _ g
  have hl : (c.at h2 tk2).heap.IsList l (List.toArray vs) := ⟨_, g2, rfl, n, rfl⟩
  have hlt : l < h2.objs.size := Heap.lt_size g2
  refine call_enumerate_list hl fun h3 hE hI hsz hk => ?_
  refine wpAny_pyIter_enum hE ?_
  have W := (WalksT.enumerate (prog := G.prog) (w := G.w) (A := c.A) c.d.rm.hh (h2.objs.size + 1) h2.objs.size l (Nat.succ_ne_self _) (Nat.ne_of_lt (Nat.lt_succ_of_lt hlt)) (Nat.ne_of_lt hlt) vs.toArray).toU
  have pr := fun i h => enum_pr (n := h2.objs.size) (l := l) (its := vs.toArray) (i := i) (h := h)
  have hsize : vs.toArray.size = xs.length := by rw [List.size_toArray, q.length]
  refine loop2 (Φ := ⟨fun z => All2 (R.r z) vs xs, fun h k => h.mono fun _ _ y => R.mono y k⟩) (own := [h2.objs.size + 1, h2.objs.size]) (fr := [l]) J W (fun _ h => h) pr (fun i _ => .int i) (fun _ v => .val v) (fun i vals y => by obtain ⟨t, x, _, e⟩ := y; exact ⟨_, _, e, ⟨t, rfl⟩, rfl⟩) ok.1 (fun i u v mi Ni hi hPt j => ?_) (fun mi Ni j => done mi Ni (hsize ▸ j)) (fun f s' y => Aft.use y hD) (h := h3) (N := N) ?_ j0
  · obtain ⟨t, x, hx, e⟩ := hPt
    simp only [Array.mk.injEq, List.cons.injEq, and_true] at e
    obtain ⟨rfl, rfl⟩ := e
    have hv : vs[i]? = some v := by simpa using hx
    have hlt2 : i < xs.length := by rw [← q.length]; exact (List.getElem?_eq_some_iff.mp hv).1
    intro h4 tk4 S4
    exact turn i v mi Ni _ _ (List.getElem?_eq_getElem hlt2) j h4 tk4 (Fact.new1 (fun z ls h O => by
      obtain ⟨_, w, _⟩ := O.ok.get (i := 0) rfl
      exact All2.ata w.1 i hv (List.getElem?_eq_getElem hlt2)) S4)
  · have st0 : (∃ old, IsEnum h3 (h2.objs.size + 1) h2.objs.size 0 old) ∧ h3.IsListIter h2.objs.size l (0 : Nat) ∧ h3.IsList l vs.toArray := ⟨⟨_, hE⟩, hI, hl.at fun o e => hk _ _ e⟩
    exact .newLs (f := f) (l := [h2.objs.size + 1, h2.objs.size]) ag X (fr_off X.F hk) (fun b o _ e => hk b o e) (List.forall_mem_cons.mpr ⟨Heap.get?_none_of_le (Nat.le_succ _), List.forall_mem_cons.mpr ⟨Heap.get?_none_of_le (Nat.le_refl _), fun _ h => nomatch h⟩⟩) (by simp) (ItH.mk (z := z) (fun b o e => hk b o (X.own.zh b o e)) st0 W.frame (pr 0 h3 st0) (fun b hb => by rw [List.mem_singleton.mp hb]; exact ⟨_, g⟩) q)
theorem Wk.forZ {α β : Type} {R1 : ER α} {R2 : ER β} {xs : List α} {ys : List β} {l1 l2 : Addr} {j1 j2 : Nat} {kk : Nat} {pos pr pe : Pos} (J : Nat → Lm → List HP → Prop) (hf : Ev c m N (.Name x pr) (.val (Value.type "zip"))) (hE1 : Ev c m N e1 (.ref l1)) (hE2 : Ev c m N e2 (.ref l2)) (hN1 : N[j1]? = some (Ls true R1 l1 xs)) (hN2 : N[j2]? = some (Ls true R2 l2 ys)) (hlen : xs.length = ys.length) (j0 : J 0 m N)
    (turn : ∀ i u v mi Ni It y1 y2, xs[i]? = some y1 → ys[i]? = some y2 → J i mi Ni → Wk c ((x2, .val v) :: (x1, .val u) :: mi) (It :: Fact R1 u y1 :: Fact R2 v y2 :: Ni) body (LoopP J (i + 1) It P D)) (done : ∀ mi Ni, J xs.length mi Ni → D mi Ni)
    (hD : ∀ mi Ni, D mi Ni → Wk c mi Ni rest P) (ok : (localOk c.st x1 && localOk c.st x2 && (plainE e1 && plainE e2)) = true) : Wk c m N (.For (.Tuple [.Name x1 p1, .Name x2 p2] kk pos) (.Call (.Name x pr) [e1, e2] [] pe) body [] pp :: rest) P := fun h tk S => by
  rw [Bool.and_eq_true, Bool.and_eq_true (a := plainE e1)] at ok
  refine wpAny_execs_cons (wpAny_For (Call_ (Ev.go hf S fun v h' tk' S' d => ?_)) fun _ => rfl)
  cases d
  refine PyProof.Rows.callWith_type1 (args_cons (Ev.goR hE1 S' fun h2' tk2' S2' => args_cons (Ev.goR hE2 S2' fun h2 tk2 S2 => args_nil ?_) (star_plain ok.2.2)) (star_plain ok.2.1)) (star_plain ok.2.1) (plains (by simp [ok.2.2]))
  obtain ⟨f, z, ls, ag, X⟩ := S2
  obtain ⟨la, ⟨ea, xv, na, g1, q1⟩, _⟩ := X.own.ok.get hN1
  obtain ⟨lb, ⟨eb, yv, nb, g2, q2⟩, _⟩ := X.own.ok.get hN2
  replace g1 : z.get? l1 = _ := g1
  replace g2 : z.get? l2 = _ := g2
  have a1 := X.own.zh _ _ g1
  have a2 := X.own.zh _ _ g2
  have hl1 : (c.at h2 tk2).heap.IsList l1 (List.toArray xv) := ⟨_, a1, rfl, na, rfl⟩
  have hl2 : (c.at h2 tk2).heap.IsList l2 (List.toArray yv) := ⟨_, a2, rfl, nb, rfl⟩
  have Dp : ZipApart (h2.objs.size + 4) (h2.objs.size + 2) (h2.objs.size + 3) h2.objs.size (h2.objs.size + 1) l1 l2 := ktu_apart _ _ _ (Heap.lt_size a1) (Heap.lt_size a2)
  refine call_zip_2 hl1 hl2 fun h3 hz hTI hTO hi1 hi2 hsz hk => ?_
  refine wpAny_pyIter_zip hz ?_
  have W := (WalksT.zip2 (prog := G.prog) (w := G.w) (A := c.A) c.d.rm.hh _ _ _ _ _ _ _ Dp xv.toArray yv.toArray).toU
  have st0 : ZipSt h2.objs.size l1 l2 xv.toArray yv.toArray 0 h3 := ⟨hz, hTI, ⟨_, _, hTO⟩, hi1, hi2, hl1.at fun o e => hk l1 o e, hl2.at fun o e => hk l2 o e⟩
  have new : ∀ a, h2.objs.size ≤ a → h2.get? a = none := fun a ha => Heap.get?_none_of_le ha
  have hmin : min xv.toArray.size yv.toArray.size = xs.length := by simp [q1.length, q2.length, hlen]
  refine loop2 (Φ := ⟨fun z => All2 (R1.r z) xv xs ∧ All2 (R2.r z) yv ys, fun h k => ⟨h.1.mono fun _ _ y => R1.mono y k, h.2.mono fun _ _ y => R2.mono y k⟩⟩) (own := [h2.objs.size + 4, h2.objs.size + 2, h2.objs.size + 3, h2.objs.size, h2.objs.size + 1]) (fr := [l1, l2]) J W (fun b hb => mem_zip hb) (fun i h st => zip_pr st) (fun _ v => .val v) (fun _ v => .val v) (fun i vals y => by obtain ⟨x, y, _, _, e⟩ := y; exact ⟨_, _, e, rfl, rfl⟩) ok.1 (fun i u v mi Ni hi hPt j => ?_) (fun mi Ni j => done mi Ni (hmin ▸ j)) (fun f s' y => Aft.use y hD) (h := h3) (N := N) ?_ j0
  · obtain ⟨x', y', hx, hy, e⟩ := hPt
    simp only [Array.mk.injEq, List.cons.injEq, and_true] at e
    obtain ⟨rfl, rfl⟩ := e
    have hu : xv[i]? = some u := by simpa using hx
    have hv : yv[i]? = some v := by simpa using hy
    have hlx : i < xs.length := by rw [← q1.length]; exact (List.getElem?_eq_some_iff.mp hu).1
    have hly : i < ys.length := by rw [← hlen]; exact hlx
    intro h4 tk4 S4
    refine turn i u v mi Ni _ _ _ (List.getElem?_eq_getElem hlx) (List.getElem?_eq_getElem hly) j h4 tk4 (Fact.new1 (fun z ls h O => ?_) (Fact.new1 (fun z ls h O => ?_) S4))
    · obtain ⟨_, w, _⟩ := O.ok.get (i := 0) rfl
      exact All2.ata w.1.1 i hu (List.getElem?_eq_getElem hlx)
    · obtain ⟨_, w, _⟩ := O.ok.get (i := 0) rfl
      exact All2.ata w.1.2 i hv (List.getElem?_eq_getElem hly)
  · exact .newLs (f := f) (l := [h2.objs.size + 4, h2.objs.size + 2, h2.objs.size + 3, h2.objs.size, h2.objs.size + 1]) ag X (fr_off X.F hk) (fun b o _ e => hk b o e) (List.forall_mem_cons.mpr ⟨new _ (Nat.le_add_right _ 4), List.forall_mem_cons.mpr ⟨new _ (Nat.le_add_right _ 2), List.forall_mem_cons.mpr ⟨new _ (Nat.le_add_right _ 3), List.forall_mem_cons.mpr ⟨new _ (Nat.le_refl _), List.forall_mem_cons.mpr ⟨new _ (Nat.le_succ _), fun _ h => nomatch h⟩⟩⟩⟩⟩) (by simp) (ItH.mk (z := z) (fun b o e => hk b o (X.own.zh b o e)) st0 W.frame (zip_pr st0) (List.forall_mem_cons.mpr ⟨⟨_, g1⟩, List.forall_mem_cons.mpr ⟨⟨_, g2⟩, fun _ h => nomatch h⟩⟩) ⟨q1, q2⟩)
theorem Wk.forX {px pr : Pos} (hf : Ev c m N (.Name x2 pr) (.val (Value.type "range"))) (he : Ex c m N e fun v N' => ∃ n : Nat, (AV.int n).den v ∧ n ≤ 1000000 ∧ ∃ J : Nat → Lm → List HP → Prop, J 0 m N' ∧
      (∀ i mi Ni It, i < n → J i mi Ni → Wk c ((x, .int (i : Int)) :: mi) (It :: Ni) body (LoopP J (i + 1) It P D)) ∧ ∀ mi Ni, J n mi Ni → D mi Ni)
    (hD : ∀ mi Ni, D mi Ni → Wk c mi Ni rest P) (ok : (localOk c.st x && plainE e) = true) : Wk c m N (.For (.Name x px) (.Call (.Name x2 pr) [e] [] p) body [] pp :: rest) P := by
  rw [Bool.and_eq_true] at ok
  refine .forR hf (.cons (he.mono fun v N1 ⟨n, ⟨t, e1⟩, hn, J, j, turn, done⟩ => .nil ⟨0, n, .inl ⟨t, rfl, by rw [e1]⟩, by decide, by decide, hn, J, j, fun i mi Ni It hi y => ?_, done⟩) ok.2) hD (by simp [ok.1, ok.2])
  rw [Int.zero_add]; exact turn i mi Ni It hi y
end
section
variable {G : Gx} {rn : Nat} {c : Fx G rn} {m m' : Lm} {N N' N1 : List HP} {e e1 e2 e3 : PySem.Expr} {es : List PySem.Expr} {k k1 k2 : AV} {ks : List AV} {x x2 : Str} {p p' p2 : Pos} {K K' : Value → List HP → Prop} {P P' : Flow → Lm → List HP → Prop} {rest body b1 b2 : List Stmt} {t : Sem Value}
theorem Tx.andN {KB : Bool → List HP → Prop} (y : KB true N) : Tx c m N (.BoolOp .And [] p) KB := fun h tk S => isTrue_and_nil ⟨h, tk, N, rfl, S, y⟩
theorem Tx.orN {KB : Bool → List HP → Prop} (y : KB false N) : Tx c m N (.BoolOp .Or [] p) KB := fun h tk S => isTrue_or_nil ⟨h, tk, N, rfl, S, y⟩
theorem Tx.and {KB : Bool → List HP → Prop} (h1 : Tx c m N e fun b N1 => cond b (Tx c m N1 (.BoolOp .And es p) KB) (KB false N1)) : Tx c m N (.BoolOp .And (e :: es) p) KB := fun h tk S =>
  isTrue_and (Tx.go h1 S fun b h' tk' N' S' y => by
    cases b
    · exact ⟨h', tk', N', rfl, S', y⟩
    · exact y h' tk' S')
theorem Tx.or {KB : Bool → List HP → Prop} (h1 : Tx c m N e fun b N1 => cond b (KB true N1) (Tx c m N1 (.BoolOp .Or es p) KB)) : Tx c m N (.BoolOp .Or (e :: es) p) KB := fun h tk S =>
  isTrue_or (Tx.go h1 S fun b h' tk' N' S' y => by
    cases b
    · exact y h' tk' S'
    · exact ⟨h', tk', N', rfl, S', y⟩)
theorem Et.and2 {a b : Bool} (h1 : Et c m N e1 a) (h2 : Et c m N e2 b) : Et c m N (.BoolOp .And [e1, e2] p) (a && b) :=
  Tx.and (Tx.of h1 (by
    cases a
    · exact ⟨rfl, rfl⟩
    · exact Tx.and (Tx.of h2 (by
        cases b
        · exact ⟨rfl, rfl⟩
        · exact Tx.andN ⟨rfl, rfl⟩))))
theorem Ex.ite (ht : Tx c m N e fun b N1 => cond b (Ex c m N1 e1 K) (Ex c m N1 e2 K)) : Ex c m N (.IfExp e e1 e2 p) K := fun h tk S =>
  wpAny_IfExp (Tx.go ht S fun b h' tk' N' S' y => by cases b <;> exact y h' tk' S')
theorem Ev.ite {b : Bool} (ht : Et c m N e b) (h1 : b = true → Ev c m N e1 k) (h2 : b = false → Ev c m N e2 k) : Ev c m N (.IfExp e e1 e2 p) k :=
  Ex.ite (Tx.of ht (by cases b <;> simp_all [Ev]))
theorem Ev.min {i j : Int} (hf : Ev c m N (.Name x p') (.val (Value.builtin "min"))) (h1 : Ev c m N e1 (.int i)) (h2 : Ev c m N e2 (.int j)) (hp : (plainE e1 && plainE e2) = true) : Ev c m N (.Call (.Name x p') [e1, e2] [] p) (.int (if j < i then j else i)) := by
  rw [Bool.and_eq_true] at hp
  refine Ex.callB hf (Xs.cons (h1.use fun v d => .cons (h2.use fun w d2 => .nil fun h tk S => ?_) hp.2) hp.1) (by simp [hp.1, hp.2])
  obtain ⟨t, rfl⟩ := d
  obtain ⟨u, rfl⟩ := d2
  refine min_two_ints (s := c.at h tk) c.d.rm.hh fun h' tk' hk => ?_
  refine ⟨h', tk', N, rfl, S.idle hk, rfl, ?_⟩
  split
  · exact ⟨_, rfl⟩
  · exact ⟨_, rfl⟩
end
theorem agree_of : ∀ {names : List Str} {args : List AV} {vs : List Value} {f0 : Str → Option Value} {m0 : Lm}, All2 AV.den args vs → Agr m0 f0 → Agr ((names.zip args).reverse ++ m0) (fun y => ((names.zip vs).reverse.lookup y).or (f0 y))
  | [], _, _, _, _, _, h => fun x k e => h x k e
  | _ :: _, _, _, _, _, .nil, h => fun x k e => h x k e
  | n :: names, a :: args, v :: vs, f0, m0, .cons r y, h => by
    have e1 : ((n :: names).zip (a :: args)).reverse ++ m0 = (names.zip args).reverse ++ ((n, a) :: m0) := by simp
    have e2 : (fun y => (((n :: names).zip (v :: vs)).reverse.lookup y).or (f0 y)) = fun y => ((names.zip vs).reverse.lookup y).or (if y = n then some v else f0 y) := by
      funext y
      rw [List.zip_cons_cons, List.reverse_cons, List.lookup_append, Option.or_assoc]
      congr 1
      by_cases q : y = n
      · subst q; simp [List.lookup]
      · rw [if_neg q, List.lookup_cons, beq_false_of_ne q]; rfl
    rw [e1, e2]
    refine agree_of y fun z k e => ?_
    rw [lookup_cons z] at e
    by_cases q : z = n
    · rw [if_pos q] at e ⊢; cases e; exact ⟨v, rfl, r⟩
    · rw [if_neg q] at e ⊢; exact h z k e
noncomputable def Leave (Q : Value → List HP → Prop) (f : Flow) (_ : Lm) (N : List HP) : Prop := Q (match f with | .ret v => v | _ => .none) N
theorem fst_base {G : Gx} {z : Heap} {ls : List (List Addr)} {N : List HP} {h : Heap} (hz : G.hb.StaysIn z) (O : Own z ls N h) : (HD.KK G.w.params).In h ∧ TopRead G.p G.loose G.mg G.mb h := by
  have st : G.hb.StaysIn h := fun b o e => O.zh b o (hz b o e)
  exact ⟨G.X.keeps st, G.T.keeps st⟩
theorem Tr.enter {G : Gx} {n : Nat} {name qual : Str} {params : Arguments} {body : List Stmt} {scope : Scope} {dV kV doc pm cdv ct oc : Value} {an od : Option Addr} {osl : Array (Option Value)} {f : Addr} {args : List AV} {N : List HP} {Q : Value → List HP → Prop} (names : List Str)
    (ho : (HD.KK G.w.params).lookup f = some ⟨oc, od, .func (fnOf name qual params body scope dV kV doc pm an cdv ct), osl⟩) (hcd : codeIn (HD.KK G.w.params) cdv qual = true)
    (hbind : ∀ s vs, (HD.KK G.w.params).In s.heap → All2 AV.den args vs → BindsTo s (fnOf name qual params body scope dV kV doc pm an cdv ct) ⟨vs, []⟩ (names.zip vs))
    (ok : (names.all (fun x => scope.names.lookup x == some .local) && scope.names.all (fun x => x.2 != .cell) && !scope.isCoroutine && !scope.isGenerator && scope.kind == .function) = true)
    (h : ∀ d : Fd G n, Wk ⟨⟨qual, scope, f, cdv, fun _ => []⟩, d⟩ (names.zip args).reverse N body (Leave Q)) : Tr G (n + 1) (.ref f) args N Q := fun A s z ls vs rm hz hs O ha => by
  simp only [Bool.and_eq_true, Bool.not_eq_true', beq_iff_eq] at ok
  obtain ⟨X, T⟩ := fst_base hz O
  refine wpAny_call ?_
  refine codeAny_call_def (fd := fnOf name qual params body scope dV kV doc pm an cdv ct) (body := body) (binds := names.zip vs) rm.lt (X _ _ ho) rfl T.nolimit (codeRec_of X hcd) rfl (hbind s vs X ha) (fun x hx => by simpa using List.all_eq_true.mp ok.1.1.1.2 x hx) (fun y hy => by simpa using List.all_eq_true.mp ok.1.1.1.1 y.1 (List.of_mem_zip (show (y.1, y.2) ∈ _ from hy)).1) (fun h₁ hns hk₁ => ?_) ok.1.1.2 ok.1.2 ok.2
  have hL : s.heap.get? s.heap.objs.size = none := Heap.get?_none_of_le (Nat.le_refl _)
  have zL : z.get? s.heap.objs.size = none := by
    cases e : z.get? s.heap.objs.size with
    | none => rfl
    | some o => rw [O.zh _ _ e] at hL; cases hL
  refine wpAny_mono (h ⟨A.deeper _, rm.deeper _, s, z, ls.flatten, hz, s.heap.objs.size, Nat.le_refl _⟩ h₁ _ ⟨_, z, ls, (List.append_nil _ ▸ agree_of (f0 := fun _ => none) (m0 := []) ha fun _ _ e => nomatch e : Agr _ _), ⟨⟨by simpa using hns, fun b o e => hk₁ b o (O.zh b o (hz b o e)), hs⟩, ⟨fun b o e => hk₁ b o (O.zh b o e), O.ok.move (fun _ _ e => e) fun a _ o e => hk₁ a o e, O.nd, O.off⟩, ⟨fun _ _ e => e, fun b o e _ => hk₁ b o e, fun _ x => x.imp id .inl⟩, fun hm => ?_, zL⟩⟩) (fun fl s' y => ?_) fun _ _ y => y.elim
  · obtain ⟨o, e⟩ := O.ok.has _ hm
    exact absurd (Heap.lt_size e) (Nat.lt_irrefl _)
  · obtain ⟨h', tk', m', N', e, ⟨f', z', ls', ag, X'⟩, q⟩ := y
    subst e
    exact ⟨h', tk', z', ls', N', rfl, X'.own, X'.mv, q⟩
noncomputable def baseE : PySem.Expr → Bool
  | .Call .. => false
  | _ => true
theorem attributeE {value : PySem.Expr} {attr : Str} {pos : Pos} {env : Env} (hb : baseE value = true) : eval (.Attribute value attr pos) env = (do
      let o ← eval value env
      standAt pos.atName
      let r ← holding [o] (getAttr o attr true)
      letTemporaryGo value o r
      pure r) := by
  cases value <;> first | rfl | cases hb
noncomputable def methOk (o : PySem.Expr) (apos pos : Pos) (args : List PySem.Expr) : Bool := baseE o && args.all plainE && decide (args.length < 30) && apos.endLine == pos.line
theorem methodE {o : PySem.Expr} {nm : Str} {apos pos : Pos} {args : List PySem.Expr} {env : Env} (ok : methOk o apos pos args = true) : ∃ pl, eval (.Call (.Attribute o nm apos) args [] pos) env = (do
      let ov ← eval o env
      standAt apos.atName
      let (f, first) ← holding [ov] (getMethod ov nm pl)
      callWith pos f first (backTo pos (starEach args env)) []) := by
  unfold methOk at ok
  simp only [Bool.and_eq_true, decide_eq_true_eq] at ok
  obtain ⟨⟨⟨hb, hp⟩, hl⟩, he⟩ := ok
  have hf : methodCallForm (args.length + 0) (backTo pos (starEach args env)) [] = true := by
    have h1 := plains (env := env) (pos := pos) hp
    unfold methodCallForm
    have h2 : (backTo pos (starEach args env)).all (!·.1) = true := by rw [List.all_eq_not_any_not]; simpa using h1
    rw [h2]
    simpa using hl
  have e0 : eval (.Call (.Attribute o nm apos) args [] pos) env = (do
      let ov ← eval o env
      standAt apos.atName
      methodCall o nm apos pos env ov (args.length + 0) (backTo pos (starEach args env)) []) := by
    cases o <;> first | rfl | cases hb
  have e1 : ∀ ov, methodCall o nm apos pos env ov (args.length + 0) (backTo pos (starEach args env)) [] = (do
      let (f, first) ← holding [ov] (getMethod ov nm (do return (← importBound o env).getD true))
      callWith pos f first (backTo pos (starEach args env)) []) := fun ov => by
    unfold methodCall
    rw [hf]
    unfold calleeOf methodCallPos
    rw [he]
    rfl
  refine ⟨(do return (← importBound o env).getD true), e0.trans ?_⟩
  simp only [e1]
noncomputable def attrOk (K : Frag) (C : Addr) (nm : Str) : Bool := plainGet K C nm && hasDictIn K C && (match findIn K (.ref C) nm with | some attr => noGet K attr | none => false)
section
variable {G : Gx} {rn : Nat} {c : Fx G rn} {m m' : Lm} {N N' N1 : List HP} {e e0 e1 e2 o : PySem.Expr} {es args : List PySem.Expr} {k k1 k2 : AV} {ks : List AV} {x x2 nm : Str} {p p' pa pos : Pos} {K K' : Value → List HP → Prop} {P P' : Flow → Lm → List HP → Prop} {rest body b1 b2 : List Stmt} {t : Sem Value} {a C f : Addr} {i j : Nat} {Q Q' : HP}
theorem Sa.open {β : Type} {Q : HP} {Q' : β → HP} {φ : β → Prop} {h : Heap} {j : Nat} (S : Sa c m N h) (hj : N[j]? = some Q) (H : ∀ l z h, Q.ok l z h → ∃ b, φ b ∧ (Q' b).ok l z h) : ∃ b, φ b ∧ Sa c m (N.set j (Q' b)) h := by
  obtain ⟨z, ls1, _, _, O, k⟩ := S.go (mkAt j)
  rw [pick_at j N hj] at O
  obtain ⟨l, rfl, ok⟩ := O.one
  obtain ⟨b, hb, ok'⟩ := H l z h ok
  refine ⟨b, hb, ?_⟩
  rw [← merge_at j N (List.getElem?_eq_some_iff.mp hj).1]
  exact k (z' := z) (ls1' := [l]) ⟨O.zh, .cons ok' .nil, O.nd, O.off⟩ .rfl'
theorem Wk.open {β : Type} {Q : HP} {Q' : β → HP} {φ : β → Prop} (j : Nat) (hj : N[j]? = some Q) (H : ∀ l z h, Q.ok l z h → ∃ b, φ b ∧ (Q' b).ok l z h) (hw : ∀ b, φ b → Wk c m (N.set j (Q' b)) rest P) : Wk c m N rest P := fun h tk S => by
  obtain ⟨b, hb, S'⟩ := S.open hj H
  exact hw b hb h tk S'
theorem Sm.open {β : Type} {Q : HP} {Q' : β → HP} {φ : β → Prop} (j : Nat) (hj : N[j]? = some Q) (H : ∀ l z h, Q.ok l z h → ∃ b, φ b ∧ (Q' b).ok l z h) (hw : ∀ b, φ b → Sm c m (N.set j (Q' b)) t K) : Sm c m N t K := fun h tk S => by
  obtain ⟨b, hb, S'⟩ := S.open hj H
  exact hw b hb h tk S'
theorem Ev.attrH (hx : Ev c m N e (.ref a)) (hN : N[i]? = some Q) (I : ∀ l z h, z.StaysIn h → Q.ok l z h → ∃ ox es n v, InstAt h a ox C (some (dictOf es n)) ∧ getL nm es = some (some v) ∧ handedIn v = true ∧ k.den v) (ok : (attrOk G.K C nm && baseE e) = true) : Ev c m N (.Attribute e nm p) k := fun h tk S => by
  rw [Bool.and_eq_true] at ok
  obtain ⟨hk, hb⟩ := ok
  unfold attrOk at hk
  simp only [Bool.and_eq_true] at hk
  cases hf : findIn G.K (.ref C) nm with
  | none => rw [hf] at hk; exact absurd hk.2 Bool.false_ne_true
  | some attr =>
    rw [hf] at hk
    refine Attribute_any_ (Ev.goR hx S fun h' tk' S' => ?_) (attributeE hb)
    obtain ⟨z, l, zh, ok⟩ := S'.get hN
    obtain ⟨ox, es, n, v, hI, hl, hv, d⟩ := I l z h' zh ok
    obtain ⟨_, F, _⟩ := S'.fr
    exact get_own (s := c.at h' tk') F G.X hI hk.1.1 hk.1.2 hf hk.2 hl hv ⟨h', _, _, rfl, S', rfl, d⟩
noncomputable def callOk (K : Frag) (C : Addr) (nm : Str) (f : Addr) : Bool := plainGet K C nm && isFn K (.ref f) && keepIn K (.ref f) && (findIn K (.ref C) nm == some (some (.ref f)))
theorem Ex.meth (ho : Ev c m N o (.ref a)) (hN : N[i]? = some Q) (I : ∀ l z h, z.StaysIn h → Q.ok l z h → ∃ ox es n, InstAt h a ox C (some (dictOf es n)) ∧ getL nm es = some none) (ha : Xs c m N (e :: args) fun vs N' => Sm c m N' (PySem.call (.ref f) (.ref a :: vs)) K) (ok : (callOk G.K C nm f && methOk o pa p (e :: args)) = true) : Ex c m N (.Call (.Attribute o nm pa) (e :: args) [] p) K := fun h tk S => by
  rw [Bool.and_eq_true] at ok
  obtain ⟨hk, hm⟩ := ok
  obtain ⟨pl, he⟩ := methodE (nm := nm) (env := c.env) hm
  unfold callOk at hk
  unfold methOk at hm
  simp only [Bool.and_eq_true, beq_iff_eq, List.all_cons] at hk hm
  refine MethodCall_ (Ev.goR ho S fun h' tk' S' => ?_) he
  obtain ⟨z, l, zh, ok⟩ := S'.get hN
  obtain ⟨ox, es, n, hI, hl⟩ := I l z h' zh ok
  obtain ⟨_, F, _⟩ := S'.fr
  refine method_inst (s := c.at h' tk') F G.X hI hk.1.1.1 hk.2 hk.1.1.2 hl (callWith_K (s := c.at h' tk') G.X hk.1.2 (Xs.go ha S' fun vs h2 tk2 N2 S2 y => by
    obtain ⟨_, F, _⟩ := S2.fr
    exact ⟨G.X.keeps F.keep, y h2 tk2 S2⟩) (star_plain hm.1.1.2.1) (plains hm.1.1.2.2))
theorem Ex.meth0 (ho : Ev c m N o (.ref a)) (hN : N[i]? = some Q) (I : ∀ l z h, z.StaysIn h → Q.ok l z h → ∃ ox es n, InstAt h a ox C (some (dictOf es n)) ∧ getL nm es = some none) (ha : Sm c m N (PySem.call (.ref f) [.ref a]) K) (ok : (callOk G.K C nm f && methOk o pa p []) = true) : Ex c m N (.Call (.Attribute o nm pa) [] [] p) K := fun h tk S => by
  rw [Bool.and_eq_true] at ok
  obtain ⟨hk, hm⟩ := ok
  obtain ⟨pl, he⟩ := methodE (nm := nm) (env := c.env) hm
  unfold callOk at hk
  simp only [Bool.and_eq_true, beq_iff_eq] at hk
  refine MethodCall_ (Ev.goR ho S fun h' tk' S' => ?_) he
  obtain ⟨z, l, zh, ok⟩ := S'.get hN
  obtain ⟨ox, es, n, hI, hl⟩ := I l z h' zh ok
  obtain ⟨_, F, _⟩ := S'.fr
  exact method_inst (s := c.at h' tk') F G.X hI hk.1.1.1 hk.2 hk.1.1.2 hl (callWith_K0 (s := c.at h' tk') (first := [.ref a]) (G.X.keeps F.keep) hk.1.2 (ha h' tk' S'))
theorem Ex.stored (ho : Ev c m N o (.ref a)) (hN : N[i]? = some Q) (I : ∀ l z h, z.StaysIn h → Q.ok l z h → FnAt f h ∧ ∃ ox es n, InstAt h a ox C (some (dictOf es n)) ∧ getL nm es = some (some (.ref f))) (ha : Xs c m N (e :: args) fun vs N' => (∀ h, Sa c m N' h → FnAt f h) ∧ Sm c m N' (PySem.call (.ref f) vs) K) (ok : (attrOk G.K C nm && (findIn G.K (.ref C) nm == some none) && methOk o pa p (e :: args)) = true) : Ex c m N (.Call (.Attribute o nm pa) (e :: args) [] p) K := fun h tk S => by
  rw [Bool.and_eq_true, Bool.and_eq_true, beq_iff_eq] at ok
  obtain ⟨⟨hk, hf⟩, hm⟩ := ok
  obtain ⟨pl, he⟩ := methodE (nm := nm) (env := c.env) hm
  unfold attrOk at hk
  unfold methOk at hm
  rw [hf] at hk
  simp only [Bool.and_eq_true, List.all_cons] at hk hm
  refine MethodCall_ (Ev.goR ho S fun h' tk' S' => ?_) he
  obtain ⟨z, l, zh, ok⟩ := S'.get hN
  obtain ⟨fn, ox, es, n, hI, hl⟩ := I l z h' zh ok
  obtain ⟨_, F, _⟩ := S'.fr
  exact kmu_own (s := c.at h' tk') F G.X hI hk.1.1 hf (get_own (s := c.at h' tk') F G.X hI hk.1.1 hk.1.2 hf hk.2 hl rfl (callWith_F (s := c.at h' (tk' + 1)) fn (Xs.go ha S' fun vs h2 tk2 N2 S2 y => ⟨y.1 h2 S2, y.2 h2 tk2 S2⟩) (star_plain hm.1.1.2.1) (plains hm.1.1.2.2)))
theorem StI.putL {f : Str → Option Value} {z h : Heap} {ls : List (List Addr)} (X : StI c f z ls N h) (hj : N[j]? = some Q) : ∃ l, Q.ok l z h ∧ (∀ a ∈ l, z.get? a = none ∧ a ≠ c.L) ∧ l.Nodup ∧ ∀ {h' : Heap} {Q' : HP}, Fr G.hb c.L h' f → (∀ b o, b ≠ c.L → b ∉ l → h.get? b = some o → h'.get? b = some o) → Q'.ok l z h' → ∃ ls', StI c f z ls' (N.set j Q') h' := by
  obtain ⟨ls1, O, hL, k⟩ := X.go (mkAt j)
  rw [pick_at j N hj] at O
  obtain ⟨l, rfl, ok⟩ := O.one
  have off : ∀ a ∈ l, z.get? a = none := fun a q => O.off a (by simpa using q)
  have hLl : c.L ∉ l := fun q => hL (by simpa using q)
  refine ⟨l, ok, fun a ha => ⟨off a ha, fun e => hLl (e ▸ ha)⟩, by simpa using O.nd, fun {h' Q'} F' hk ok' => ?_⟩
  have zh : z.StaysIn h' := fun b o e => hk b o (fun q => by rw [q, X.Lz] at e; cases e) (fun q => by rw [off b q] at e; cases e) (O.zh b o e)
  obtain ⟨ls', X'⟩ := k (f' := f) (z' := z) (ls1' := [l]) (N1' := [Q']) (h' := h') F' ⟨zh, .cons ok' .nil, O.nd, O.off⟩ ⟨fun _ _ e => e, fun b o e q => hk b o (fun y => q (y ▸ .head _)) (fun y => q (List.mem_cons_of_mem _ (by simpa using y))) e, fun a q => q.imp id fun y => .inl (List.mem_cons_of_mem _ y)⟩ hL X.Lz
  rw [merge_at j N (List.getElem?_eq_some_iff.mp hj).1] at X'
  exact ⟨ls', X'⟩
theorem Sa.upd {h : Heap} {d : Addr} (S : Sa c m N h) (hj : N[j]? = some Q) (H : ∀ l z, Q.ok l z h → d ∈ l) : ∃ f Rs o, Fr G.hb c.L h f ∧ News G.hb c.L h ((d, o) :: Rs) ∧ (∀ p ∈ Rs, p.1 ≠ d) ∧ h.get? d = some o ∧ ∀ {h' : Heap} {o' : Obj} {Q' : HP}, Fr G.hb c.L h' f → News G.hb c.L h' ((d, o') :: Rs) →
    (∀ l z, Q.ok l z h → z.StaysIn h → (∀ a ∈ l, a ≠ c.L) → (∀ b ob, b ≠ c.L → b ≠ d → h.get? b = some ob → h'.get? b = some ob) → h'.get? d = some o' → Q'.ok l z h') → Sa c m (N.set j Q') h' := by
  obtain ⟨f, z, ls, ag, X⟩ := S
  obtain ⟨l, ok, off, _, put⟩ := X.putL hj
  have hd := H l z ok
  obtain ⟨o, e⟩ := Q.has ok d hd
  have g0 : G.hb.get? d = none := by
    cases e2 : G.hb.get? d with
    | none => rfl
    | some o2 => have := X.mv.zz _ _ (c.d.hz _ _ e2); rw [(off d hd).1] at this; cases this
  obtain ⟨Rs, N0, of, hs⟩ := Mine.snap X.F [(d, o)] fun q hq => by rw [List.mem_singleton.mp hq]; exact ⟨e, (off d hd).2, g0⟩
  refine ⟨f, Rs, o, X.F, N0, fun p hp q => of _ (.head _) p hp q, e, fun {h' o' Q'} F' N' H' => ?_⟩
  · have key : ∀ b ob, b ≠ c.L → b ≠ d → h.get? b = some ob → h'.get? b = some ob := fun b ob hb hd e => (hs b ob e hb fun q hq => by rw [List.mem_singleton.mp hq]; exact fun z => hd z.symm).elim (F'.keep b ob) fun z => (N' _ (.tail _ z)).1
    obtain ⟨ls', X'⟩ := put F' (fun b ob hL hb e => key b ob hL (fun z => hb (z ▸ hd)) e) (H' l z ok X.own.zh (fun a ha => (off a ha).2) key (N' _ (.head _)).1)
    exact ⟨f, z, ls', ag, X'⟩
theorem putL_len {hh : Int} {key v : Value} : ∀ es : List DictEntry, (putL nm hh key v es).length ≤ es.length + 1
  | [] => Nat.le_refl _
  | e :: r => by
    unfold putL
    split
    · exact Nat.le_succ _
    · exact Nat.succ_le_succ (putL_len r)
theorem Wk.conv (j : Nat) (hj : N[j]? = some Q) (H : ∀ z ls h l, Own z ls N h → l.Nodup → Q.ok l z h → Q'.ok l z h) (hw : Wk c m (N.set j Q') rest P) : Wk c m N rest P := fun h tk S => by
  obtain ⟨f, z, ls, ag, X⟩ := S
  obtain ⟨l, ok, _, nd, put⟩ := X.putL hj
  obtain ⟨ls', X'⟩ := put X.F (fun _ _ _ _ e => e) (H z ls h l X.own nd ok)
  exact hw h tk ⟨f, z, ls', ag, X'⟩
theorem Wk.setAttrG (hx : Ex c m N e fun v N1 => Ev c m N1 o (.ref a) ∧ ∃ (Q Q' : HP) (es : List DictEntry) (dx : Addr) (n : Nat), N1[j]? = some Q ∧ (∀ l z h, Q.ok l z h → dx ∈ l ∧ h.get? a = some (instObj C dx) ∧ h.get? dx = some (dictOf es n)) ∧ (getL nm es).isSome = true ∧ es.length ≤ 900 ∧ (∀ l z h h' tk, Q.ok l z h → (∀ b ∈ l, b ≠ dx → ∀ ob, h.get? b = some ob → h'.get? b = some ob) → h'.get? dx = some (dictOf (putL nm (PyData.keyHash G.w.params nm) (.str nm tk) v es) (putN nm es n)) → Q'.ok l z h') ∧ Wk c m (N1.set j Q') rest P)
    (hp : (findIn G.K (.ref C) "__setattr__" == some (some (.builtin "object.__setattr__")) && plainOver G.K C && (takerIn G.K C nm == some none) && hasDictIn G.K C) = true) (hs : swapsWith e (some (.Attribute o nm pa)) p.line c.env = pure false) : Wk c m N (.Assign [.Attribute o nm pa] e p :: rest) P := fun h tk S => by
  simp only [Bool.and_eq_true, beq_iff_eq] at hp
  refine wpAny_execs_cons (plainObj_wpAny_Assign_Attribute (Sm.go hx S fun v h1 tk1 N1 S1 y => ?_) hs)
  obtain ⟨ho, Q, Q', es, dx, n, hj, I, hg, hz, put, hw⟩ := y
  refine Ev.goR ho S1 fun h2 tk2 S2 => ?_
  obtain ⟨f, Rs, ob, F, N0, off, e, up⟩ := S2.upd (d := dx) hj fun l z ok => (I l z _ ok).1
  obtain ⟨z, l, zh, ok⟩ := S2.get hj
  obtain ⟨_, i1, i2⟩ := I l z _ ok
  obtain rfl : ob = dictOf es n := Option.some.inj (e.symm.trans i2)
  exact set_dict (s := c.at h2 tk2) F G.X N0 ⟨i1, rfl, rfl, i2⟩ rfl hp.1.1.1 hp.1.1.2 hp.1.2 hp.2 hg rfl (.head off) (Nat.le_trans (putL_len _) (by omega)) fun h' F' N' => hw h' _ (up F' N' fun l z ok zh hL hk e' => put l z h2 h' _ ok (fun b hb hd ob e => hk b ob (hL b hb) hd e) e')
theorem Wk.setAttr (hx : Ex c m N e fun v N1 => Ev c m N1 o (.ref a) ∧ ∃ (Q Q' : HP) (es : List DictEntry) (dx : Addr) (n : Nat), N1[j]? = some Q ∧ (∀ l z h, Q.ok l z h → dx ∈ l ∧ h.get? a = some (instObj C dx) ∧ h.get? dx = some (dictOf es n)) ∧ es.any (·.key.isStr nm) = true ∧ es.length ≤ 900 ∧ (∀ l z h h' tk es', putL nm (PyData.keyHash G.w.params nm) (.str nm tk) v es = es' → Q.ok l z h → (∀ b ∈ l, b ≠ dx → ∀ ob, h.get? b = some ob → h'.get? b = some ob) → h'.get? dx = some (dictOf es' n) → Q'.ok l z h') ∧ Wk c m (N1.set j Q') rest P)
    (hp : (findIn G.K (.ref C) "__setattr__" == some (some (.builtin "object.__setattr__")) && plainOver G.K C && (takerIn G.K C nm == some none) && hasDictIn G.K C) = true) (hs : swapsWith e (some (.Attribute o nm pa)) p.line c.env = pure false) : Wk c m N (.Assign [.Attribute o nm pa] e p :: rest) P :=
  .setAttrG (hx.mono fun v N1 y => by
    obtain ⟨ho, Q, Q', es, dx, n, hj, I, hl, hz, put, hw⟩ := y
    have hg : (getL nm es).isSome = true := by
      unfold getL
      cases q : es.find? (·.key.isStr nm) with
      | none =>
        obtain ⟨y, hy, hy2⟩ := List.any_eq_true.mp hl
        exact absurd hy2 (List.find?_eq_none.mp q y hy)
      | some y => rfl
    refine ⟨ho, Q, Q', es, dx, n, hj, I, hg, hz, fun l z h h' tk ok hk e' => ?_, hw⟩
    rw [show putN nm es n = n by unfold putN; rw [if_pos hl]] at e'
    exact put l z h h' tk _ rfl ok hk e') hp hs
end
local macro_rules | `(tactic| walk_at "sl:fn") => `(tactic| exact Ev.glob (k := .val _) rfl (by kernel_rfl) rfl)
local macro_rules | `(tactic| walk_at "sl:bi") => `(tactic| exact Ev.built rfl rfl (by decide) (by kernel_rfl))
local macro_rules | `(tactic| walk_at "sl:ev") => `(tactic| first
  | exact Ev.int
  | exact Ev.str
  | exact Ev.loc rfl (by kernel_rfl)
  | (refine' Ev.add ?_ ?_ <;> walk_at "sl:ev")
  | (refine' Ev.sub ?_ ?_ <;> walk_at "sl:ev"))
theorem Room.make {n : Nat} {A : Around} (r : Room (n + 1) A) (C : Addr) (vals : List Value) : Room n (A.under (.builtin "type.__call__" ⟨.ref C :: vals, []⟩)) := by
  obtain ⟨a, b, c⟩ := r
  refine ⟨a, ?_, ?_⟩
  · show A.depth + 1 + n < 900; omega
  · show A.units + 1 + 12 * n < 9000; omega
noncomputable def EntD (P : Params) (e : DictEntry) (p : Str × AV) : Prop := ∃ t v, e = ⟨PyData.keyHash P p.1, .str p.1 t, v⟩ ∧ p.2.den v
noncomputable def NewX (C x d : Addr) (des : List DictEntry) : HP := ⟨fun l _ h => l = [x, d] ∧ h.get? x = some (instObj C d) ∧ h.get? d = some (dictOf des des.length), fun y _ kh => ⟨y.1, kh x (y.1 ▸ .head _) _ y.2.1, kh d (y.1 ▸ .tail _ (.head _)) _ y.2.2⟩, fun y a ha => by
  rw [y.1] at ha
  rcases List.mem_cons.mp ha with rfl | ha
  · exact ⟨_, y.2.1⟩
  · exact List.mem_singleton.mp ha ▸ ⟨_, y.2.2⟩⟩
noncomputable def NewO (G : Gx) (C x : Addr) (es : Lm) : HP := ⟨fun l z h => ∃ b : Addr × List DictEntry, All2 (EntD G.w.params) b.2 es ∧ (NewX C x b.1 b.2).ok l z h, fun y kz kh => by
  obtain ⟨b, a, y⟩ := y
  exact ⟨b, a, (NewX C x b.1 b.2).mono y kz kh⟩, fun y => by
  obtain ⟨b, a, y⟩ := y
  exact (NewX C x b.1 b.2).has y⟩
theorem entD_miss {P : Params} {nm : Str} : ∀ {des : List DictEntry} {es : Lm}, All2 (EntD P) des es → es.lookup nm = none → des.find? (·.key.isStr nm) = none ∧ des.any (·.refKey) = false ∧ des.any (·.key.isStr nm) = false ∧ ∀ h k v, putL nm h k v des = des ++ [⟨h, k, v⟩]
  | _, _, .nil, _ => ⟨rfl, rfl, rfl, fun _ _ _ => rfl⟩
  | _, (x, k) :: es, .cons r y, hl => by
    obtain ⟨t, v, rfl, d⟩ := r
    have hne : (nm == x) = false := by
      cases e : nm == x with
      | false => rfl
      | true => rw [List.lookup, e] at hl; cases hl
    rw [List.lookup, hne] at hl
    obtain ⟨a, b, c, d⟩ := entD_miss y hl
    have hs : (Value.str x t).isStr nm = false := by
      show (x == nm) = false
      exact beq_false_of_ne fun q => absurd (beq_self_eq_true nm) (by rw [q] at hne; rw [hne]; exact Bool.false_ne_true)
    refine ⟨?_, ?_, ?_, fun hh kk vv => ?_⟩
    · rw [List.find?, hs]; exact a
    · rw [List.any_cons, b]; rfl
    · rw [List.any_cons, c, hs]; rfl
    · rw [putL, hs, d]; rfl
section
variable {G : Gx} {rn : Nat} {c : Fx G rn} {m m' : Lm} {N N' N1 : List HP} {e e0 e1 e2 o : PySem.Expr} {es args : List PySem.Expr} {k k1 k2 : AV} {ks : List AV} {x x2 nm : Str} {p p' pa pos : Pos} {K K' : Value → List HP → Prop} {P P' : Flow → Lm → List HP → Prop} {rest body b1 b2 : List Stmt} {t : Sem Value} {a C f xo : Addr} {i j : Nat} {Q Q' : HP}
theorem Wk.setNew (hx : Ex c m N e fun v N1 => ∃ es k, N1[j]? = some (NewO G C xo es) ∧ es.lookup nm = none ∧ es.length ≤ 20 ∧ k.den v ∧ Wk c m (N1.set j (NewO G C xo (es ++ [(nm, k)]))) rest P) (ho : ∀ N, Ev c m N o (.ref xo))
    (hp : (findIn G.K (.ref C) "__setattr__" == some (some (.builtin "object.__setattr__")) && plainOver G.K C && (takerIn G.K C nm == some none) && hasDictIn G.K C) = true) (hs : swapsWith e (some (.Attribute o nm pa)) p.line c.env = pure false) : Wk c m N (.Assign [.Attribute o nm pa] e p :: rest) P :=
  Wk.setAttrG (C := C) (a := xo) (j := j) (Sm.post hx fun v N' h y S => by
    obtain ⟨es, k, hj, hn, hl, d, hw⟩ := y
    obtain ⟨b, hb, S'⟩ := S.open (φ := fun b : Addr × List DictEntry => All2 (EntD G.w.params) b.2 es) (Q' := fun b => NewX C xo b.1 b.2) hj fun l z h y => by
      obtain ⟨b, a, y⟩ := y
      exact ⟨b, a, y⟩
    obtain ⟨m1, m2, m3, m4⟩ := entD_miss hb hn
    refine ⟨_, S', ho _, NewX C xo b.1 b.2, NewO G C xo (es ++ [(nm, k)]), b.2, b.1, b.2.length, by rw [List.getElem?_set_self (List.getElem?_eq_some_iff.mp hj).1], fun l z h y => ⟨y.1 ▸ .tail _ (.head _), y.2⟩, by unfold getL; rw [m1, m2]; rfl, by rw [hb.length]; omega, fun l z h h' tk y hk e' => ?_, by rw [List.set_set]; exact hw⟩
    rw [m4, show putN nm b.2 b.2.length = b.2.length + 1 by unfold putN; rw [m3]; rfl] at e'
    refine ⟨(b.1, _), hb.append (.cons ⟨tk, v, rfl, d⟩ .nil), y.1, hk _ (y.1 ▸ .head _) (fun q => ?_) _ y.2.1, by rw [List.length_append]; exact e'⟩
    have := y.2.1
    rw [q, y.2.2] at this
    have := congrArg Obj.cls (Option.some.inj this)
    cases this) hp hs
end
noncomputable def LeaveN (Q : Value → List HP → Prop) (x : Addr) (f : Flow) (_ : Lm) (N : List HP) : Prop := (match f with | .ret v => v | _ => .none) = .none ∧ Q (.ref x) N
theorem Tr.make {G : Gx} {n : Nat} {name qual : Str} {params : Arguments} {body : List Stmt} {scope : Scope} {dV kV doc pm cdv ct oc : Value} {an od : Option Addr} {osl : Array (Option Value)} {f C : Addr} {args dks : List AV} {ds : List Value} {N : List HP} {Q : Value → List HP → Prop} (names : List Str)
    (hmk : makesIn (HD.KK G.w.params) C = true) (hi : findIn (HD.KK G.w.params) (.ref C) "__init__" = some (some (.ref f))) (hf : typeIn (HD.KK G.w.params) (.ref f) = some (.type "function"))
    (ho : (HD.KK G.w.params).lookup f = some ⟨oc, od, .func (fnOf name qual params body scope dV kV doc pm an cdv ct), osl⟩) (hcd : codeIn (HD.KK G.w.params) cdv qual = true) (hd : All2 AV.den dks ds)
    (hbind : ∀ s vs x, (HD.KK G.w.params).In s.heap → All2 AV.den args vs → BindsTo s (fnOf name qual params body scope dV kV doc pm an cdv ct) ⟨.ref x :: vs, []⟩ (names.zip (.ref x :: (vs ++ ds))))
    (ok : (names.all (fun x => scope.names.lookup x == some .local) && scope.names.all (fun x => x.2 != .cell) && !scope.isCoroutine && !scope.isGenerator && scope.kind == .function) = true)
    (h : ∀ (d : Fd G n) x, Wk ⟨⟨qual, scope, f, cdv, fun _ => []⟩, d⟩ (names.zip (.ref x :: (args ++ dks))).reverse (NewO G C x [] :: N) body (LeaveN Q x)) : Tr G (n + 2) (.ref C) args N Q := fun A s z ls vs rm hz hs O ha => by
  simp only [Bool.and_eq_true, Bool.not_eq_true', beq_iff_eq] at ok
  obtain ⟨X, T⟩ := fst_base hz O
  refine wpAny_call (make_core (makes_of X hmk) (looks_findIn X hi) (fun self => bind_fn X self hf) (.inl rfl) ?_)
  have k : ∀ b o, s.heap.get? b = some o → ((s.heap.push (dictOf [] 0)).push (instObj C s.heap.objs.size)).get? b = some o := fun b o e => Heap.get?_push_of_some _ (Heap.get?_push_of_some _ e)
  have hsz : ((s.heap.push (dictOf [] 0)).push (instObj C s.heap.objs.size)).objs.size = s.heap.objs.size + 2 := by rw [Heap.size_push, Heap.size_push]
  have hx : ((s.heap.push (dictOf [] 0)).push (instObj C s.heap.objs.size)).get? (s.heap.objs.size + 1) = some (instObj C s.heap.objs.size) := by
    have := Heap.get?_push_size (s.heap.push (dictOf [] 0)) (o := instObj C s.heap.objs.size) rfl
    rwa [Heap.size_push] at this
  have hdx : ((s.heap.push (dictOf [] 0)).push (instObj C s.heap.objs.size)).get? s.heap.objs.size = some (dictOf [] 0) := Heap.get?_push_of_some _ (Heap.get?_push_size _ rfl)
  generalize (s.heap.push (dictOf [] 0)).push (instObj C s.heap.objs.size) = h2 at *
  have new : ∀ a, s.heap.objs.size ≤ a → s.heap.get? a = none := fun a ha => Heap.get?_none_of_le ha
  have newz : ∀ a, s.heap.objs.size ≤ a → z.get? a = none := fun a ha => by
    cases e : z.get? a with
    | none => rfl
    | some o => have := new a ha; rw [O.zh _ _ e] at this; cases this
  have two : ∀ a ∈ [s.heap.objs.size + 1, s.heap.objs.size], s.heap.objs.size ≤ a ∧ a < s.heap.objs.size + 2 := fun a ha => by
    rcases List.mem_cons.mp ha with rfl | ha
    · exact ⟨Nat.le_succ _, Nat.lt_succ_self _⟩
    · exact List.mem_singleton.mp ha ▸ ⟨Nat.le_refl _, Nat.lt_succ_of_lt (Nat.lt_succ_self _)⟩
  have st : G.hb.StaysIn s.heap := fun b o e => O.zh b o (hz b o e)
  have X2 : (HD.KK G.w.params).In h2 := X.keeps k
  refine codeAny_call_def (fd := fnOf name qual params body scope dV kV doc pm an cdv ct) (body := body) (binds := names.zip (.ref (s.heap.objs.size + 1) :: (vs ++ ds))) (rm.make C vs).lt (X2 _ _ ho) rfl (T.keeps k).nolimit (codeRec_of X2 hcd) rfl (hbind _ _ _ X2 ha) (fun x hx => by simpa using List.all_eq_true.mp ok.1.1.1.2 x hx) (fun y hy => by simpa using List.all_eq_true.mp ok.1.1.1.1 y.1 (List.of_mem_zip (show (y.1, y.2) ∈ _ from hy)).1) (fun h₁ hns hk₁ => ?_) ok.1.1.2 ok.1.2 ok.2
  have kk : ∀ b o, s.heap.get? b = some o → h₁.get? b = some o := fun b o e => hk₁ b o (k b o e)
  have hle : s.heap.objs.size ≤ h2.objs.size := by rw [hsz]; exact Nat.le_add_right _ 2
  have own : Own z ([s.heap.objs.size + 1, s.heap.objs.size] :: ls) (NewO G C (s.heap.objs.size + 1) [] :: N) h₁ := by
    refine ⟨fun b o e => kk b o (O.zh b o e), .cons ⟨(s.heap.objs.size, []), .nil, rfl, hk₁ _ _ hx, hk₁ _ _ hdx⟩ (O.ok.move (fun _ _ e => e) fun a _ o e => kk a o e), ?_, fun a ha => ?_⟩
    · rw [List.flatten_cons]
      refine List.nodup_append.mpr ⟨List.nodup_cons.mpr ⟨fun q => absurd (List.mem_singleton.mp q) (Nat.ne_of_gt (Nat.lt_succ_self _)), List.nodup_cons.mpr ⟨nofun, List.nodup_nil⟩⟩, O.nd, fun a ha b hb e => ?_⟩
      obtain ⟨o, q⟩ := O.ok.has b hb
      have := new a (two a ha).1
      rw [e, q] at this; cases this
    · rw [List.flatten_cons] at ha
      rcases List.mem_append.mp ha with ha | ha
      · exact newz a (two a ha).1
      · exact O.off a ha
  refine wpAny_mono (h ⟨_, (rm.make C vs).deeper _, s, z, ls.flatten, hz, h2.objs.size, hle⟩ (s.heap.objs.size + 1) h₁ _ ⟨_, z, _, (List.append_nil _ ▸ agree_of (f0 := fun _ => none) (m0 := []) (All2.cons (show AV.den (.ref (s.heap.objs.size + 1)) (.ref (s.heap.objs.size + 1)) from rfl) (ha.append hd)) fun _ _ e => nomatch e : Agr _ _), ⟨⟨by simpa using hns, fun b o e => kk b o (st b o e), Nat.le_trans hs hle⟩, own, ⟨fun _ _ e => e, fun b o e _ => kk b o e, fun a q => ?_⟩, fun hm => ?_, newz _ hle⟩⟩) (fun fl s' y => ?_) fun _ _ y => y.elim
  · rcases q with q | q
    · exact .inl q
    · rw [List.flatten_cons] at q
      rcases List.mem_append.mp q with q | q
      · exact .inr (.inr (new a (two a q).1))
      · exact .inr (.inl q)
  · replace hm : h2.objs.size ∈ _ := hm
    rw [hsz, List.flatten_cons] at hm
    rcases List.mem_append.mp hm with hm | hm
    · exact absurd (two _ hm).2 (Nat.lt_irrefl _)
    · obtain ⟨o, e⟩ := O.ok.has _ hm
      have := new _ (Nat.le_add_right s.heap.objs.size 2)
      rw [e] at this; cases this
  · obtain ⟨h', tk', m', N', e, ⟨f', z', ls', ag, X'⟩, e2, q⟩ := y
    subst e
    exact ⟨e2, h', tk', z', ls', N', rfl, X'.own, X'.mv, q⟩
noncomputable def HP.ex {β : Type} (φ : β → Prop) (Q : β → HP) : HP := ⟨fun l z h => ∃ b, φ b ∧ (Q b).ok l z h, fun y kz kh => by
  obtain ⟨b, hb, y⟩ := y
  exact ⟨b, hb, (Q b).mono y kz kh⟩, fun y => by
  obtain ⟨b, hb, y⟩ := y
  exact (Q b).has y⟩
noncomputable def HP.star (P Q : HP) : HP := ⟨fun l z h => ∃ l1 l2, l = l1 ++ l2 ∧ P.ok l1 z h ∧ Q.ok l2 z h, fun y kz kh => by
  obtain ⟨l1, l2, e, y1, y2⟩ := y
  subst e
  exact ⟨l1, l2, rfl, P.mono y1 kz fun a ha => kh a (List.mem_append_left _ ha), Q.mono y2 kz fun a ha => kh a (List.mem_append_right _ ha)⟩, fun y a ha => by
  obtain ⟨l1, l2, e, y1, y2⟩ := y
  subst e
  exact (List.mem_append.mp ha).elim (P.has y1 a) (Q.has y2 a)⟩
theorem Ent.ex {β : Type} {φ : β → Prop} {Q : β → HP} {b : β} (hb : φ b) : Ent [Q b] [.ex φ Q] := fun z ls h O => by
  obtain ⟨l, rfl, ok⟩ := O.one
  exact ⟨z, [l], ⟨O.zh, .cons ⟨b, hb, ok⟩ .nil, O.nd, O.off⟩, .rfl'⟩
theorem Own.two {z h : Heap} {ls : List (List Addr)} {P Q : HP} (O : Own z ls [P, Q] h) : ∃ l1 l2, ls = [l1, l2] ∧ P.ok l1 z h ∧ Q.ok l2 z h := by
  have ok := O.ok
  cases ok with | cons r1 ok => cases ok with | cons r2 ok =>
  cases ok
  exact ⟨_, _, rfl, r1, r2⟩
theorem Ent.star {P Q : HP} : Ent [P, Q] [.star P Q] := fun z ls h O => by
  obtain ⟨l1, l2, rfl, r1, r2⟩ := O.two
  have e : [l1 ++ l2].flatten = [l1, l2].flatten := by simp
  exact ⟨z, [l1 ++ l2], ⟨O.zh, .cons ⟨l1, l2, rfl, r1, r2⟩ .nil, e ▸ O.nd, e ▸ O.off⟩, e ▸ .rfl'⟩
theorem Ent.starR {P Q : HP} : Ent [P, Q] [.star Q P] := fun z ls h O => by
  obtain ⟨ls', p, O'⟩ := O.perm (List.Perm.swap Q P [])
  obtain ⟨z', ls2, O2, M⟩ := Ent.star z ls' h O'
  exact ⟨z', ls2, O2, M.left (perm_flat p.symm)⟩
theorem Ent.swap {P Q : HP} : Ent [P, Q] [Q, P] := fun z ls h O => by
  obtain ⟨ls', p, O'⟩ := O.perm (List.Perm.swap Q P [])
  exact ⟨z, ls', O', fun _ _ e => e, fun b o e _ => e, fun a q => q.imp id fun q => .inl (perm_flat p.symm a q)⟩
theorem Ent.unstar {P Q : HP} : Ent [.star P Q] [P, Q] := fun z ls h O => by
  obtain ⟨l, rfl, l1, l2, rfl, r1, r2⟩ := O.one
  have e : [l1, l2].flatten = [l1 ++ l2].flatten := by simp
  exact ⟨z, [l1, l2], ⟨O.zh, .cons r1 (.cons r2 .nil), e ▸ O.nd, e ▸ O.off⟩, e ▸ .rfl'⟩
theorem Ent.imp {Q Q' : HP} (H : ∀ l z h, Q.ok l z h → Q'.ok l z h) : Ent [Q] [Q'] := fun z ls h O => by
  obtain ⟨l, rfl, ok⟩ := O.one
  exact ⟨z, [l], ⟨O.zh, .cons (H l z h ok) .nil, O.nd, O.off⟩, .rfl'⟩
theorem intsAre {z : Heap} {vs : List Value} {ns : List Int} (h : All2 (eInt.r z) vs ns) : IntsAre vs ns := by
  induction h with
  | nil => exact .nil
  | cons r _ ih =>
    obtain ⟨t, e⟩ := r
    exact e ▸ .cons _ t ih
theorem str_item {prog : Program} {w : World} {A : Around} {s : Shared} {E : Value → Shared → Prop} {value slice : PySem.Expr} {d : Addr} {o : Obj} {kvs : List (Str × Value)} {k : Str} {v : Value} {t : Tok} {Q : Value → Shared → Prop} (e : s.heap.get? d = some o) (hd : o.IsDictOf (strKind prog w) kvs) (hv : valueAt kvs k = some v) (h : Q v { s with toks := s.toks + 1 })
    (hs : subscripted slice false (.ref d) (.str k t) = operate [.ref d, .str k t] (getItem (.ref d) (.str k t))) : wpAny (model prog w) A (subscriptTail value slice (.ref d) (.str k t)) Q E s := by
  have H : s.heap.MapOf (strKind prog w) d (valueAt kvs) := (Heap.dictOf_iff.mpr ⟨o, e, hd⟩ : s.heap.DictOf (strKind prog w) d kvs).mapOf
  exact tail_any H.typeIs slot_dict_getitem.lookup (wpAny_getItem_of (strKind_is prog w k t) H hv h) hs
theorem listOf_inj {a b : List Value} {n m : Nat} (h : some (listOf a.toArray n) = some (listOf b.toArray m)) : a = b := by
  have e2 := congrArg Obj.data (Option.some.inj h)
  injection e2 with e3
  simpa using e3
noncomputable def PairD (q : Str × Value) (p : Str × AV) : Prop := q.1 = p.1 ∧ p.2.den q.2
noncomputable def DctS (G : Gx) (d : Addr) (kvs : Lm) : HP := ⟨fun l _ h => l = [d] ∧ (d == sysModules) = false ∧ ∃ o vs, h.get? d = some o ∧ o.IsDictOf (strKind G.prog G.w) vs ∧ All2 PairD vs kvs, fun y _ kh => by
  obtain ⟨e, lo, o, vs, g, r⟩ := y
  exact ⟨e, lo, o, vs, kh d (e ▸ .head _) _ g, r⟩, fun y a ha => by
  obtain ⟨e, _, o, _, g, _⟩ := y
  rw [e] at ha; exact List.mem_singleton.mp ha ▸ ⟨_, g⟩⟩
theorem pairs_inv {vs : List (Str × Value)} {x : Str} {k : AV} {r : Lm} (h : All2 PairD vs ((x, k) :: r)) : ∃ v r', vs = (x, v) :: r' ∧ k.den v ∧ All2 PairD r' r := by
  cases h with | @cons q _ _ _ a y =>
  obtain ⟨q1, q2⟩ := q
  obtain ⟨e, d⟩ := a
  dsimp only at e d
  subst e
  exact ⟨q2, _, rfl, d, y⟩
theorem Su.mono {G : Gx} {rn : Nat} {c : Fx G rn} {m : Lm} {N : List HP} {t : Sem Unit} {K K' : List HP → Prop} (h : Su c m N t K) (hk : ∀ N', K N' → K' N') : Su c m N t K' := fun h1 tk S => wpAny_mono (h h1 tk S) (fun _ s1 y => by
  obtain ⟨h', tk', N', e, S', y⟩ := y
  exact ⟨h', tk', N', e, S', hk _ y⟩) fun _ _ y => y
noncomputable def valT : PySem.Expr → Bool
  | .UnaryOp .. => false
  | .BoolOp .. => false
  | .IfExp .. => false
  | .Compare .. => false
  | _ => true
section
variable {G : Gx} {rn : Nat} {c : Fx G rn} {m m' : Lm} {N N' N1 : List HP} {e e0 e1 e2 e3 o iter elt : PySem.Expr} {es args : List PySem.Expr} {k k1 k2 : AV} {ks : List AV} {x x2 nm : Str} {p p' p1 p2 p3 p4 pa pb pc pe pos : Pos} {K K' : Value → List HP → Prop} {P P' : Flow → Lm → List HP → Prop} {D : Lm → List HP → Prop} {rest body b1 b2 : List Stmt} {t : Sem Value} {a d C f : Addr} {i j n : Nat} {Q Q' : HP} {b : Bool} {α : Type} {R : ER α} {fz fz2 : Bool}
theorem Fx.un64 (c : Fx G rn) : c.A.units + 64 < cLine := by
  have := c.d.rm.un
  show c.d.A.units + 64 < _
  rw [cLine_is]; omega
theorem Sm.cmpInts {xs ys : List Int} {a2 : Addr} (op : CmpOp) (hop : op = .Eq ∨ op = .NotEq) (ha : N[i]? = some (Ls fz eInt a xs)) (hb : N[j]? = some (Ls fz2 eInt a2 ys)) {r : Bool} (hr : (decide (xs = ys) == (op == .Eq)) = r) (hk : K (.bool r) N) : Sm c m N (compareOp op (.ref a) (.ref a2)) K := fun h tk S => by
  obtain ⟨f, z, ls, ag, X⟩ := id S
  obtain ⟨vs, n, g1, y1⟩ := X.own.list ha
  obtain ⟨ws, n2, g2, y2⟩ := X.own.list hb
  have l1 : (c.at h tk).heap.IsList a (List.toArray vs) := ⟨_, g1, rfl, n, rfl⟩
  have l2 : (c.at h tk).heap.IsList a2 (List.toArray ws) := ⟨_, g2, rfl, n2, rfl⟩
  subst hr
  rcases hop with rfl | rfl
  · refine ke_eq_ints l1 l2 (intsAre y1) (intsAre y2) c.un64 (.mk S ?_)
    have : (decide (xs = ys) == ((.Eq : CmpOp) == .Eq)) = decide (xs = ys) := by cases decide (xs = ys) <;> rfl
    rw [← this]; exact hk
  · refine ke_ne_ints l1 l2 (intsAre y1) (intsAre y2) c.un64 (.mk S ?_)
    have : (decide (xs = ys) == ((.NotEq : CmpOp) == .Eq)) = !decide (xs = ys) := by cases decide (xs = ys) <;> rfl
    rw [← this]; exact hk
theorem Tx.val {KB : Bool → List HP → Prop} (h : Ex c m N e fun v N' => ∃ b, v = .bool b ∧ KB b N') (ok : valT e = true) : Tx c m N e KB := fun h1 tk S => wpAny_isTrue_value (Sm.go h S fun v h' tk' N' S' y => by
  obtain ⟨b, e, y⟩ := y
  subst e
  exact wpAny_truthy_bool ⟨h', tk', N', rfl, S', y⟩) (by
    cases e <;> first | rfl | cases ok)
theorem Et.val (h : Ev c m N e (.bool b)) (ok : valT e = true) : Et c m N e b := Tx.val (h.use fun v d => ⟨b, d, rfl, rfl⟩) ok
theorem Tx.not {KB : Bool → List HP → Prop} (h : Tx c m N e fun b N' => KB (!b) N') : Tx c m N (.UnaryOp .Not e p) KB := fun h1 tk S => wpAny_isTrue_Not (Tx.go h S fun b h' tk' N' S' y => ⟨h', tk', N', rfl, S', y⟩)
theorem Wk.skip (ht : Tx c m N e fun b N' => b = false ∧ Wk c m N' rest P) : Wk c m N (.If e b1 [] p :: rest) P := fun h tk S =>
  wpAny_execs_cons (wpAny_If (Tx.go ht S fun b h' tk' N' S' y => by
    obtain ⟨eb, y⟩ := y
    subst eb
    exact wpAny_execs_nil (y h' tk' S')))
theorem Wk.into (ht : Tx c m N e fun b N' => b = true ∧ Wk c m N' b1 fun f m' N' => f ≠ .next ∧ P f m' N') : Wk c m N (.If e b1 b2 p :: rest) P := fun h tk S =>
  wpAny_execs_cons (wpAny_If (Tx.go ht S fun b h' tk' N' S' y => by
    obtain ⟨eb, y⟩ := y
    subst eb
    exact Wk.go y S' fun f h2 tk2 m2 N2 S2 y => by
      obtain ⟨hf, y⟩ := y
      cases f <;> first | exact absurd rfl hf | exact ⟨h2, tk2, m2, N2, rfl, S2, y⟩))
theorem Ex.methB {id : String} (ho : Ev c m N e (.ref a)) (gm : ∀ h tk pl Q', Sa c m N h → Q' (.builtin id, [.ref a]) (c.at h tk) → wpAny (model G.prog G.w) c.A (getMethod (.ref a) nm pl) Q' No (c.at h tk)) (ha : Xs c m N (e1 :: args) fun vs N' => Sm c m N' (PySem.call (.builtin id) (.ref a :: vs)) K) (ok : methOk e pa p (e1 :: args) = true) : Ex c m N (.Call (.Attribute e nm pa) (e1 :: args) [] p) K := fun h tk S => by
  obtain ⟨pl, he⟩ := methodE (nm := nm) (env := c.env) ok
  unfold methOk at ok
  simp only [Bool.and_eq_true, List.all_cons] at ok
  exact MethodCall_ (Ev.goR ho S fun h' tk' S' => gm h' tk' pl _ S' (callWith_method1 (first := [.ref a]) (Xs.go ha S' fun vs h2 tk2 N2 S2 y => y h2 tk2 S2) (star_plain ok.1.1.2.1) (plains ok.1.1.2.2))) he
theorem Ev.getH {v0 v1 w : Int} (h1 : Ev c m N e (.ref a)) (h2 : Ev c m N e1 (.int v0)) (h3 : Ev c m N e2 (.int v1)) (hN : N[i]? = some Q) (I : ∀ l z h, z.StaysIn h → Q.ok l z h → ∃ D, TabAt (intKind G.prog G.w) PyData.int h a D ∧ (PySem.Spec.lookup (.int v0) D).getD (.int v1) = .int w) (ok : methOk e pa p [e1, e2] = true) : Ev c m N (.Call (.Attribute e "get" pa) [e1, e2] [] p) (.int w) := by
  have ok' := ok
  unfold methOk at ok'
  simp only [Bool.and_eq_true, List.all_cons] at ok'
  refine .methB (id := "dict.get") h1 (fun h tk pl Q' S y => ?_) (.cons (h2.use fun w1 d1 => .cons (h3.use fun w2 d2 => .nil fun h tk S => ?_) ok'.1.1.2.2.1) ok'.1.1.2.1) ok
  · obtain ⟨z, l, zh, x⟩ := S.get hN
    obtain ⟨D, T, _⟩ := I l z h zh x
    exact getMethod_intTab_get (s := c.at h tk) T y
  · obtain ⟨t, rfl⟩ := d1
    obtain ⟨u, rfl⟩ := d2
    obtain ⟨z, l, zh, x⟩ := S.get hN
    obtain ⟨D, T, e⟩ := I l z h zh x
    refine call_get2_intTab (s := c.at h tk) T (.int v1 u) fun v hv => ⟨h, _, N, rfl, S, rfl, ?_⟩
    rw [e] at hv
    have r := hv h
    cases r
    exact ⟨_, rfl⟩
theorem Ev.dct {kvs : Lm} {s : Str} (h1 : Ev c m N e (.ref d)) (hN : N[i]? = some (DctS G d kvs)) (hv : ∀ vs, All2 PairD vs kvs → ∃ v, valueAt vs s = some v ∧ k.den v) (hs : ∀ u, subscripted (.Constant (.str s) 0 p1) false (.ref d) (.str s u) = operate [.ref d, .str s u] (getItem (.ref d) (.str s u))) : Ev c m N (.Subscript e (.Constant (.str s) 0 p1) p) k := fun h tk S =>
  Subscript_ (Ev.goR h1 S fun h' tk' S' => PySem.Calls.Constant_str (by
    obtain ⟨z, l, zh, _, lo, o, vs, g, hd, y⟩ := S'.get hN
    obtain ⟨v, hv, dv⟩ := hv vs y
    exact str_item (s := { c.at h' tk' with toks := tk' + 1 }) g hd hv ⟨h', _, N, rfl, S', rfl, dv⟩ (hs _)))
theorem Su.dct {kvs kvs' : Lm} {s : Str} {v : Value} {u : Tok} (hN : N[j]? = some (DctS G d kvs)) (hv : ∀ vs, All2 PairD vs kvs → All2 PairD (stored vs s v) kvs') (hl : kvs.length ≤ 100) : Su c m N (PySem.setItem (.ref d) (.str s u) v) fun N' => N' = N.set j (DctS G d kvs') := fun h tk S => by
  obtain ⟨z, l, zh, el, lo, o, vs, g, hd, y⟩ := S.get hN
  obtain ⟨es, ep, hx⟩ := hd
  refine wpAny_setItem_pairs (s := c.at h tk) (knd := strKind G.prog G.w) (kvs := vs) (strKind_is G.prog G.w _ u) ⟨o, es, ep, g, hx⟩ (fun h' hm' hs' => ⟨h', _, _, rfl, S.put hN fun l z zh off y2 => ⟨fun b o hb e' => (hs'.2 b fun q => hb (by rw [y2.1, q]; exact .head _)).trans e', ?_⟩, rfl⟩) (sizeLine_of (by rw [y.length]; omega))
  obtain ⟨o', es', ep', e', hx'⟩ := hm'
  exact ⟨y2.1, lo, o', _, e', ⟨es', ep', hx'⟩, hv vs y⟩
theorem Sm.pop0 {xs : List Int} {x : Int} {u : Tok} (hN : N[j]? = some (Ls false eInt a (x :: xs))) (hl : xs.length ≤ 1000) : Sm c m N (PySem.call (.builtin "list.pop") [.ref a, .int 0 u]) fun v N' => (AV.int x).den v ∧ N' = N.set j (Ls false eInt a xs) := fun h tk S => by
  obtain ⟨f, Rs, ob, F, N0, off, e, up⟩ := S.upd (d := a) hN fun l z y => by rw [y.1]; exact .head _
  obtain ⟨vs, n, g, hlen, _⟩ := S.list hN
  rw [g] at e
  cases e
  obtain ⟨z, l, zh, el, vs', n', g', y⟩ := S.get hN
  replace g' : h.get? a = _ := g'
  obtain rfl : vs = vs' := listOf_inj (g.symm.trans g')
  cases y with | @cons w _ ws _ r y =>
  obtain ⟨t, rfl⟩ := r
  refine kl_popAt (s := c.at h tk) (k := 0) (p := []) (q := ws) F N0 (by decide) (by rw [List.size_toArray]; simp [seqIndex?]) rfl (.head off) (sizeLine_of (by simp only [List.length_cons]; rw [y.length]; omega)) fun h' F' N' => ⟨h', tk, _, rfl, up F' N' (Q' := Ls false eInt a xs) fun l z ok zh hL hk e' => ⟨ok.1, ws, _, e', ?_⟩, ⟨t, rfl⟩, rfl⟩
  obtain ⟨el, vs', n', g'', y'⟩ := ok
  replace g'' : h.get? a = _ := g''
  obtain rfl : Value.int x t :: ws = vs' := listOf_inj (g.symm.trans g'')
  cases y' with | cons _ y' => exact y'
theorem Ev.fdiv {v w : Int} (h1 : Ev c m N e1 (.int v)) (h2 : Ev c m N e2 (.int w)) (hw : w ≠ 0) (hp : Builtin.divisionGoesByPylong v w = false) : Ev c m N (.BinOp e1 .FloorDiv e2 p) (.int (v.fdiv w)) := h1.bin h2 fun v1 v2 s Q d1 d2 y => by
  obtain ⟨_, e1⟩ := d1
  obtain ⟨_, e2⟩ := d2
  subst e1 e2; exact floordiv_int hw (y _ _ ⟨_, rfl⟩) (.inl hp)
end
noncomputable def BagD (G : Gx) (b : Addr) (q : Addr × Nat × Nat × List Int) : HP := DctS G b [(Str.ofString "cells", .ref q.1), (Str.ofString "count", .int q.2.1), (Str.ofString "sum", .int q.2.2.1)]
noncomputable def Bag (G : Gx) (b : Addr) (k : Nat) : HP := .ex (fun q : Addr × Nat × Nat × List Int => q.2.1 ≤ k ∧ q.2.2.1 < 1000003 ∧ q.2.2.2.length ≤ 40) fun q => .star (BagD G b q) (Ls false eInt q.1 q.2.2.2)
theorem Bag.mk {G : Gx} {b cl : Addr} {k ct sm : Nat} {ns : List Int} (h : ct ≤ k ∧ sm < 1000003 ∧ ns.length ≤ 40) : Ent [DctS G b [(Str.ofString "cells", .ref cl), (Str.ofString "count", .int ct), (Str.ofString "sum", .int sm)], Ls false eInt cl ns] [Bag G b k] := fun z ls hh O => by
  obtain ⟨z', ls', O', M⟩ := Ent.star z ls hh O
  obtain ⟨z2, ls2, O2, M2⟩ := Ent.ex (φ := fun q : Addr × Nat × Nat × List Int => q.2.1 ≤ k ∧ q.2.2.1 < 1000003 ∧ q.2.2.2.length ≤ 40) (Q := fun q => .star (BagD G b q) (Ls false eInt q.1 q.2.2.2)) (b := (cl, ct, sm, ns)) h z' ls' hh O'
  exact ⟨z2, ls2, O2, M.trans (ex := []) M2 O'.off nofun⟩
theorem bag_pairs {vs : List (Str × Value)} {k1 k2 k3 : AV} (y : All2 PairD vs [(Str.ofString "cells", k1), (Str.ofString "count", k2), (Str.ofString "sum", k3)]) : ∃ v1 v2 v3, vs = [(Str.ofString "cells", v1), (Str.ofString "count", v2), (Str.ofString "sum", v3)] ∧ k1.den v1 ∧ k2.den v2 ∧ k3.den v3 := by
  obtain ⟨v1, _, rfl, d1, y⟩ := pairs_inv y
  obtain ⟨v2, _, rfl, d2, y⟩ := pairs_inv y
  obtain ⟨v3, _, rfl, d3, y⟩ := pairs_inv y
  cases y
  exact ⟨v1, v2, v3, rfl, d1, d2, d3⟩
section
variable {G : Gx} {rn : Nat} {c : Fx G rn} {m m' : Lm} {N N' N1 : List HP} {e e0 e1 e2 e3 : PySem.Expr} {k : AV} {p p' p1 : Pos} {i j n : Nat} {b : Addr} {q : Addr × Nat × Nat × List Int}
theorem Ev.bagC (h1 : Ev c m N e (.ref b)) (hN : N[i]? = some (BagD G b q)) : Ev c m N (.Subscript e (.Constant (.str "cells") 0 p1) p) (.ref q.1) := .dct h1 hN (fun vs y => by
  obtain ⟨v1, v2, v3, rfl, d1, d2, d3⟩ := bag_pairs y
  exact ⟨v1, rfl, d1⟩) fun _ => rfl
theorem Ev.bagN (h1 : Ev c m N e (.ref b)) (hN : N[i]? = some (BagD G b q)) : Ev c m N (.Subscript e (.Constant (.str "count") 0 p1) p) (.int q.2.1) := .dct h1 hN (fun vs y => by
  obtain ⟨v1, v2, v3, rfl, d1, d2, d3⟩ := bag_pairs y
  exact ⟨v2, rfl, d2⟩) fun _ => rfl
theorem Ev.bagS (h1 : Ev c m N e (.ref b)) (hN : N[i]? = some (BagD G b q)) : Ev c m N (.Subscript e (.Constant (.str "sum") 0 p1) p) (.int q.2.2.1) := .dct h1 hN (fun vs y => by
  obtain ⟨v1, v2, v3, rfl, d1, d2, d3⟩ := bag_pairs y
  exact ⟨v3, rfl, d3⟩) fun _ => rfl
end
theorem t_pull {G : Gx} {b : Addr} {k : Nat} (hk : k < 1000) : Tr G 2 (.ref 1071) [.ref b] [Bag G b k] fun v N' => ∃ x : Int, (AV.int x).den v ∧ N' = [Bag G b (k + 1)] := by
  refine fill_of G.X ?_; k_fill; intro _
  refine' Tr.enter [Str.ofString "bag"] ?ho ?hcd ?hb ?ok ?_
  case ho => k_is
  case hcd => k_is
  case hb =>
    intro s vs X h
    cases h with | cons r h => cases h; exact BindsTo.of_eq rfl
  case ok => kernel_rfl
  intro d
  show Wk _ [(Str.ofString "bag", .ref b)] _ _ _
  dsimp only [HD.B103, HD.C103, HD.qB103, HD.qC103]
  refine Wk.open (φ := fun q : Addr × Nat × Nat × List Int => q.2.1 ≤ k ∧ q.2.2.1 < 1000003 ∧ q.2.2.2.length ≤ 40) (Q' := fun q => .star (BagD G b q) (Ls false eInt q.1 q.2.2.2)) 0 rfl (fun l z h y => y) fun q hq => ?_
  obtain ⟨cl, ct, sm, ns⟩ := q
  dsimp only at hq
  refine Wk.vs [true] .unstar ?_
  refine Wk.setItem (Ev.use (k := .int ((ct + 1 : Nat) : Int)) (Ev.add (i := (ct : Int)) (j := 1) (Ev.bagN (i := 0) (q := (cl, ct, sm, ns)) (by walk_at "sl:ev") rfl) Ev.int) fun v d => Ev.ref (a := b) (by walk_at "sl:ev") (Ev.str.use fun iv d2 => ?_)) (by rfl)
  obtain ⟨_, e⟩ := d2
  subst e
  refine Su.mono (Su.dct (j := 0) (kvs' := [(Str.ofString "cells", .ref cl), (Str.ofString "count", .int ((ct + 1 : Nat) : Int)), (Str.ofString "sum", .int sm)]) rfl (fun vs y => ?_) (Nat.le_of_ble_eq_true rfl)) fun N' e => ?_
  · obtain ⟨v1, v2, v3, rfl, d1, d2, d3⟩ := bag_pairs y
    exact .cons ⟨rfl, d1⟩ (.cons ⟨rfl, d⟩ (.cons ⟨rfl, d3⟩ .nil))
  subst e
  cases ns with
  | nil =>
    refine Wk.skip (Tx.cmp (Ev.ref (Ev.bagC (i := 0) (q := (cl, ct + 1, sm, [])) (by walk_at "sl:ev") rfl) (Ex.nilL eInt fun d => Sm.cmpInts .NotEq (.inr rfl) (i := 2) (j := 0) (xs := []) (ys := []) (r := false) rfl rfl rfl ⟨false, rfl, rfl, Wk.vs [true] .drop ?_⟩)) rfl)
    refine Wk.set (k := .int ((ct + 1 : Nat) : Int)) (Ev.bagN (i := 0) (q := (cl, ct + 1, sm, [])) (by walk_at "sl:ev") rfl) (by kernel_rfl) (by rfl) ?_
    exact Wk.retS (Ev.use (Ev.add (Ev.add (Ev.bagS (i := 0) (q := (cl, ct + 1, sm, [])) (by walk_at "sl:ev") rfl) (Ev.mul (Ev.mul Ev.int (by walk_at "sl:ev") (mulOkL (by decide))) (by walk_at "sl:ev") (mulOkL (by omega)))) (Ev.fdiv (w := 7) (Ev.mul Ev.int (by walk_at "sl:ev") (mulOkL (by decide))) Ev.int (by decide) (PyProof.noPylong_of_log2 (by decide)))) fun v d => ⟨_, .vs [true, true] (Bag.mk (ct := ct + 1) (sm := sm) ⟨by omega, hq.2⟩), _, d, rfl⟩)
  | cons x xs =>
    refine Wk.into (Tx.cmp (Ev.ref (Ev.bagC (i := 0) (q := (cl, ct + 1, sm, x :: xs)) (by walk_at "sl:ev") rfl) (Ex.nilL eInt fun d => Sm.cmpInts .NotEq (.inr rfl) (i := 2) (j := 0) (xs := x :: xs) (ys := []) (r := true) rfl rfl rfl ⟨true, rfl, rfl, Wk.vs [true] .drop ?_⟩)) rfl)
    have hl : xs.length ≤ 39 := by have := hq.2.2; rw [List.length_cons] at this; omega
    refine Wk.retS (Ex.callY (by walk_at "sl:bi") (.cons (Ex.methB (id := "list.pop") (Ev.bagC (i := 0) (q := (cl, ct + 1, sm, x :: xs)) (by walk_at "sl:ev") rfl) (fun h tk pl Q' S y => ?_) (.cons (Ev.int.use fun iv d2 => .nil ?_) rfl) rfl) rfl) rfl)
    · obtain ⟨vs, n, g, _, _⟩ := S.list (i := 1) rfl
      exact getMethod_builtin (s := Fx.at _ h tk) ⟨_, g, rfl⟩ PySem.F.plainAttrs_list PySem.F.slot_list_pop PySem.F.type_list_pop (fun a e => by cases e; exact ⟨_, g, rfl⟩) y
    obtain ⟨_, e⟩ := d2
    subst e
    refine Sm.mono (Sm.pop0 (j := 1) (xs := xs) rfl (by omega)) fun v N1 y => ?_
    obtain ⟨d, e⟩ := y
    obtain ⟨t, ev⟩ := d
    subst e ev
    exact .nil fun h tk S => call_int_int (s := Fx.at _ h tk) ⟨h, tk, _, rfl, S, _, .vs [true, true] (Bag.mk (ct := ct + 1) (sm := sm) ⟨by omega, hq.2.1, by omega⟩), nofun, x, ⟨t, rfl⟩, rfl⟩
theorem t_below {G : Gx} {b : Addr} {k : Nat} {many : Int} (hk : k < 1000) (hm : many = 1099511627776 ∨ many = 6 ∨ many = 4 ∨ many = 3 ∨ many = 24 ∨ many = 5) :
    Tr G 3 (.ref 1078) [.ref b, .int many] [Bag G b k] fun v N' => ∃ n : Nat, (n : Int) < many ∧ (AV.int n).den v ∧ N' = [Bag G b (k + 1)] := by
  refine fill_of G.X ?_; k_fill; intro _
  refine' Tr.enter [Str.ofString "bag", Str.ofString "many"] ?ho ?hcd ?hb ?ok ?_
  case ho => k_is
  case hcd => k_is
  case hb =>
    intro s vs X h
    cases h with | cons r h => cases h with | cons r h => cases h; exact BindsTo.of_eq rfl
  case ok => kernel_rfl
  intro d
  show Wk _ [(Str.ofString "many", .int many), (Str.ofString "bag", .ref b)] _ _ _
  dsimp only [HD.B104, HD.C104, HD.qB104, HD.qC104]
  have h0 : 0 < many := by omega
  refine Wk.ret (Ex.bin (Ex.callT (ks := [.ref b]) (by walk_at "sl:fn") (.cons (by walk_at "sl:ev") .nil rfl) (t_pull hk) [true] rfl (by kernel_rfl) fun v N1 y => Ev.use (k := .int many) (by walk_at "sl:ev") fun v2 d2 => ?_))
  obtain ⟨x, d, e⟩ := y
  obtain ⟨t, ev⟩ := d
  obtain ⟨t2, ev2⟩ := d2
  subst e ev ev2
  obtain ⟨n, hn⟩ : ∃ n : Nat, x.fmod many = n := Int.eq_ofNat_of_zero_le (by rw [Int.fmod_eq_emod_of_nonneg _ (Int.le_of_lt h0)]; exact Int.emod_nonneg _ (Int.ne_of_gt h0))
  exact fun h tk S => mod_int' (s := Fx.at _ h tk) (Int.ne_of_gt h0) ⟨h, tk + 1, _, rfl, S, n, by rw [← hn, Int.fmod_eq_emod_of_nonneg _ (Int.le_of_lt h0)]; exact Int.emod_lt_of_pos _ h0, ⟨tk, by rw [hn]; rfl⟩, rfl⟩
noncomputable def eTup : ER (List Value) := ⟨fun z v vs => ∃ a n, v = .ref a ∧ z.get? a = some { cls := .type "tuple", data := .seq vs.toArray n }, fun ⟨a, n, e, g⟩ k => ⟨a, n, e, k _ _ g⟩⟩
noncomputable def Tup (a : Addr) (vs : List Value) : HP := ⟨fun l _ h => l = [a] ∧ ∃ n, h.get? a = some { cls := .type "tuple", data := .seq vs.toArray n }, fun ⟨e, n, g⟩ _ k => ⟨e, n, k _ (e ▸ .head _) _ g⟩, fun ⟨e, n, g⟩ a ha => by rw [e] at ha; exact List.mem_singleton.mp ha ▸ ⟨_, g⟩⟩
theorem Tup.freeze {a : Addr} {vs : List Value} : Ent [Tup a vs] [Fact eTup (.ref a) vs] := .freeze fun l z h z' ⟨e, n, g⟩ kz kh => ⟨rfl, a, n, rfl, kh a (e ▸ .head _) _ g⟩
noncomputable def eReg (w : World) : ER Int := ⟨fun z v n => ∃ a, v = .ref a ∧ RegAt w z a n, fun ⟨a, e, r⟩ k => ⟨a, e, r.keeps k⟩⟩
noncomputable def eOp (w : World) : ER Int := ⟨fun z v n => ∃ a ra, v = .ref a ∧ RegOp w z a ra ∧ RegAt w z ra n, fun ⟨a, ra, e, r, q⟩ k => ⟨a, ra, e, r.keeps k, q.keeps k⟩⟩
noncomputable def eRel (w : World) : ER Int := ⟨fun z v n => ∃ a, v = .ref a ∧ RelOp w z a n, fun ⟨a, e, r⟩ k => ⟨a, e, r.keeps k⟩⟩
noncomputable def eInsA (w : World) : ER (String × List Addr) := ⟨fun z v n => ∃ a, v = .ref a ∧ InsAt w z a n.1 n.2, fun ⟨a, e, r⟩ k => ⟨a, e, r.keeps k⟩⟩
noncomputable def eIns (w : World) : ER Ins := ⟨fun z v n => ∃ a, v = .ref a ∧ InsW w z a n, fun ⟨a, e, r⟩ k => ⟨a, e, r.keeps k⟩⟩
noncomputable def eDec (w : World) : ER (Ins × Int) := ⟨fun z v n => ∃ f j, v = .ref f ∧ DecAt w z f j n.2 ∧ InsW w z j n.1, fun ⟨f, j, e, r, q⟩ k => ⟨f, j, e, r.keeps k, q.keeps k⟩⟩
theorem strs_all2 {z : Heap} {vs : List Value} {ws : List Str} (h : StrsAre vs ws) : All2 (eAV.r z) vs (ws.map .str) := by
  induction h with
  | nil => exact .nil
  | cons x t _ ih => exact .cons ⟨t, rfl⟩ ih
theorem strs_of {z : Heap} : ∀ {ws : List Str} {vs : List Value}, All2 (eAV.r z) vs (ws.map .str) → StrsAre vs ws
  | [], _, .nil => .nil
  | x :: _, _, .cons q h => by
    obtain ⟨t, rfl⟩ := q
    exact .cons x t (strs_of h)
noncomputable def DctE (G : Gx) (d : Addr) : HP := ⟨fun l _ h => l = [d] ∧ (d == sysModules) = false ∧ ∃ o, h.get? d = some o ∧ o.IsDictOf (intKind G.prog G.w) [], fun y _ kh => ⟨y.1, y.2.1, y.2.2.elim fun o g => ⟨o, kh d (y.1 ▸ .head _) _ g.1, g.2⟩⟩, fun y a ha => y.2.2.elim fun o g => by
  rw [y.1] at ha; exact List.mem_singleton.mp ha ▸ ⟨o, g.1⟩⟩
theorem entD_inv {P : Params} {des : List DictEntry} {x : Str} {k : AV} {r : Lm} (h : All2 (EntD P) des ((x, k) :: r)) : ∃ t v des', des = ⟨PyData.keyHash P x, .str x t, v⟩ :: des' ∧ k.den v ∧ All2 (EntD P) des' r := by
  cases h with | cons a y =>
  obtain ⟨t, v, e, d⟩ := a
  exact ⟨t, v, _, by rw [e], d, y⟩
noncomputable def tokOf : Value → Tok
  | .str _ t => t
  | _ => 0
noncomputable def entL (P : Params) (f : Nat → DictEntry) : Nat → Lm → List DictEntry
  | _, [] => []
  | i, (x, _) :: es => ⟨PyData.keyHash P x, .str x (tokOf (f i).key), (f i).val⟩ :: entL P f (i + 1) es
theorem entL_eq {P : Params} {f : Nat → DictEntry} : ∀ {des : List DictEntry} {es : Lm} (i : Nat), All2 (EntD P) des es → (∀ j e, des[j]? = some e → f (i + j) = e) → des = entL P f i es
  | _, _, _, .nil, _ => rfl
  | _, _, i, .cons r y, h => by
    obtain ⟨t, v, e, _⟩ := r
    subst e
    have h0 := h 0 _ rfl
    rw [entL, ← entL_eq (i + 1) y fun j e he => by rw [Nat.add_assoc, Nat.add_comm 1 j]; exact h (j + 1) e he, show f i = _ from h0]
    rfl
theorem entD_get {P : Params} {des : List DictEntry} {es : Lm} (y : All2 (EntD P) des es) : ∃ f : Nat → DictEntry, des = entL P f 0 es ∧ ∀ (j : Nat) p, es[j]? = some p → p.2.den (f j).val := by
  refine ⟨fun i => des.getD i ⟨0, .none, .none⟩, entL_eq 0 y fun j e he => ?_, fun j p hp => ?_⟩
  · rw [Nat.zero_add, List.getD_eq_getElem?_getD, he]; rfl
  · have hj : j < des.length := by rw [y.length]; exact (List.getElem?_eq_some_iff.mp hp).1
    obtain ⟨t, v, e, d⟩ := All2.ata y j (List.getElem?_eq_getElem hj) hp
    dsimp only
    rw [List.getD_eq_getElem?_getD, List.getElem?_eq_getElem hj, e]
    exact d
theorem NewO.fz {G : Gx} {C x : Addr} {es : Lm} {Q : HP} (H : ∀ z d des, All2 (EntD G.w.params) des es → InstAt z x (instObj C d) C (some (dictOf des des.length)) → ∀ h, Q.ok [] z h) : Ent [NewO G C x es] [Q] := .freeze fun l z h z' y kz kh => by
  obtain ⟨b, a, y⟩ := y
  exact H z' b.1 b.2 a ⟨kh _ (y.1 ▸ .head _) _ y.2.1, rfl, rfl, kh _ (y.1 ▸ .tail _ (.head _)) _ y.2.2⟩ h
section
variable {G : Gx} {rn : Nat} {c : Fx G rn} {m m' : Lm} {N N' N1 : List HP} {e e0 e1 e2 e3 o : PySem.Expr} {es args : List PySem.Expr} {k k1 k2 : AV} {ks : List AV} {x x2 nm : Str} {p p' p1 p2 pa pos : Pos} {K K' : Value → List HP → Prop} {P P' : Flow → Lm → List HP → Prop} {rest body b1 b2 : List Stmt} {t : Sem Value} {a d C f : Addr} {i j n : Nat} {Q Q' : HP} {b : Bool} {num : Int} {v : Value} {fz : Bool}
theorem Ev.bool {b : Bool} : Ev c m N (.Constant (.bool b) 0 p) (.bool b) := fun h tk S => wpAny_Constant_bool ⟨h, _, N, rfl, S, rfl, rfl⟩
theorem Ev.none : Ev c m N (.Constant .none 0 p) .none := fun h tk S => wpAny_Constant_none ⟨h, _, N, rfl, S, rfl, rfl⟩
theorem Ev.cast {k' : AV} (h : Ev c m N e k) (hk : ∀ v, k.den v → k'.den v) : Ev c m N e k' := h.mono fun v N' ⟨a, d⟩ => ⟨a, hk v d⟩
theorem StI.made {f : Str → Option Value} {z h : Heap} {ls : List (List Addr)} (ag : Agr m f) (X : StI c f z ls N h) : ∃ Rs, News G.hb c.L h Rs ∧ ∀ {h' : Heap} {D : Addr} {o : Obj} {P : HP}, Fr G.hb c.L h' f → News G.hb c.L h' ((D, o) :: Rs) → (∀ p ∈ Rs, p.1 < D) → (h'.get? D = some o → P.ok [D] z h') → Sa c m (P :: N) h' := by
  obtain ⟨Rs, N0, hs0, hs⟩ := X.snap
  refine ⟨Rs, N0, fun {h' D o P} F' N' hlt ok => ?_⟩
  have hn := (N' _ (.head _)).2
  refine .newL (a := D) ag X F' (hs F' N' fun q hq => .tail _ hq) ?_ (ok (N' _ (.head _)).1)
  cases e : h.get? D with
  | none => rfl
  | some o =>
    rcases hs0 D o e hn.1 with e2 | hm
    · rw [hn.2] at e2; cases e2
    · exact absurd (hlt _ hm) (Nat.lt_irrefl _)
theorem Ex.split {w : Str} (h1 : Ev c m N e (.str w)) (hl : w.length ≤ 1000) (ok : methOk e pa p [] = true) (hk : ∀ d, K (.ref d) (Ls false eAV d ((Txt.words w).map .str) :: N)) : Ex c m N (.Call (.Attribute e "split" pa) [] [] p) K := fun h tk S => by
  obtain ⟨pl, he⟩ := methodE (nm := "split") (env := c.env) ok
  refine MethodCall_ (Ev.go h1 S fun v h' tk' S' d => ?_) he
  obtain ⟨t, e⟩ := d
  subst e
  obtain ⟨f, z, ls, ag, X⟩ := S'
  obtain ⟨Rs, N0, mk⟩ := X.made ag
  exact GM.split (callWith_method0 (first := [.str w t]) (KSpl.split0 (s := c.at h' tk') X.F N0 (fun D l h2 k el hst F' N' hlt => ⟨h2, k, _, rfl, mk (P := Ls false eAV D ((Txt.words w).map .str)) F' N' hlt fun g => ⟨rfl, _, 0, g, strs_all2 (el ▸ hst)⟩, hk D⟩) (sizeLine_of (by omega))))
theorem Ex.dictE (hk : ∀ d, K (.ref d) (DctE G d :: N)) : Ex c m N (.Dict [] [] p) K := fun h tk S => by
  obtain ⟨f, z, ls, ag, X⟩ := S
  obtain ⟨Rs, N0, mk⟩ := X.made ag
  exact newDict_K (s := c.at h tk) X.F N0 G.T.nolimit fun d h' o F' N' hlt lo _ _ hd _ => ⟨h', tk, _, rfl, mk (P := DctE G d) F' N' hlt fun g => ⟨rfl, lo, o, g, hd⟩, hk d⟩
theorem all2_rep {α β : Type} {R : α → β → Prop} {as : List α} {bs : List β} (h : All2 R as bs) : ∀ n : Nat, All2 R (List.replicate n as).flatten (List.replicate n bs).flatten
  | 0 => .nil
  | n + 1 => h.append (all2_rep h n)
theorem Sm.mulL {u : Tok} {q : Nat} (hN : N[i]? = some (Ls fz eAV a ks)) (hq : ks.length * q ≤ 256) (hq2 : q ≤ 1000) (hk : ∀ d, K (.ref d) (Ls false eAV d (List.replicate q ks).flatten :: N)) : Sm c m N (binaryOp .Mult (.ref a) (.int (q : Int) u)) K := fun h tk S => by
  obtain ⟨f, z, ls, ag, X⟩ := S
  obtain ⟨vs, n, g, y⟩ := X.own.list hN
  obtain ⟨Rs, N0, mk⟩ := X.made ag
  exact KMa.mul (s := c.at h tk) X.F N0 ⟨_, g, rfl, n, rfl⟩ (by omega) (by omega) (by rw [y.length]; exact hq) rfl fun D h' F' N' hlt => ⟨h', tk, _, rfl, mk (P := Ls false eAV D (List.replicate q ks).flatten) F' N' hlt fun g => ⟨rfl, _, 0, g, all2_rep y q⟩, hk D⟩
theorem Et.inWords {y w : Str} (h1 : Ev c m N e1 (.str y)) (h2 : Ev c m N e2 (.str w)) (hl : w.length ≤ 1000) (hb : (Txt.words w).any (· == y) = b) (ok : methOk e2 pa p2 [] = true) (hm : behindInMarks .In (.Call (.Attribute e2 "split" pa) [] [] p2) = false) : Et c m N (.Compare e1 [.In] [.Call (.Attribute e2 "split" pa) [] [] p2] p) b :=
  Tx.cmp (h1.use fun v1 d => Ex.split h2 hl ok fun a => fun h tk S => by
    obtain ⟨t, e⟩ := d
    subst e
    obtain ⟨vs, n, g, _, _⟩ := S.list (i := 0) rfl
    obtain ⟨z, l, zh, el, vs', n', g', y'⟩ := S.get (i := 0) rfl
    exact in_list_strs (s := c.at h tk) ⟨_, g', rfl, n', rfl⟩ (strs_of y') ⟨h, tk, N, rfl, S.unfact, b, by rw [hb], rfl, rfl⟩) hm
theorem Et.le2 {i j n : Int} (h1 : Ev c m N e1 (.int i)) (h2 : Ev c m N e2 (.int j)) (h3 : Ev c m N e3 (.int n)) (h4 : i ≤ j) (h5 : j ≤ n) (hm : lastMarks [.LtE, .LtE] [e2, e3] = false) : Et c m N (.Compare e1 [.LtE, .LtE] [e2, e3] p) true := fun h tk S =>
  isTrue_chain (Ev.go h1 S fun v1 h' tk' S' d => by
    refine test_link (Ev.go h2 S' fun v2 h3' tk3 S3 d2 => ?_)
    obtain ⟨t, rfl⟩ := d
    obtain ⟨t3, rfl⟩ := d2
    refine PyProof.Rows.le_int (wpAny_truthy_bool ?_)
    rw [decide_eq_true h4]
    refine test_last (Ev.go h3 S3 fun v3 h6 tk5 S5 d3 => ?_)
    obtain ⟨t5, rfl⟩ := d3
    exact PyProof.Rows.le_int (wpAny_truthy_bool ⟨h6, tk5, _, rfl, S5, rfl, decide_eq_true h5⟩)) hm
theorem Tx.eqNil {ws : List Str} {KB : Bool → List HP → Prop} (h1 : Ev c m N e (.ref a)) (hN : N[i]? = some (Ls false eAV a (ws.map .str))) (hw : (PyData.eqv (.list (ws.map .str)) (.list [])) = b) (hs : PySem.SeqAt.shaped (.list (ws.map .str)) = true) (hk : KB b N) : Tx c m N (.Compare e [.Eq] [.List [] p1] p) KB :=
  Tx.cmp (h1.ref (.nilL eAV fun d h tk S => by
    obtain ⟨z, l, zh, el, vs, n, g, y⟩ := S.get (i := i + 1) (show (Ls false eAV d [] :: N)[i + 1]? = _ from hN)
    obtain ⟨z2, l2, zh2, el2, vs2, n2, g2, y2⟩ := S.get (i := 0) rfl
    cases y2
    exact eq_dataH (s := c.at h tk) (.list g rfl rfl ((strs_of y).reads _)) (.list g2 rfl rfl .nil) hs rfl c.un64 ⟨h, tk, _, rfl, S.unfact, _, rfl, hw ▸ hk⟩)) rfl
end
section
variable {G : Gx} {num : Int} {v : Value}
theorem t_Register {w : Str} : Tr G 3 (.ref 437) [.str w, .str "gpr", .int num, .int 64] [] fun v N' => N' = [Fact (eReg G.w) v num] := by
  refine fill_of G.X ?_; k_fill; intro _
  refine' Tr.make (dks := []) (ds := []) [Str.ofString "self", Str.ofString "name", Str.ofString "kind", Str.ofString "number", Str.ofString "size"] ?hmk ?hi ?hf ?ho ?hcd ?hd ?hb ?ok ?_
  case hmk => k_is
  case hi => k_is
  case hf => k_is
  case ho => k_is
  case hcd => k_is
  case hd => exact .nil
  case hb =>
    intro s vs x X h
    cases h with | cons r h => cases h with | cons r h => cases h with | cons r h => cases h with | cons r h => cases h; exact BindsTo.of_eq rfl
  case ok => kernel_rfl
  intro d x
  dsimp only [HD.B39_0, HD.C39_0, HD.qB39_0, HD.qC39_0]
  refine Wk.setNew (j := 0) (C := 437) (Ev.use (k := .str w) (by walk_at "sl:ev") fun v d => ⟨_, _, rfl, rfl, Nat.le_of_ble_eq_true rfl, d, ?_⟩) (fun N => by walk_at "sl:ev") (by kernel_rfl) (by rfl)
  refine Wk.setNew (j := 0) (C := 437) (Ev.use (k := .str "gpr") (by walk_at "sl:ev") fun v d => ⟨_, _, rfl, rfl, Nat.le_of_ble_eq_true rfl, d, ?_⟩) (fun N => by walk_at "sl:ev") (by kernel_rfl) (by rfl)
  refine Wk.setNew (j := 0) (C := 437) (Ev.use (k := .int num) (by walk_at "sl:ev") fun v d => ⟨_, _, rfl, rfl, Nat.le_of_ble_eq_true rfl, d, ?_⟩) (fun N => by walk_at "sl:ev") (by kernel_rfl) (by rfl)
  refine Wk.setNew (j := 0) (C := 437) (Ev.use (k := .int 64) (by walk_at "sl:ev") fun v d => ⟨_, _, rfl, rfl, Nat.le_of_ble_eq_true rfl, d, ?_⟩) (fun N => by walk_at "sl:ev") (by kernel_rfl) (by rfl)
  refine Wk.vs [true] (NewO.fz (es := [(Str.ofString "name", .str w), (Str.ofString "kind", .str "gpr"), (Str.ofString "number", .int num), (Str.ofString "size", .int 64)]) (Q := Fact (eReg G.w) (.ref x) num) fun z d des y I h => ?_) (.nil ⟨rfl, rfl⟩)
  obtain ⟨t1, v1, _, rfl, d1, y⟩ := entD_inv y
  obtain ⟨t2, v2, _, rfl, d2, y⟩ := entD_inv y
  obtain ⟨t3, v3, _, rfl, d3, y⟩ := entD_inv y
  obtain ⟨t4, v4, _, rfl, d4, y⟩ := entD_inv y
  cases y
  obtain ⟨_, rfl⟩ := d2
  obtain ⟨_, rfl⟩ := d3
  obtain ⟨_, rfl⟩ := d4
  exact ⟨rfl, x, rfl, ⟨_, _, _, _, _, _, _, _, _, I⟩⟩
theorem t_early : Tr G 1 (.ref 448) [.int 64] [] fun v N' => ∃ a, v = .ref a ∧ N' = [Ls false eAV a ((Txt.words "rax rcx rdx rbx rsp rbp rsi rdi").map .str)] := by
  refine fill_of G.X ?_; k_fill; intro _
  refine' Tr.enter [Str.ofString "size"] ?ho ?hcd ?hb ?ok ?_
  case ho => k_is
  case hcd => k_is
  case hb =>
    intro s vs X h
    cases h with | cons r h => cases h; exact BindsTo.of_eq rfl
  case ok => kernel_rfl
  intro d
  show Wk _ [(Str.ofString "size", .int 64)] _ _ _
  dsimp only [HD.B40, HD.C40, HD.qB40, HD.qC40]
  exact Wk.into (Tx.of (b := true) (Et.eqI (by walk_at "sl:ev") Ev.int rfl rfl) ⟨rfl, Wk.ret (Ex.split (Ev.glob rfl (by kernel_rfl) ⟨_, rfl⟩) (by decide) rfl fun d => ⟨nofun, d, rfl, rfl⟩)⟩)
theorem t_gpr (h0 : 0 ≤ num) (h1 : num < 8) : Tr G 4 (.ref 462) [.int num, .int 64] [] fun v N' => N' = [Fact (eReg G.w) v num] := by
  refine fill_of G.X ?_; k_fill; intro _
  refine' Tr.enter [Str.ofString "number", Str.ofString "size"] ?ho ?hcd ?hb ?ok ?_
  case ho => k_is
  case hcd => k_is
  case hb =>
    intro s vs X h
    cases h with | cons r h => cases h with | cons r h => cases h; exact BindsTo.of_eq rfl
  case ok => kernel_rfl
  intro d
  show Wk _ [(Str.ofString "size", .int 64), (Str.ofString "number", .int num)] _ _ _
  dsimp only [HD.B42, HD.C42, HD.qB42, HD.qC42]
  obtain ⟨r, rfl⟩ : ∃ r : Nat, num = r := Int.eq_ofNat_of_zero_le h0
  refine Wk.assign (Ex.callT (ks := [.int 64]) (by walk_at "sl:fn") (.cons (by walk_at "sl:ev") .nil rfl) t_early [] rfl (by kernel_rfl) fun v N1 y => ?_) (by kernel_rfl) (by rfl)
  obtain ⟨a, ev, e⟩ := y
  subst ev e
  refine ⟨.ref a, rfl, Wk.skip (Tx.or (Tx.eqNil (i := 0) (b := false) (by walk_at "sl:ev") rfl (by kernel_rfl) (by kernel_rfl) (Tx.or (Tx.not (Tx.of (b := true) (Et.le2 (i := 0) (j := (r : Int)) (n := 15) Ev.int (by walk_at "sl:ev") Ev.int (by omega) (by omega) rfl) (Tx.orN ⟨rfl, ?_⟩))))))⟩
  have hl : (Txt.words "rax rcx rdx rbx rsp rbp rsi rdi").length = 8 := by kernel_rfl
  have hr : r < (Txt.words "rax rcx rdx rbx rsp rbp rsi rdi").length := by rw [hl]; omega
  refine Wk.into (Tx.of (b := true) (Et.ltI (i := (r : Int)) (j := 8) (by walk_at "sl:ev") Ev.int (decide_eq_true (by omega)) rfl) ⟨rfl, ?_⟩)
  refine Wk.retS (Ex.callT (ks := [.str (Txt.words "rax rcx rdx rbx rsp rbp rsi rdi")[r], .str "gpr", .int r, .int 64]) (by walk_at "sl:fn") (.cons (Ev.item (R := eAV) (y := .str (Txt.words "rax rcx rdx rbx rsp rbp rsi rdi")[r]) (i := 0) (j := r) (by walk_at "sl:ev") (by walk_at "sl:ev") rfl (by rw [List.getElem?_map, List.getElem?_eq_getElem hr]; rfl) (fun z v h => h) (by omega) fun _ => rfl) (.cons Ev.str (.cons (by walk_at "sl:ev") (.cons (by walk_at "sl:ev") .nil rfl) rfl) rfl) rfl) t_Register [] rfl (by kernel_rfl) fun v N1 e => ?_)
  subst e
  exact ⟨_, Sh.vs [false, true] .drop, nofun, rfl⟩
end
local macro_rules | `(tactic| walk_at "sl:fn") => `(tactic| exact Ev.glob (k := .val _) rfl (by kernel_rfl) rfl)
local macro_rules | `(tactic| walk_at "sl:bi") => `(tactic| exact Ev.built rfl rfl (by decide) (by kernel_rfl))
local macro_rules | `(tactic| walk_at "sl:ev") => `(tactic| first
  | exact Ev.int
  | exact Ev.str
  | exact Ev.loc rfl (by kernel_rfl)
  | exact Ev.cast (Ev.loc rfl (by kernel_rfl)) (fun _ h => h)
  | exact Ev.cast (Ev.loc rfl (by kernel_rfl)) (fun _ h => ⟨_, h⟩)
  | exact Ev.none
  | (refine' Ev.add ?_ ?_ <;> walk_at "sl:ev")
  | (refine' Ev.sub ?_ ?_ <;> walk_at "sl:ev"))
noncomputable def Fz (Φ : Heap → Prop) (k : ∀ z z', Φ z → z.StaysIn z' → Φ z') : HP := ⟨fun l z _ => l = [] ∧ Φ z, fun x kz _ => ⟨x.1, k _ _ x.2 kz⟩, fun x a ha => by rw [x.1] at ha; cases ha⟩
noncomputable def RegF (G : Gx) (a : Addr) (r : Nat) : HP := Fz (fun z => RegAt G.w z a r) fun _ _ x k => x.keeps k
noncomputable def OpF (G : Gx) (a ra : Addr) : HP := Fz (fun z => RegOp G.w z a ra) fun _ _ x k => x.keeps k
noncomputable def RelF (G : Gx) (a : Addr) (v : Int) : HP := Fz (fun z => RelOp G.w z a v) fun _ _ x k => x.keeps k
noncomputable def InsE (G : Gx) (i : Addr) (ins : Ins) : HP := Fz (fun z => InsW G.w z i ins) fun _ _ x k => x.keeps k
noncomputable def DecF (G : Gx) (f i : Addr) (wd : Int) : HP := Fz (fun z => DecAt G.w z f i wd) fun _ _ x k => x.keeps k
section
variable {G : Gx} {rn : Nat} {c : Fx G rn} {m m' : Lm} {N N' N1 : List HP} {e e0 e1 e2 e3 o : PySem.Expr} {es args : List PySem.Expr} {k k1 k2 : AV} {ks : List AV} {x x2 nm : Str} {p p' p1 p2 pa pos : Pos} {K K' : Value → List HP → Prop} {P P' : Flow → Lm → List HP → Prop} {rest body b1 b2 : List Stmt} {t : Sem Value} {a d C f : Addr} {i j n : Nat} {Q Q' : HP} {b : Bool} {num : Int} {v : Value} {keys : List (Option PySem.Expr)} {values : List PySem.Expr}
theorem Wk.shl (s : Sh c m N N') (h : Wk c m N' rest P) : Wk c m N rest P := fun hh tk S => h hh tk (s hh S)
theorem Tx.shl {KB : Bool → List HP → Prop} (s : Sh c m N N') (h : Tx c m N' e KB) : Tx c m N e KB := fun hh tk S => h hh tk (s hh S)
noncomputable def Ps (c : Fx G rn) (m : Lm) (N : List HP) (keys : List (Option PySem.Expr)) (values : List PySem.Expr) (K : List (Value × Value) → List HP → Prop) : Prop := ∀ pos h tk, Sa c m N h → wpAny (model G.prog G.w) c.A (evalPairs (pairTrees keys values c.env pos)) (fun vs s' => ∃ h' tk' N', s' = c.at h' tk' ∧ Sa c m N' h' ∧ K vs N') No (c.at h tk)
theorem Ps.go {pos : Pos} {h0 : Heap} {tk0 : Nat} {K : List (Value × Value) → List HP → Prop} {Q : List (Value × Value) → Shared → Prop} (h : Ps c m N keys values K) (S : Sa c m N h0) (k : ∀ vs h' tk' N', Sa c m N' h' → K vs N' → Q vs (c.at h' tk')) : wpAny (model G.prog G.w) c.A (evalPairs (pairTrees keys values c.env pos)) Q No (c.at h0 tk0) := wpAny_mono (h pos h0 tk0 S) (fun v s1 y => by obtain ⟨h', tk', N', e, S', y⟩ := y; subst e; exact k v h' tk' N' S' y) fun _ _ y => y
theorem Ps.nil {K : List (Value × Value) → List HP → Prop} (y : K [] N) : Ps c m N [] [] K := fun pos h tk S => pairTrees_nil_walk ⟨h, tk, N, rfl, S, y⟩
theorem Ps.cons {s : Str} {K : List (Value × Value) → List HP → Prop} (h1 : Ex c m N e fun v N1 => Ps c m N1 keys values fun vs N2 => ∀ t, K ((.str s t, v) :: vs) N2) : Ps c m N (some (.Constant (.str s) 0 p) :: keys) (e :: values) K := fun pos h tk S =>
  pairTrees_cons_walk (PySem.Calls.Constant_str (Sm.go h1 S fun v h' tk' N' S' y => Ps.go y S' fun vs h2 tk2 N2 S2 y => ⟨h2, tk2, N2, rfl, S2, y _⟩))
theorem Ex.dictS (h : ∀ d, Ps c m (DctS G d [] :: N) keys values fun vs N' => ∃ i kvs, allStrKeys vs = true ∧ ((strPairs vs).map (·.1)).Nodup ∧ All2 PairD (strPairs vs) kvs ∧ N'[i]? = some (DctS G d []) ∧ K (.ref d) (N'.set i (DctS G d kvs))) (ok : (keys.all (·.isSome) && keys.length == values.length && decide (0 < keys.length) && decide (keys.length ≤ 15)) = true) : Ex c m N (.Dict keys values p) K := fun h1 tk S => by
  simp only [Bool.and_eq_true, beq_iff_eq, decide_eq_true_eq] at ok
  obtain ⟨f0, F0, _⟩ := S.fr
  have lo := F0.notModules (modules_low G.T.nolimit)
  have S1 : Sa c m (DctS G h1.objs.size [] :: N) (h1.push { cls := .type "dict", data := .dict #[] }) := S.new (fun b o e => Heap.get?_push_of_some _ e) (Heap.get?_none_of_le (Nat.le_refl _)) fun z _ => by
    obtain ⟨o, ho, hd⟩ := Heap.dictOf_iff.mp (Heap.DictOf.new (knd := strKind G.prog G.w) h1)
    exact ⟨rfl, lo, o, [], ho, hd, .nil⟩
  refine wpAny_Dict_walk (s := c.at h1 tk) (knd := strKind G.prog G.w) ok.1.1.1 ok.1.1.2 (fun e => by rw [e] at ok; exact absurd ok.1.2 (Nat.lt_irrefl _)) ok.2 (Ps.go (h h1.objs.size) S1 fun vs h2 tk2 N2 S2 y => ?_)
  obtain ⟨i, kvs, hk, hn, y, hi, hK⟩ := y
  obtain ⟨z, l, zh, el, _, o, vs0, g, hd, y0⟩ := S2.get hi
  cases y0
  refine display_done_str hk hn (Heap.dictOf_iff.mpr ⟨o, g, hd⟩) fun h' hm hs => ⟨h', _, _, rfl, S2.put hi fun l z zh off y3 => ⟨fun b ob hb e => (hs.2 b fun q => hb (by rw [y3.1, q]; exact .head _)).trans e, ?_⟩, hK⟩
  obtain ⟨o', g', hd'⟩ := Heap.dictOf_iff.mp hm
  exact ⟨y3.1, y3.2.1, o', _, g', hd', y⟩
theorem Ex.clsCall {mc : Value} (ho : Ev c m N o (.ref C)) (hg : specialIn (HD.KK G.w.params) (.ref C) "__getattribute__" = some (some (.builtin "type.__getattribute__"))) (hm : typeIn (HD.KK G.w.params) (.ref C) = some mc) (hr : readsIn (HD.KK G.w.params) C mc = true) (hc : findCls (HD.KK G.w.params) (.ref C) mc nm = some (.val (.ref f))) (ha : Xs c m N (e :: args) fun vs N' => Sm c m N' (PySem.call (.ref f) vs) K) (ok : (keepIn G.K (.ref f) && methOk o pa p (e :: args)) = true) : Ex c m N (.Call (.Attribute o nm pa) (e :: args) [] p) K := fun h tk S => by
  rw [Bool.and_eq_true] at ok
  obtain ⟨hk, hm2⟩ := ok
  obtain ⟨pl, he⟩ := methodE (nm := nm) (env := c.env) hm2
  unfold methOk at hm2
  simp only [Bool.and_eq_true, List.all_cons] at hm2
  refine MethodCall_ (Ev.goR ho S fun h' tk' S' => ?_) he
  obtain ⟨_, F, _⟩ := S'.fr
  exact method_of_cls (s := c.at h' tk') F G.X hg (cls_val F G.X hm hr hc rfl (callWith_K (s := c.at h' (tk' + 1)) G.X hk (Xs.go ha S' fun vs h2 tk2 N2 S2 y => by
    obtain ⟨_, F, _⟩ := S2.fr
    exact ⟨G.X.keeps F.keep, y h2 tk2 S2⟩) (star_plain hm2.1.1.2.1) (plains hm2.1.1.2.2)))
end
section
variable {G : Gx} {num : Int} {v : Value} {C x : Addr} {kd nm : String} {ops : List Addr}
theorem t_opinit (hC : C = 774 ∨ C = 815) : Tr G 2 (.ref 715) [.ref x, .str kd] [NewO G C x []] fun v N' => N' = [NewO G C x [(Str.ofString "kind", .str kd)]] := by
  refine fill_of G.X ?_; k_fill; intro _
  refine' Tr.enter [Str.ofString "self", Str.ofString "kind"] ?ho ?hcd ?hb ?ok ?_
  case ho => k_is
  case hcd => k_is
  case hb =>
    intro s vs X h
    cases h with | cons r h => cases h with | cons r h => cases h; exact BindsTo.of_eq rfl
  case ok => kernel_rfl
  intro d
  show Wk _ [(Str.ofString "kind", .str kd), (Str.ofString "self", .ref x)] _ _ _
  dsimp only [HD.B55_0, HD.C55_0, HD.qB55_0, HD.qC55_0]
  exact Wk.setNew (j := 0) (C := C) (Ev.use (k := .str kd) (by walk_at "sl:ev") fun v d => ⟨_, _, rfl, rfl, Nat.le_of_ble_eq_true rfl, d, .nil rfl⟩) (fun N => by walk_at "sl:ev") (by rcases hC with rfl | rfl <;> kernel_rfl) (by rfl)
theorem t_Reg : Tr G 5 (.ref 774) [.val v] [Fact (eReg G.w) v num] fun u N' => ∃ a, u = .ref a ∧ N' = [Fact (eOp G.w) (.ref a) num] := by
  refine fill_of G.X ?_; k_fill; intro _
  refine' Tr.make (dks := []) (ds := []) [Str.ofString "self", Str.ofString "register"] ?hmk ?hi ?hf ?ho ?hcd ?hd ?hb ?ok ?_
  case hmk => k_is
  case hi => k_is
  case hf => k_is
  case ho => k_is
  case hcd => k_is
  case hd => exact .nil
  case hb =>
    intro s vs x X h
    cases h with | cons r h => cases h; exact BindsTo.of_eq rfl
  case ok => kernel_rfl
  intro d x
  dsimp only [HD.B56_0, HD.C56_0, HD.qB56_0, HD.qC56_0]
  show Wk _ [(Str.ofString "register", .val v), (Str.ofString "self", .ref x)] _ _ _
  refine Wk.open (φ := fun a => v = .ref a) (Q' := fun a => Fact (eReg G.w) (.ref a) num) 1 rfl (fun l z h y => ?_) fun ra er => ?_
  · obtain ⟨e, a, ev, r⟩ := y
    exact ⟨a, ev, e, a, rfl, r⟩
  subst er
  refine Wk.expr (Ex.clsCall (C := 739) (f := 715) (mc := .type "type") (Ev.glob (k := .ref 739) rfl (by kernel_rfl) rfl) (by k_is) (by k_is) (by k_is) (by k_is) (.cons (Ev.use (k := .ref x) (by walk_at "sl:ev") fun v1 d1 => .cons (Ev.str.use fun v2 d2 => .nil (Sm.tr (t_opinit (C := 774) (x := x) (.inl rfl)) (by decide) [true] rfl (.cons d1 (.cons d2 .nil)) fun v N1 e => ?_)) rfl) rfl) (by kernel_rfl)) (by rfl) (by rfl)
  subst e
  refine Wk.setNew (j := 0) (C := 774) (Ev.use (k := .ref ra) (by walk_at "sl:ev") fun v d => ⟨_, _, rfl, rfl, Nat.le_of_ble_eq_true rfl, d, ?_⟩) (fun N => by walk_at "sl:ev") (by kernel_rfl) (by rfl)
  refine Wk.vs [true] (NewO.fz (es := [(Str.ofString "kind", .str "reg"), (Str.ofString "register", .ref ra)]) (Q := OpF G x ra) fun z d des y I h => ?_) (Wk.shl (fun h S => Fact.new (R := eOp G.w) (v := .ref x) (y := num) (fun z ls h O => ?_) S) (.vs [false, true, true] .drops (.nil ⟨rfl, x, rfl, rfl⟩)))
  · obtain ⟨t1, v1, _, rfl, d1, y⟩ := entD_inv y
    obtain ⟨t2, v2, _, rfl, d2, y⟩ := entD_inv y
    cases y
    obtain ⟨_, rfl⟩ := d1
    cases d2
    exact ⟨rfl, _, _, _, _, I⟩
  · obtain ⟨_, d1, _⟩ := O.ok.get (i := 0) rfl
    obtain ⟨_, d2, _⟩ := O.ok.get (i := 1) rfl
    obtain ⟨_, a, ea, r⟩ := d2
    cases ea
    exact ⟨x, ra, rfl, d1.2, r⟩
theorem t_Rel : Tr G 5 (.ref 815) [.int num] [] fun u N' => ∃ a, u = .ref a ∧ N' = [Fact (eRel G.w) (.ref a) num] := by
  refine fill_of G.X ?_; k_fill; intro _
  refine' Tr.make (dks := [.str (Str.ofString "")]) (ds := [.str (Str.ofString "") 1249]) [Str.ofString "self", Str.ofString "worth", Str.ofString "name"] ?hmk ?hi ?hf ?ho ?hcd ?hd ?hb ?ok ?_
  case hmk => k_is
  case hi => k_is
  case hf => k_is
  case ho => k_is
  case hcd => k_is
  case hd => exact .cons ⟨_, rfl⟩ .nil
  case hb =>
    intro s vs x X h
    cases h with | cons r h => cases h; exact binds_K X rfl (by k_is) rfl rfl rfl
  case ok => kernel_rfl
  intro d x
  dsimp only [HD.B57_0, HD.C57_0, HD.qB57_0, HD.qC57_0]
  show Wk _ [(Str.ofString "name", .str (Str.ofString "")), (Str.ofString "worth", .int num), (Str.ofString "self", .ref x)] _ _ _
  refine Wk.expr (Ex.clsCall (C := 739) (f := 715) (mc := .type "type") (Ev.glob (k := .ref 739) rfl (by kernel_rfl) rfl) (by k_is) (by k_is) (by k_is) (by k_is) (.cons (Ev.use (k := .ref x) (by walk_at "sl:ev") fun v1 d1 => .cons (Ev.str.use fun v2 d2 => .nil (Sm.tr (t_opinit (C := 815) (x := x) (.inr rfl)) (by decide) [true] rfl (.cons d1 (.cons d2 .nil)) fun v N1 e => ?_)) rfl) rfl) (by kernel_rfl)) (by rfl) (by rfl)
  subst e
  refine Wk.setNew (j := 0) (C := 815) (Ev.use (k := .int num) (by walk_at "sl:ev") fun v d => ⟨_, _, rfl, rfl, Nat.le_of_ble_eq_true rfl, d, ?_⟩) (fun N => by walk_at "sl:ev") (by kernel_rfl) (by rfl)
  refine Wk.setNew (j := 0) (C := 815) (Ev.use (k := .str (Str.ofString "")) (by walk_at "sl:ev") fun v d => ⟨_, _, rfl, rfl, Nat.le_of_ble_eq_true rfl, d, ?_⟩) (fun N => by walk_at "sl:ev") (by kernel_rfl) (by rfl)
  refine Wk.vs [true] (NewO.fz (es := [(Str.ofString "kind", .str "rel"), (Str.ofString "worth", .int num), (Str.ofString "name", .str "")]) (Q := Fact (eRel G.w) (.ref x) num) fun z d des y I h => ?_) (.nil ⟨rfl, x, rfl, rfl⟩)
  obtain ⟨t1, v1, _, rfl, d1, y⟩ := entD_inv y
  obtain ⟨t2, v2, _, rfl, d2, y⟩ := entD_inv y
  obtain ⟨t3, v3, _, rfl, d3, y⟩ := entD_inv y
  cases y
  obtain ⟨_, rfl⟩ := d1
  obtain ⟨_, rfl⟩ := d2
  obtain ⟨_, rfl⟩ := d3
  exact ⟨rfl, x, rfl, _, _, _, _, _, _, _, I⟩
noncomputable def InsI (G : Gx) (i tp : Addr) (nm : String) : HP := Fz (fun z => ∃ di k1 k2 k3 t1 t3, InstAt z i (instObj 868 di) 868 (some (dictOf [⟨PyData.keyHash G.w.params (Str.ofString "name"), .str (Str.ofString "name") k1, .str (Str.ofString nm) t1⟩, ⟨PyData.keyHash G.w.params (Str.ofString "operands"), .str (Str.ofString "operands") k2, .ref tp⟩, ⟨PyData.keyHash G.w.params (Str.ofString "prefix"), .str (Str.ofString "prefix") k3, .str (Str.ofString "") t3⟩] 3))) fun _ _ x k => by
  obtain ⟨di, k1, k2, k3, t1, t3, I⟩ := x
  exact ⟨di, k1, k2, k3, t1, t3, inst_keep I k⟩
theorem Sm.tupT {G : Gx} {rn : Nat} {c : Fx G rn} {m : Lm} {N : List HP} {K : Value → List HP → Prop} {i : Nat} {tp : Addr} {vs : List Value} (hN : N[i]? = some (Fact eTup (.ref tp) vs)) (hk : K (.ref tp) N) : Sm c m N (PySem.call (.type "tuple") [.ref tp]) K := fun h tk S => by
  obtain ⟨z, l, zh, _, a, n, ea, g⟩ := S.get hN
  cases ea
  exact call_tuple_tup (s := c.at h tk) ⟨_, zh _ _ g, rfl, n, rfl⟩ ⟨h, tk, N, rfl, S, hk⟩
theorem t_Ins : Tr G 5 (.ref 868) [.str (Str.ofString nm), .val v] [Fact eTup v (ops.map Value.ref)] fun u N' => N' = [Fact (eInsA G.w) u (nm, ops)] := by
  refine fill_of G.X ?_; k_fill; intro _
  refine' Tr.make (dks := [.str (Str.ofString "")]) (ds := [.str (Str.ofString "") 1299]) [Str.ofString "self", Str.ofString "name", Str.ofString "operands", Str.ofString "prefix"] ?hmk ?hi ?hf ?ho ?hcd ?hd ?hb ?ok ?_
  case hmk => k_is
  case hi => k_is
  case hf => k_is
  case ho => k_is
  case hcd => k_is
  case hd => exact .cons ⟨_, rfl⟩ .nil
  case hb =>
    intro s vs x X h
    cases h with | cons r h => cases h with | cons r h => cases h; exact binds_K X rfl (by k_is) rfl rfl rfl
  case ok => kernel_rfl
  intro d x
  dsimp only [HD.B58_0, HD.C58_0, HD.qB58_0, HD.qC58_0]
  show Wk _ [(Str.ofString "prefix", .str (Str.ofString "")), (Str.ofString "operands", .val v), (Str.ofString "name", .str (Str.ofString nm)), (Str.ofString "self", .ref x)] _ _ _
  refine Wk.open (φ := fun a => v = .ref a) (Q' := fun a => Fact eTup (.ref a) (ops.map Value.ref)) 1 rfl (fun l z h y => ?_) fun tp er => ?_
  · obtain ⟨e, a, n, ev, r⟩ := y
    exact ⟨a, ev, e, a, n, rfl, r⟩
  subst er
  refine Wk.setNew (j := 0) (C := 868) (Ev.use (k := .str (Str.ofString nm)) (by walk_at "sl:ev") fun v d => ⟨_, _, rfl, rfl, Nat.le_of_ble_eq_true rfl, d, ?_⟩) (fun N => by walk_at "sl:ev") (by kernel_rfl) (by rfl)
  refine Wk.setNew (j := 0) (C := 868) (Ex.callY (by walk_at "sl:bi") (.cons (Ev.ref (a := tp) (by walk_at "sl:ev") (.nil (Sm.tupT (i := 1) rfl ⟨_, .ref tp, rfl, rfl, Nat.le_of_ble_eq_true rfl, rfl, ?_⟩))) rfl) rfl) (fun N => by walk_at "sl:ev") (by kernel_rfl) (by rfl)
  refine Wk.setNew (j := 0) (C := 868) (Ev.use (k := .str (Str.ofString "")) (by walk_at "sl:ev") fun v d => ⟨_, _, rfl, rfl, Nat.le_of_ble_eq_true rfl, d, ?_⟩) (fun N => by walk_at "sl:ev") (by kernel_rfl) (by rfl)
  refine Wk.vs [true] (NewO.fz (es := [(Str.ofString "name", .str (Str.ofString nm)), (Str.ofString "operands", .ref tp), (Str.ofString "prefix", .str (Str.ofString ""))]) (Q := InsI G x tp nm) fun z d des y I h => ?_) (Wk.shl (fun h S => Fact.new (R := eInsA G.w) (v := .ref x) (y := (nm, ops)) (fun z ls h O => ?_) S) (.vs [false, true, true] .drops (.nil ⟨rfl, rfl⟩)))
  · obtain ⟨t1, v1, _, rfl, d1, y⟩ := entD_inv y
    obtain ⟨t2, v2, _, rfl, d2, y⟩ := entD_inv y
    obtain ⟨t3, v3, _, rfl, d3, y⟩ := entD_inv y
    cases y
    obtain ⟨_, rfl⟩ := d1
    obtain ⟨_, rfl⟩ := d3
    cases d2
    exact ⟨rfl, _, _, _, _, _, _, I⟩
  · obtain ⟨_, ⟨_, di, k1, k2, k3, t1, t3, I⟩, _⟩ := O.ok.get (i := 0) rfl
    obtain ⟨_, ⟨_, a, n, ea, g⟩, _⟩ := O.ok.get (i := 1) rfl
    cases ea
    exact ⟨x, rfl, di, k1, k2, k3, t1, t3, tp, n, I, g⟩
theorem t_Dec {ins : Ins} : Tr G 5 (.ref 262) [.val v, .int num, .none, .none] [Fact (eIns G.w) v ins] fun u N' => N' = [Fact (eDec G.w) u (ins, num)] := by
  refine fill_of G.X ?_; k_fill; intro _
  refine' Tr.make (dks := []) (ds := []) [Str.ofString "self", Str.ofString "instruction", Str.ofString "length", Str.ofString "form", Str.ofString "prefixes"] ?hmk ?hi ?hf ?ho ?hcd ?hd ?hb ?ok ?_
  case hmk => k_is
  case hi => k_is
  case hf => k_is
  case ho => k_is
  case hcd => k_is
  case hd => exact .nil
  case hb =>
    intro s vs x X h
    cases h with | cons r h => cases h with | cons r h => cases h with | cons r h => cases h with | cons r h => cases h; exact BindsTo.of_eq rfl
  case ok => kernel_rfl
  intro d x
  dsimp only [HD.B15_0, HD.C15_0, HD.qB15_0, HD.qC15_0]
  show Wk _ [(Str.ofString "prefixes", .none), (Str.ofString "form", .none), (Str.ofString "length", .int num), (Str.ofString "instruction", .val v), (Str.ofString "self", .ref x)] _ _ _
  refine Wk.open (φ := fun a => v = .ref a) (Q' := fun a => Fact (eIns G.w) (.ref a) ins) 1 rfl (fun l z h y => ?_) fun ia er => ?_
  · obtain ⟨e, a, ev, r⟩ := y
    exact ⟨a, ev, e, a, rfl, r⟩
  subst er
  refine Wk.setNew (j := 0) (C := 262) (Ev.use (k := .ref ia) (by walk_at "sl:ev") fun v d => ⟨_, _, rfl, rfl, Nat.le_of_ble_eq_true rfl, d, ?_⟩) (fun N => by walk_at "sl:ev") (by kernel_rfl) (by rfl)
  refine Wk.setNew (j := 0) (C := 262) (Ev.use (k := .int num) (by walk_at "sl:ev") fun v d => ⟨_, _, rfl, rfl, Nat.le_of_ble_eq_true rfl, d, ?_⟩) (fun N => by walk_at "sl:ev") (by kernel_rfl) (by rfl)
  refine Wk.setNew (j := 0) (C := 262) (Ev.use (k := .none) (by walk_at "sl:ev") fun v d => ⟨_, _, rfl, rfl, Nat.le_of_ble_eq_true rfl, d, ?_⟩) (fun N => by walk_at "sl:ev") (by kernel_rfl) (by rfl)
  refine Wk.setNew (j := 0) (C := 262) (Ev.use (k := .none) (by walk_at "sl:ev") fun v d => ⟨_, _, rfl, rfl, Nat.le_of_ble_eq_true rfl, d, ?_⟩) (fun N => by walk_at "sl:ev") (by kernel_rfl) (by rfl)
  refine Wk.vs [true] (NewO.fz (es := [(Str.ofString "instruction", .ref ia), (Str.ofString "length", .int num), (Str.ofString "form", .none), (Str.ofString "prefixes", .none)]) (Q := DecF G x ia num) fun z d des y I h => ?_) (Wk.shl (fun h S => Fact.new (R := eDec G.w) (v := .ref x) (y := (ins, num)) (fun z ls h O => ?_) S) (.vs [false, true, true] .drops (.nil ⟨rfl, rfl⟩)))
  · obtain ⟨t1, v1, _, rfl, d1, y⟩ := entD_inv y
    obtain ⟨t2, v2, _, rfl, d2, y⟩ := entD_inv y
    obtain ⟨t3, v3, _, rfl, d3, y⟩ := entD_inv y
    obtain ⟨t4, v4, _, rfl, d4, y⟩ := entD_inv y
    cases y
    obtain ⟨_, rfl⟩ := d2
    cases d1
    cases d3
    cases d4
    exact ⟨rfl, _, _, _, _, _, _, I⟩
  · obtain ⟨_, d1, _⟩ := O.ok.get (i := 0) rfl
    obtain ⟨_, d2, _⟩ := O.ok.get (i := 1) rfl
    obtain ⟨_, a, ea, r⟩ := d2
    cases ea
    exact ⟨x, ia, rfl, d1.2, r⟩
end
theorem Ls.body {a : Addr} {rows : List (String × Int)} : Ent [Ls false eRow a rows] [Fact eBody (.ref a) rows] := .freeze fun l z h z' ⟨e, vs, n, g, y⟩ kz kh => ⟨rfl, a, vs, n, rfl, kh a (e ▸ .head _) _ g, y.mono fun _ _ q => RowAt.keeps q kz⟩
theorem Bag.le {G : Gx} {b : Addr} {k k' : Nat} (h : k ≤ k') : Ent [Bag G b k] [Bag G b k'] := .imp fun l z hh y => by
  obtain ⟨q, hq, y⟩ := y
  exact ⟨q, ⟨Nat.le_trans hq.1 h, hq.2⟩, y⟩
theorem t_bodies {G : Gx} {b : Addr} {k : Nat} (hk : k < 900) : Tr G 6 (.ref 1085) [.ref b] [Bag G b k] fun v N' => ∃ a l, v = .ref a ∧ BodsOk 0 l ∧ l.length = 3 ∧ N' = [Ls true eBody a (bodsOf 0 l), Bag G b (k + 12)] := by
  refine fill_of G.X ?_; k_fill; intro _
  refine' Tr.enter [Str.ofString "bag"] ?ho ?hcd ?hb ?ok ?_
  case ho => k_is
  case hcd => k_is
  case hb =>
    intro s vs X h
    cases h with
    | cons r h => cases h; exact BindsTo.of_eq rfl
  case ok => kernel_rfl
  intro d
  show Wk _ [(Str.ofString "bag", .ref b)] _ _ _
  dsimp only [HD.B105, HD.C105, HD.qB105, HD.qC105]
  refine Wk.assign (Ex.nilL eBody fun fl => ⟨.ref fl, rfl, ?_⟩) (by kernel_rfl) (by rfl)
  refine Wk.forX (D := fun m N => ∃ l, BodsOk 0 l ∧ l.length = 3 ∧ m = [(Str.ofString "found", .ref fl), (Str.ofString "bag", .ref b)] ∧ N = [Ls false eBody fl (bodsOf 0 l), Bag G b (k + 12)]) (by walk_at "sl:bi") (Ev.use (k := .int 3) Ev.int fun v dv => ⟨3, dv, by decide, fun i m N => ∃ l, BodsOk 0 l ∧ l.length = i ∧ m = [(Str.ofString "found", .ref fl), (Str.ofString "bag", .ref b)] ∧ N = [Ls false eBody fl (bodsOf 0 l), Bag G b (k + 4 * i)], ?_, ?_, fun _ _ y => y⟩) ?_ (by kernel_rfl)
  · exact ⟨[], trivial, rfl, rfl, rfl⟩
  · rintro i mi Ni It hi ⟨l, lok, hl, rfl, rfl⟩
    refine Wk.assign (Ex.nilL eRow fun ba => ⟨.ref ba, rfl, ?_⟩) (by kernel_rfl) (by rfl)
    refine Wk.forX (D := fun m N => ∃ its ba, ItemsOk i its ∧ m = [(Str.ofString "body", .ref ba), (Str.ofString "number", .int i), (Str.ofString "found", .ref fl), (Str.ofString "bag", .ref b)] ∧ ∃ k', k' ≤ k + 4 * i + 4 ∧ N = [Ls false eRow ba (rowsOf its), It, Ls false eBody fl (bodsOf 0 l), Bag G b k']) (by walk_at "sl:bi")
      (Ex.callT (f := .ref 1078) (by walk_at "sl:fn") (.cons (by walk_at "sl:ev") (.cons (by walk_at "sl:ev") .nil rfl) rfl) (t_below (b := b) (by omega) (.inr (.inr (.inl rfl)))) [false, false, false, true] rfl (by kernel_rfl) fun v N1 ⟨n, hn, dv, e⟩ => ⟨n, dv, by omega,
        fun j m N => ∃ its ba, its.length = j ∧ (∀ x ∈ its, x.Ok i) ∧ m = [(Str.ofString "body", .ref ba), (Str.ofString "number", .int i), (Str.ofString "found", .ref fl), (Str.ofString "bag", .ref b)] ∧ N = [Ls false eRow ba (rowsOf its), It, Ls false eBody fl (bodsOf 0 l), Bag G b (k + 4 * i + 1 + j)], ?_, ?_, ?_⟩) ?_ (by kernel_rfl)
    · subst e; exact ⟨[], ba, rfl, (fun _ hx => nomatch hx), rfl, rfl⟩
    · subst e
      rintro j m N It2 hj ⟨its, ba, hits, iok, rfl, rfl⟩
      have hrl := rowsOf_len its
      refine Wk.assign (Ex.callT (f := .ref 1078) (by walk_at "sl:fn") (.cons (by walk_at "sl:ev") (.cons (by walk_at "sl:ev") .nil rfl) rfl) (t_below (b := b) (by omega) (.inr (.inr (.inr (.inl rfl))))) [false, false, false, false, true] rfl (by kernel_rfl) fun v N1 ⟨w, hw, dv, e⟩ => ⟨.int w, dv, ?_⟩) (by kernel_rfl) (by rfl)
      subst e
      refine Wk.ite (P' := LoopP _ _ _ _ _) (Tx.of (Et.and2 (Et.ltI (by walk_at "sl:ev") (by walk_at "sl:ev") rfl rfl) (Et.ltI (by walk_at "sl:ev") (by walk_at "sl:ev") rfl rfl)) ?_) (fun _ _ y => Wk.nil y) fun _ _ _ _ y => y
      cases hc : (decide ((w : Int) < 2) && decide ((i : Int) < 2)) with
      | true =>
        simp only [Bool.and_eq_true, decide_eq_true_eq] at hc
        refine Wk.append (i := 1) (R := eRow) (by walk_at "sl:ev") rfl ((Er.mk (s := "call") (n := (if 2 < (i : Int) + 1 + w then 2 else (i : Int) + 1 + w)) (fun _ => Ev.str) (fun _ => Ev.min (by walk_at "sl:bi") (by walk_at "sl:ev") (by walk_at "sl:ev") rfl) rfl _).mono fun v N' e => by
          subst e
          refine ⟨_, .rfl', 2, rowsOf its, ("call", if 2 < (i : Int) + 1 + w then 2 else (i : Int) + 1 + w), rfl, by omega, NF.fact (i := 0) rfl, .vs [true] .drop (.nil ⟨_, rfl, _, ⟨its ++ [.call (if 2 < i + 1 + w then 2 else i + 1 + w)], ba, by simp [hits], ?_, rfl, ?_⟩, rfl, rfl, rfl, rfl, trivial⟩)⟩
          · intro x hx
            rcases List.mem_append.mp hx with hx | hx
            · exact iok x hx
            · rw [List.mem_singleton.mp hx]
              show i < _ ∧ _ ≤ 2
              split <;> omega
          · have e : (((if 2 < i + 1 + w then 2 else i + 1 + w : Nat) : Int)) = if 2 < (i : Int) + 1 + w then 2 else (i : Int) + 1 + w := by split <;> split <;> omega
            rw [rowsOf_snoc, Item.rows, e]; rfl) rfl rfl rfl rfl
      | false => 
        refine Wk.assign (Ex.ite (Tx.of (b := decide ((w : Int) = 2)) (Et.eqI (by walk_at "sl:ev") (by walk_at "sl:ev") rfl rfl) ?_)) (by kernel_rfl) (by rfl)
        by_cases h2 : (w : Int) = 2
        · rw [decide_eq_true h2]
          refine Ex.bin (Ev.ref (a := ba) (by walk_at "sl:ev") <| Ex.rows (rows := [("push", 0), ("pop", 1)]) (.cons (Er.mk (fun _ => Ev.str) (fun _ => Ev.int) rfl) (.cons (Er.mk (fun _ => Ev.str) (fun _ => Ev.int) rfl) .nil)) rfl fun a => Sm.catR (i := 2) (j := 0) rfl rfl (by simp only [List.length_cons, List.length_nil]; omega) fun d => ⟨.ref d, rfl, ?_⟩)
          refine Wk.vs [true] .drop (.nil ⟨_, rfl, _, ⟨its ++ [.pp], d, by simp [hits], ?_, rfl, by rw [rowsOf_snoc]; rfl⟩, rfl, rfl, rfl, rfl, trivial⟩)
          intro x hx
          rcases List.mem_append.mp hx with hx | hx
          · exact iok x hx
          · rw [List.mem_singleton.mp hx]; trivial
        · rw [decide_eq_false h2]
          refine Ex.bin (Ev.ref (a := ba) (by walk_at "sl:ev") <| Ex.rows (rows := [("nop", 0)]) (.cons (Er.mk (fun _ => Ev.str) (fun _ => Ev.int) rfl) .nil) rfl fun a => Sm.catR (i := 2) (j := 0) rfl rfl (by simp only [List.length_cons, List.length_nil]; omega) fun d => ⟨.ref d, rfl, ?_⟩)
          refine Wk.vs [true] .drop (.nil ⟨_, rfl, _, ⟨its ++ [.nop], d, by simp [hits], ?_, rfl, by rw [rowsOf_snoc]; rfl⟩, rfl, rfl, rfl, rfl, trivial⟩)
          intro x hx
          rcases List.mem_append.mp hx with hx | hx
          · exact iok x hx
          · rw [List.mem_singleton.mp hx]
            simp only [Bool.and_eq_false_imp, decide_eq_true_eq, decide_eq_false_iff_not] at hc
            show i = 2
            omega
    · rintro m N ⟨its, ba, hits, iok, rfl, rfl⟩
      exact ⟨its, ba, ⟨by omega, iok⟩, rfl, _, by omega, rfl⟩
    · rintro m N ⟨its, ba, iok, rfl, k', hk', rfl⟩
      have hrl := rowsOf_len its
      have := iok.1
      refine Wk.append (i := 2) (R := eBody) (by walk_at "sl:ev") rfl (Ex.bin (Ex.bin (Ex.rows (rows := [("push", 5), ("mov", 0)]) (.cons (Er.mk (fun _ => Ev.str) (fun _ => Ev.int) rfl) (.cons (Er.mk (fun _ => Ev.str) (fun _ => Ev.int) rfl) .nil)) rfl fun a => Ev.ref (a := ba) (by walk_at "sl:ev") <| Sm.catR (i := 0) (j := 1) rfl rfl (by simp only [List.length_cons, List.length_nil]; omega) fun a2 =>
        Ex.rows (rows := [("pop", 5), (if i = 0 then "hlt" else "ret", 0)]) (.cons (Er.mk (fun _ => Ev.str) (fun _ => Ev.int) rfl) (.cons (Er.mk (fun _ => ?_) (fun _ => Ev.int) rfl) .nil)) rfl fun a3 => Sm.catR (i := 1) (j := 0) rfl rfl (by simp only [List.length_append, List.length_cons, List.length_nil]; omega) fun a4 =>
        ⟨_, .vs [false, true] Ls.body, 4, bodsOf 0 l, bodyOf i its, rfl, by rw [bodsOf_length]; omega, NF.fact (i := 1) rfl, .vs [true, true, true] .drops (.vs [false, false, true] (Bag.le (k' := k + 4 * (i + 1)) (by omega)) (.nil ⟨_, rfl, _, ⟨l ++ [its], lok.snoc (by rw [Nat.zero_add, hl]; exact iok), by simp [hl], rfl, ?_⟩, rfl, rfl, trivial⟩))⟩))) rfl rfl rfl rfl
      · by_cases h : i = 0
        · subst h
          exact Ev.ite (b := true) (Et.eqI (by walk_at "sl:ev") (by walk_at "sl:ev") rfl rfl) (fun _ => Ev.str) nofun
        · rw [if_neg h]
          exact Ev.ite (b := false) (Et.eqI (by walk_at "sl:ev") (by walk_at "sl:ev") (decide_eq_false (by omega)) rfl) nofun fun _ => Ev.str
      · rw [bodsOf_snoc, Nat.zero_add, hl]; rfl
  · rintro m N ⟨l, lok, hl, rfl, rfl⟩
    refine Wk.vs [true] Ls.freeze (Wk.ret (Ev.use (k := .ref fl) (by walk_at "sl:ev") fun v dv => ⟨fl, l, dv, lok, hl, rfl⟩))
section
variable {G : Gx} {rn : Nat} {c : Fx G rn} {m m' : Lm} {N N' N1 : List HP} {e e1 e2 : PySem.Expr} {es : List PySem.Expr} {k k1 k2 : AV} {ks : List AV} {x x2 : Str} {p p' p2 : Pos} {K K' : Value → List HP → Prop} {P P' : Flow → Lm → List HP → Prop} {rest body b1 b2 : List Stmt} {t : Sem Value} {num : Int} {v : Value}
theorem Ex.tuple {kk : Nat} (h : Xs c m N es fun vs N' => vs.length ≤ 1000 ∧ ∀ a, K (.ref a) (Fact eTup (.ref a) vs :: N')) : Ex c m N (.Tuple es kk p) K := fun h1 tk S =>
  Tuple_ (Xs.go h S fun vs h' tk' N' S' y => by
    obtain ⟨hl, y⟩ := y
    refine wpAny_newTuple (s := c.at h' tk') ⟨_, tk', _, rfl, ?_, y h'.objs.size⟩ (sizeLine_of (Nat.le_trans hl (by decide)))
    exact (S'.new (P := Tup h'.objs.size vs) (fun b o e => Heap.get?_push_of_some _ e) (Heap.get?_none_of_le (Nat.le_refl _)) fun z _ => ⟨rfl, 0, Heap.get?_push_size _ rfl⟩).vs [true] Tup.freeze)
theorem open_body {v : Value} {rows : List (String × Int)} : ∀ l z h, (Fact eBody v rows).ok l z h → ∃ a, v = .ref a ∧ (Ls true eRow a rows).ok l z h := fun l z h ⟨e, a, vs, c, ev, g, y⟩ => ⟨a, ev, e, vs, c, g, y⟩
theorem open_row {v : Value} {r : String × Int} : ∀ l z h, (Fact eRow v r).ok l z h → ∃ a, v = .ref a ∧ (Ls true eAV a [.str (Str.ofString r.1), .int r.2]).ok l z h := fun l z h ⟨e, a, t1, t2, c, ev, g⟩ => ⟨a, ev, e, _, c, g, .cons ⟨_, rfl⟩ (.cons ⟨_, rfl⟩ .nil)⟩
theorem Et.inS {y : Str} {ss : List Str} {b : Bool} {kk : Nat} {pt : Pos} (h1 : Ev c m N e1 (.str y)) (h2 : Evs c m N es (ss.map .str)) (hl : ss.length ≤ 1000) (hb : ss.any (· == y) = b) (hm : behindInMarks .In (.Tuple es kk pt) = false) : Et c m N (.Compare e1 [.In] [.Tuple es kk pt] p) b :=
  Tx.cmp (h1.use fun v1 ⟨t, e⟩ => Ex.tuple (Xs.of h2 fun vs d => ⟨by rw [← d.length, List.length_map]; exact hl, fun a => fun h tk S => by
    subst e
    obtain ⟨z, l, zh, el, a', n, ea, g⟩ := S.get (i := 0) rfl
    cases ea
    have hs : ∀ {ss : List Str} {vs : List Value}, All2 AV.den (ss.map .str) vs → StrsAre vs ss := by
      intro ss
      induction ss with
      | nil => intro vs h; cases h; exact .nil
      | cons x r ih => intro vs h; cases h with | cons q h => obtain ⟨t, rfl⟩ := q; exact .cons x t (ih h)
    exact in_tuple_strs (s := c.at h tk) ⟨_, zh _ _ g, rfl, n, rfl⟩ (hs d) ⟨h, tk, N, rfl, S.unfact, b, by rw [hb], rfl, rfl⟩⟩)) hm
theorem Ex.ins {nm : String} {kk : Nat} {pt : Pos} (hf : Ev c m N (.Name x p') (.val (.ref 868))) (h1 : Ev c m N e1 (.str (Str.ofString nm))) (h2 : Xs c m N es fun vs N1 => ∃ ops : List Addr, vs = ops.map Value.ref ∧ ops.length ≤ 1000 ∧ ∀ v, K v (Fact (eInsA G.w) v (nm, ops) :: N1)) (ok : (decide (5 ≤ rn) && keepIn G.K (.ref 868) && plainE e1) = true) : Ex c m N (.Call (.Name x p') [e1, .Tuple es kk pt] [] p) K := by
  simp only [Bool.and_eq_true, decide_eq_true_eq] at ok
  refine .call hf ok.1.2 (.cons (h1.use fun v1 d1 => .cons (Ex.tuple (Xs.mono h2 fun vs N1 ⟨ops, ev, hl, hk⟩ => ⟨by rw [ev, List.length_map]; exact hl, fun a => .nil ?_⟩)) rfl) ok.2) (by rw [List.all_cons, ok.2]; rfl)
  subst ev
  exact Sm.tr (t_Ins (ops := ops) (v := .ref a)) ok.1.1 [true] pick1 (.cons d1 (.cons rfl .nil)) fun v N1' e => by subst e; rw [merge1]; exact hk v
end
section
variable {G : Gx} {rn : Nat} {c : Fx G rn} {m m' : Lm} {N N' N1 : List HP} {e e1 e2 : PySem.Expr} {es : List PySem.Expr} {k k1 k2 : AV} {ks : List AV} {x x2 : Str} {p p' p2 pq : Pos} {K K' : Value → List HP → Prop} {P P' : Flow → Lm → List HP → Prop} {rest body b1 b2 : List Stmt} {t : Sem Value} {num : Int} {v : Value} {a : Addr} {i j : Nat} {fz : Bool}
theorem Sm.len {α : Type} {R : ER α} {xs : List α} (hN : N[i]? = some (Ls fz R a xs)) (hl : xs.length ≤ 1000000) : Sm c m N (PySem.call (Value.builtin "len") [.ref a]) (Is (.int xs.length) N) := fun h tk S => by
  obtain ⟨vs, n, g, el, _⟩ := S.list hN
  have l1 : (c.at h tk).heap.IsList a (List.toArray vs) := ⟨_, g, rfl, n, rfl⟩
  exact PyProof.Rows.len_list (s := c.at h tk) l1 (by rw [List.size_toArray, el]; omega) ⟨h, tk + 1 + 1, N, rfl, S, rfl, _, by rw [List.size_toArray, el]⟩
theorem Ev.lenB {bs : List (List (String × Int))} {rows : List (String × Int)} (hf : Ev c m N (.Name x p') (.val (Value.builtin "len"))) (h1 : Ev c m N e1 (.ref a)) (h2 : Ev c m N e2 (.int (j : Int))) (hN : N[i]? = some (Ls fz eBody a bs)) (hy : bs[j]? = some rows) (hl : rows.length ≤ 1000000) (hj : j ≤ 1000000)
    (hs : ∀ u, subscripted e2 false (.ref a) (.int (j : Int) u) = operate [.ref a, .int (j : Int) u] (getItem (.ref a) (.int (j : Int) u))) : Ev c m N (.Call (.Name x p') [.Subscript e1 e2 pq] [] p) (.int rows.length) :=
  Ex.callB hf (.cons (.item h1 h2 hN hy hj hs fun v => .nil (Sm.open 0 rfl open_body fun b hb => hb ▸ Sm.post (Sm.len (i := 0) rfl hl) fun w N' h ⟨e1, d⟩ S => ⟨N, (e1 ▸ S).unfact, rfl, d⟩)) rfl) rfl
theorem t_begins {bo : Addr} {b0 b1 b2 : List (String × Int)} {begin wide : Int} (hb0 : b0.length ≤ 10) (hb1 : b1.length ≤ 10) (hw0 : 1 ≤ wide) (hw1 : wide ≤ 6) (hg0 : 0 ≤ begin) (hg1 : begin < 2000000000000) :
    Tr G 6 (.ref 1092) [.ref bo, .int begin, .int wide] [Ls true eBody bo [b0, b1, b2]] fun v N' => ∃ a, v = .ref a ∧ N' = [Ls true eInt a [begin, begin + wide * b0.length, begin + wide * (b0.length + b1.length)], Ls true eBody bo [b0, b1, b2]] := by
  refine fill_of G.X ?_; k_fill; intro _
  refine' Tr.enter [Str.ofString "bodies", Str.ofString "begin", Str.ofString "wide"] ?ho ?hcd ?hb ?ok ?_
  case ho => k_is
  case hcd => k_is
  case hb =>
    intro s vs X h
    cases h with | cons r h => cases h with | cons r h => cases h with | cons r h => cases h; exact BindsTo.of_eq rfl
  case ok => kernel_rfl
  intro d
  show Wk _ [(Str.ofString "wide", .int wide), (Str.ofString "begin", .int begin), (Str.ofString "bodies", .ref bo)] _ _ _
  dsimp only [HD.B106, HD.C106, HD.qB106, HD.qC106]
  have hw : wide.natAbs < 2 ^ 64 := by omega
  refine Wk.retS (Ex.listK (ks := [begin, begin + wide * b0.length, begin + wide * (b0.length + b1.length)].map .int) (.cons (by walk_at "sl:ev") (.cons (.add (by walk_at "sl:ev") (.mul (by walk_at "sl:ev") (Ev.lenB (i := 0) (j := 0) (by walk_at "sl:bi") (by walk_at "sl:ev") Ev.int rfl rfl (by omega) (by decide) fun _ => rfl) (mulOkL hw))) (.cons (.add (by walk_at "sl:ev") (.mul (by walk_at "sl:ev") (.add (Ev.lenB (i := 0) (j := 0) (by walk_at "sl:bi") (by walk_at "sl:ev") Ev.int rfl rfl (by omega) (by decide) fun _ => rfl) (Ev.lenB (i := 0) (j := 1) (by walk_at "sl:bi") (by walk_at "sl:ev") Ev.int rfl rfl (by omega) (by decide) fun _ => rfl)) (mulOkL hw))) .nil rfl) rfl) rfl) (Nat.le_of_ble_eq_true rfl) fun a => ⟨_, .vs [true] Ls.ints, a, rfl, rfl⟩)
end
noncomputable def PrgD (G : Gx) (bgs : Nat → Int) (begin wide : Int) (all : List (String × Int)) (fd : Addr) (n : Nat) : HP :=
  ⟨fun l z h => l = [fd] ∧ ∃ kvs o, h.get? fd = some o ∧ o.IsDictOf (intKind G.prog G.w) kvs ∧ Laid G.w z kvs bgs begin wide all n ∧ (fd == sysModules) = false,
    fun ⟨e, kvs, o, g, d, y, lo⟩ kz kh => ⟨e, kvs, o, kh _ (e ▸ .head _) _ g, d, y.keeps kz, lo⟩, fun ⟨e, kvs, o, g, _⟩ a ha => by rw [e] at ha; exact List.mem_singleton.mp ha ▸ ⟨_, g⟩⟩
section
variable {G : Gx} {rn : Nat} {c : Fx G rn} {m m' : Lm} {N N' N1 : List HP} {e e1 e2 : PySem.Expr} {es : List PySem.Expr} {k k1 k2 : AV} {ks : List AV} {x x2 : Str} {p p' p2 pq : Pos} {K K' : Value → List HP → Prop} {P P' : Flow → Lm → List HP → Prop} {rest body b1 b2 : List Stmt} {t : Sem Value} {v : Value} {fd : Addr} {i n : Nat} {bgs : Nat → Int} {begin wide : Int} {all : List (String × Int)} {r : String × Int}
theorem PrgD.mk0 : Ent [DctE G fd] [PrgD G bgs begin wide all fd 0] := .imp fun l z h y => by
  obtain ⟨e, lo, o, g, hd⟩ := y
  exact ⟨e, [], o, g, hd, ⟨rfl, fun N r hN => absurd hN (Nat.not_lt_zero _)⟩, lo⟩
theorem Su.prg {p : Int} {iv : Value} {K : List HP → Prop} (hN : N[i]? = some (PrgD G bgs begin wide all fd n)) (hp : p = begin + wide * (n : Int)) (hi : (AV.int p).den iv) (hr : all[n]? = some r) (hw : 1 ≤ wide) (hn : n ≤ 100) (hf : NF N fun z => (eDec G.w).r z v (rowIns bgs wide p r, wide)) (hk : K (N.set i (PrgD G bgs begin wide all fd (n + 1)))) : Su c m N (PySem.setItem (.ref fd) iv v) K := fun h tk S => by
  obtain ⟨t, rfl⟩ := hi
  subst hp
  obtain ⟨f0, z, ls, ag, X⟩ := S
  obtain ⟨l, ⟨e, kvs, o, g, hd, y, lo⟩, off, put⟩ := X.put ag hN
  obtain ⟨es, ep, hx⟩ := hd
  have hl : kvs.length = n := by
    have := congrArg List.length y.1
    simpa using this
  obtain ⟨f, j, ev, hd, hi⟩ := hf z ls h X.own
  obtain ⟨e2, y2⟩ := y.put hw hr hd hi
  subst ev
  refine wpAny_setItem_pairs (s := c.at h tk) (knd := intKind G.prog G.w) (kvs := kvs) (intKind_is G.prog G.w _ t) ⟨o, es, ep, g, hx⟩ (fun h' hm' hs' => ⟨h', _, _, rfl, put (fun b o hb e' => (hs'.2 b fun q => hb (by rw [e, q]; exact .head _)).trans e') ?_, hk⟩) (sizeLine_of (by omega))
  obtain ⟨o', es', ep', e', hx'⟩ := hm'
  exact ⟨e, _, o', e', ⟨es', ep', hx'⟩, y2, lo⟩
end
section
variable {G : Gx} {rn : Nat} {c : Fx G rn} {m m' : Lm} {N N' N1 : List HP} {e e1 e2 : PySem.Expr} {x x2 : Str} {p p' p2 pq : Pos} {K K' : Value → List HP → Prop}
theorem Ex.reg {n : Int} {c1 c2 : Pos} (hf : Ev c m N (.Name x p') (.val (.ref 774))) (hg : Ev c m N (.Name x2 p2) (.val (.ref 462))) (he : Ev c m N e (.int n)) (h0 : 0 ≤ n) (h1 : n < 8) (ok : (decide (5 ≤ rn) && keepIn G.K (.ref 774) && keepIn G.K (.ref 462) && plainE e) = true) (hk : ∀ a, K (.ref a) (Fact (eOp G.w) (.ref a) n :: N)) :
    Ex c m N (.Call (.Name x p') [.Call (.Name x2 p2) [e, .Constant (.int 64) 0 pq] [] c1] [] c2) K := by
  simp only [Bool.and_eq_true, decide_eq_true_eq] at ok
  refine .call hf ok.1.1.2 (.cons (Ex.callT hg (.cons he (.cons Ev.int .nil rfl) ok.2) (t_gpr h0 h1) [] (by cases N <;> rfl) (by rw [decide_eq_true (Nat.le_of_succ_le ok.1.1.1), ok.1.2, List.all_cons, ok.2]; rfl) fun v N1 e => ?_) rfl) rfl
  subst e
  refine .nil (Sm.tr (t_Reg (v := v) (num := n)) ok.1.1.1 [true] (by cases N <;> rfl) (.cons rfl .nil) fun u N1' ⟨a, e1, e2⟩ => ?_)
  subst e1 e2
  have := hk a
  cases N <;> exact this
theorem ins_stack {nm : String} {num : Int} {a : Addr} {v : Value} {i j : Nat} {bgs : Nat → Int} {wide q : Int} (hn : nm = "push" ∨ nm = "pop") (h0 : 0 ≤ num) (h8 : num < 8) (h1 : N[i]? = some (Fact (eInsA G.w) v (nm, [a]))) (h2 : N[j]? = some (Fact (eOp G.w) (.ref a) num)) : NF N fun z => (eIns G.w).r z v (rowIns bgs wide q (nm, num)) := fun z ls h O => by
  obtain ⟨f, rfl, I⟩ := NF.fact h1 z ls h O
  obtain ⟨a', ra, e, O1, O2⟩ := NF.fact h2 z ls h O
  cases e
  have e2 : num = (num.toNat : Int) := (Int.toNat_of_nonneg h0).symm
  rw [e2] at O2
  rcases hn with rfl | rfl
  · rw [rowIns_push]; exact ⟨f, rfl, by omega, a, ra, I, O1, O2⟩
  · rw [rowIns_pop]; exact ⟨f, rfl, by omega, a, ra, I, O1, O2⟩
theorem ins_mov {num : Int} {a b : Addr} {v : Value} {i j k : Nat} {bgs : Nat → Int} {wide q : Int} (h1 : N[i]? = some (Fact (eInsA G.w) v ("mov", [a, b]))) (h2 : N[j]? = some (Fact (eOp G.w) (.ref a) 5)) (h3 : N[k]? = some (Fact (eOp G.w) (.ref b) 4)) : NF N fun z => (eIns G.w).r z v (rowIns bgs wide q ("mov", num)) := fun z ls h O => by
  obtain ⟨f, rfl, I⟩ := NF.fact h1 z ls h O
  obtain ⟨a', ra, e, O1, O2⟩ := NF.fact h2 z ls h O
  obtain ⟨b', rb, e3, O3, O4⟩ := NF.fact h3 z ls h O
  cases e
  cases e3
  rw [rowIns_mov]; exact ⟨f, rfl, a, ra, b, rb, I, O1, O2, O3, O4⟩
theorem ins_call {num w : Int} {a : Addr} {v : Value} {i j : Nat} {bgs : Nat → Int} {wide q : Int} (hw : w = bgs num.toNat - q - wide) (h1 : N[i]? = some (Fact (eInsA G.w) v ("call", [a]))) (h2 : N[j]? = some (Fact (eRel G.w) (.ref a) w)) : NF N fun z => (eIns G.w).r z v (rowIns bgs wide q ("call", num)) := fun z ls h O => by
  obtain ⟨f, rfl, I⟩ := NF.fact h1 z ls h O
  obtain ⟨a', e, O1⟩ := NF.fact h2 z ls h O
  cases e
  rw [rowIns_call, ← hw]; exact ⟨f, rfl, a, I, O1⟩
theorem ins_else {nm : String} {num : Int} {v : Value} {i : Nat} {bgs : Nat → Int} {wide q : Int} (hn : nm = "nop" ∨ nm = "hlt" ∨ nm = "ret") (h1 : N[i]? = some (Fact (eInsA G.w) v (nm, []))) : NF N fun z => (eIns G.w).r z v (rowIns bgs wide q (nm, num)) := fun z ls h O => by
  obtain ⟨f, rfl, I⟩ := NF.fact h1 z ls h O
  rcases hn with rfl | rfl | rfl
  · rw [rowIns_nop]; exact ⟨f, rfl, I⟩
  · rw [rowIns_hlt]; exact ⟨f, rfl, I⟩
  · rw [rowIns_ret]; exact ⟨f, rfl, I⟩
end
theorem t_program {G : Gx} {bo bg : Addr} {bs : List (List (String × Int))} {ns : List Int} {begin wide : Int} (hns : ∀ i, i < bs.length → ns.getD i 0 = begin + wide * ((bs.take i).flatten.length : Int)) (hnl : ns.length = bs.length) (hbl : bs.length ≤ 3)
    (hrow : ∀ b ∈ bs, ∀ r ∈ b, RowOk bs.length r) (hsz : bs.flatten.length ≤ 60) (hw : 1 ≤ wide) (hw6 : wide ≤ 6) : Tr G 8 (.ref 1099) [.ref bo, .ref bg, .int wide] [Ls true eBody bo bs, Ls true eInt bg ns] fun v N' => ∃ fd, v = .ref fd ∧ N' = [PrgD G (fun k => ns.getD k 0) begin wide bs.flatten fd bs.flatten.length, Ls true eBody bo bs, Ls true eInt bg ns] := by
  refine fill_of G.X ?_; k_fill; intro _
  refine' Tr.enter [Str.ofString "bodies", Str.ofString "begins", Str.ofString "wide"] ?ho ?hcd ?hb ?ok ?_
  case ho => k_is
  case hcd => k_is
  case hb =>
    intro s vs X h
    cases h with | cons r h => cases h with | cons r h => cases h with | cons r h => cases h; exact BindsTo.of_eq rfl
  case ok => kernel_rfl
  intro d
  show Wk _ [(Str.ofString "wide", .int wide), (Str.ofString "begins", .ref bg), (Str.ofString "bodies", .ref bo)] _ _ _
  dsimp only [HD.B107, HD.C107, HD.qB107, HD.qC107]
  refine Wk.assign (Ex.dictE fun fd => ⟨.ref fd, rfl, Wk.vs [true] (PrgD.mk0 (bgs := fun k => ns.getD k 0) (begin := begin) (wide := wide) (all := bs.flatten)) ?_⟩) (by kernel_rfl) (by rfl)
  refine Wk.forZ (D := fun m N => m = [(Str.ofString "found", .ref fd), (Str.ofString "wide", .int wide), (Str.ofString "begins", .ref bg), (Str.ofString "bodies", .ref bo)] ∧ N = [PrgD G (fun k => ns.getD k 0) begin wide bs.flatten fd bs.flatten.length, Ls true eBody bo bs, Ls true eInt bg ns])
    (fun i m N => m = [(Str.ofString "found", .ref fd), (Str.ofString "wide", .int wide), (Str.ofString "begins", .ref bg), (Str.ofString "bodies", .ref bo)] ∧ N = [PrgD G (fun k => ns.getD k 0) begin wide bs.flatten fd (bs.take i).flatten.length, Ls true eBody bo bs, Ls true eInt bg ns]) (j1 := 1) (j2 := 2) (by walk_at "sl:bi") (by walk_at "sl:ev") (by walk_at "sl:ev") rfl rfl hnl.symm ⟨rfl, rfl⟩ ?_ (fun mi Ni ⟨a, b⟩ => ⟨a, by rw [b, List.take_length]⟩) ?_ (by kernel_rfl)
  · rintro i u v mi Ni It rows b hr hb ⟨rfl, rfl⟩
    have hi : i < bs.length := (List.getElem?_eq_some_iff.mp hr).1
    refine Wk.open 1 rfl open_body fun ba hu => ?_
    refine Wk.open (Q' := fun _ : Tok => Fact eInt v b) (φ := fun t => v = .int b t) 2 rfl (fun l z h q => by obtain ⟨e, t, ev⟩ := q; exact ⟨t, ev, e, t, ev⟩) fun tb hv => ?_
    subst hu hv
    have eb : b = begin + wide * ((bs.take i).flatten.length : Int) := by
      rw [← hns i hi, List.getD_eq_getElem?_getD, hb]; rfl
    have hnx := flat_next bs i hr
    refine Wk.forE (D := fun m N => m = [(Str.ofString "begin", .val (.int b tb)), (Str.ofString "body", .val (.ref ba)), (Str.ofString "found", .ref fd), (Str.ofString "wide", .int wide), (Str.ofString "begins", .ref bg), (Str.ofString "bodies", .ref bo)] ∧ N = [It, Ls true eRow ba rows, Fact eInt (.int b tb) b, PrgD G (fun k => ns.getD k 0) begin wide bs.flatten fd ((bs.take i).flatten.length + rows.length), Ls true eBody bo bs, Ls true eInt bg ns]) (fun j m N => m = [(Str.ofString "begin", .val (.int b tb)), (Str.ofString "body", .val (.ref ba)), (Str.ofString "found", .ref fd), (Str.ofString "wide", .int wide), (Str.ofString "begins", .ref bg), (Str.ofString "bodies", .ref bo)] ∧ N = [It, Ls true eRow ba rows, Fact eInt (.int b tb) b, PrgD G (fun k => ns.getD k 0) begin wide bs.flatten fd ((bs.take i).flatten.length + j), Ls true eBody bo bs, Ls true eInt bg ns]) (j := 1) (by walk_at "sl:bi") (by walk_at "sl:ev") rfl ⟨rfl, rfl⟩ ?_ (fun _ _ y => y) ?_ (by kernel_rfl)
    · rintro j v2 mi Ni It2 ⟨nm, num⟩ hr2 ⟨rfl, rfl⟩
      have hj : j < rows.length := (List.getElem?_eq_some_iff.mp hr2).1
      refine Wk.open 1 rfl open_row fun ra hv => ?_
      subst hv
      refine Wk.set (k := .int (b + wide * (j : Int))) (.add (by walk_at "sl:ev") (.mul (by walk_at "sl:ev") (by walk_at "sl:ev") (mulOkL (by omega)))) (by kernel_rfl) (by rfl) ?_
      refine Wk.assign (Ex.ins (nm := nm) (by walk_at "sl:fn") (Ev.item (i := 1) (j := 0) (by walk_at "sl:ev") Ev.int rfl rfl (fun _ _ h => h) (by decide) fun _ => rfl) (.nil ⟨[], rfl, by decide, fun v3 => ⟨.val v3, rfl, ?_⟩⟩) (by kernel_rfl)) (by kernel_rfl) (by rfl)
      refine Wk.ite (P' := fun f m' N' => f = .next ∧ ∃ lv, SubL ((Str.ofString "line", .val lv) :: (Str.ofString "place", .int (b + wide * (j : Int))) :: [(Str.ofString "begin", .val (.int b tb)), (Str.ofString "body", .val (.ref ba)), (Str.ofString "found", .ref fd), (Str.ofString "wide", .int wide), (Str.ofString "begins", .ref bg), (Str.ofString "bodies", .ref bo)]) m' ∧ N' = Fact (eIns G.w) lv (rowIns (fun k => ns.getD k 0) wide (b + wide * (j : Int)) (nm, num)) :: [It2, It, Ls true eRow ba rows, Fact eInt (.int b tb) b, PrgD G (fun k => ns.getD k 0) begin wide bs.flatten fd ((bs.take i).flatten.length + j), Ls true eBody bo bs, Ls true eInt bg ns]) ?_ ?_ fun f m' N' hf y => absurd y.1 hf
      · have hok := hrow rows (List.mem_of_getElem? hr) (nm, num) (List.mem_of_getElem? hr2)
        unfold RowOk at hok
        dsimp only at hok
        rcases hok with ⟨hn, h0, h8⟩ | rfl | ⟨rfl, h0, h8⟩ | hn
        · refine Tx.of (b := true) (Et.inS (ss := [Str.ofString "push", Str.ofString "pop"]) (Ev.item (i := 2) (j := 0) (by walk_at "sl:ev") Ev.int rfl rfl (fun _ _ h => h) (by decide) fun _ => rfl) (.cons Ev.str (.cons Ev.str .nil rfl) rfl) (by decide) (by rcases hn with rfl | rfl <;> rfl) rfl) ?_
          refine Wk.assign (Ex.ins (nm := nm) (by walk_at "sl:fn") (Ev.item (i := 2) (j := 0) (by walk_at "sl:ev") Ev.int rfl rfl (fun _ _ h => h) (by decide) fun _ => rfl) (.cons (Ex.reg (n := num) (by walk_at "sl:fn") (by walk_at "sl:fn") (Ev.item (i := 2) (j := 1) (by walk_at "sl:ev") Ev.int rfl rfl (fun _ _ h => h) (by decide) fun _ => rfl) h0 h8 (by kernel_rfl) fun a => .nil ⟨[a], rfl, Nat.le_of_ble_eq_true rfl, fun lv => ⟨.val lv, rfl, ?_⟩⟩) rfl) (by kernel_rfl)) (by kernel_rfl) (by rfl)
          exact .fact (ins_stack hn h0 h8 (i := 0) (j := 1) rfl rfl) (.vs [false, true, true, true, false, true] .drops (.nil ⟨rfl, lv, ⟨rfl, rfl, rfl, rfl, rfl, rfl, rfl, rfl, trivial⟩, rfl⟩))
        · refine Tx.of (b := false) (Et.inS (ss := [Str.ofString "push", Str.ofString "pop"]) (Ev.item (i := 2) (j := 0) (by walk_at "sl:ev") Ev.int rfl rfl (fun _ _ h => h) (by decide) fun _ => rfl) (.cons Ev.str (.cons Ev.str .nil rfl) rfl) (by decide) rfl rfl) (Wk.ite (P' := fun f m' N' => f = .next ∧ _) (Tx.of (b := true) (Et.eqS (Ev.item (i := 2) (j := 0) (by walk_at "sl:ev") Ev.int rfl rfl (fun _ _ h => h) (by decide) fun _ => rfl) Ev.str rfl rfl) ?_) (fun _ _ y => .nil y) fun _ _ _ _ y => y)
          refine Wk.assign (Ex.ins (nm := "mov") (by walk_at "sl:fn") Ev.str (.cons (Ex.reg (by walk_at "sl:fn") (by walk_at "sl:fn") Ev.int (by decide) (by decide) (by kernel_rfl) fun a => .cons (Ex.reg (by walk_at "sl:fn") (by walk_at "sl:fn") Ev.int (by decide) (by decide) (by kernel_rfl) fun b => .nil ⟨[a, b], rfl, Nat.le_of_ble_eq_true rfl, fun lv => ⟨.val lv, rfl, ?_⟩⟩) rfl) rfl) (by kernel_rfl)) (by kernel_rfl) (by rfl)
          exact .fact (ins_mov (i := 0) (j := 2) (k := 1) rfl rfl rfl) (.vs [false, true, true, true, true, false, true] .drops (.nil ⟨rfl, lv, ⟨rfl, rfl, rfl, rfl, rfl, rfl, rfl, rfl, trivial⟩, rfl⟩))
        · obtain ⟨n, rfl⟩ : ∃ n : Nat, num = n := Int.eq_ofNat_of_zero_le h0
          have hk : ns[n]? = some (ns.getD n 0) := by rw [List.getD_eq_getElem?_getD, List.getElem?_eq_getElem (by omega)]; rfl
          refine Tx.of (b := false) (Et.inS (ss := [Str.ofString "push", Str.ofString "pop"]) (Ev.item (i := 2) (j := 0) (by walk_at "sl:ev") Ev.int rfl rfl (fun _ _ h => h) (by decide) fun _ => rfl) (.cons Ev.str (.cons Ev.str .nil rfl) rfl) (by decide) rfl rfl) (Wk.ite (P' := fun f m' N' => f = .next ∧ _) (Tx.of (b := false) (Et.eqS (Ev.item (i := 2) (j := 0) (by walk_at "sl:ev") Ev.int rfl rfl (fun _ _ h => h) (by decide) fun _ => rfl) Ev.str rfl rfl) (Wk.ite (P' := fun f m' N' => f = .next ∧ _) (Tx.of (b := true) (Et.eqS (Ev.item (i := 2) (j := 0) (by walk_at "sl:ev") Ev.int rfl rfl (fun _ _ h => h) (by decide) fun _ => rfl) Ev.str rfl rfl) ?_) (fun _ _ y => .nil y) fun _ _ _ _ y => y)) (fun _ _ y => .nil y) fun _ _ _ _ y => y)
          refine Wk.assign (Ex.ins (nm := "call") (by walk_at "sl:fn") Ev.str (.cons (Ex.callT (by walk_at "sl:fn") (.cons (.sub (.sub (Ev.item (i := 8) (j := n) (by walk_at "sl:ev") (Ev.item (i := 2) (j := 1) (by walk_at "sl:ev") Ev.int rfl rfl (fun _ _ h => h) (by decide) fun _ => rfl) rfl hk (fun _ _ h => h) (by omega) fun _ => rfl) (by walk_at "sl:ev")) (by walk_at "sl:ev")) .nil rfl) (t_Rel (num := ns.getD n 0 - (b + wide * (j : Int)) - wide)) [] rfl (by kernel_rfl) fun u N1 ⟨a, eu, eN⟩ => ?_) rfl) (by kernel_rfl)) (by kernel_rfl) (by rfl)
          subst eu eN
          refine .nil ⟨[a], rfl, Nat.le_of_ble_eq_true rfl, fun lv => ⟨.val lv, rfl, ?_⟩⟩
          exact .fact (ins_call (i := 0) (j := 1) (by rfl) rfl rfl) (.vs [false, true, true, true, false, true] .drops (.nil ⟨rfl, lv, ⟨rfl, rfl, rfl, rfl, rfl, rfl, rfl, rfl, trivial⟩, rfl⟩))
        · refine Tx.of (b := false) (Et.inS (ss := [Str.ofString "push", Str.ofString "pop"]) (Ev.item (i := 2) (j := 0) (by walk_at "sl:ev") Ev.int rfl rfl (fun _ _ h => h) (by decide) fun _ => rfl) (.cons Ev.str (.cons Ev.str .nil rfl) rfl) (by decide) (by rcases hn with rfl | rfl | rfl <;> rfl) rfl) (Wk.ite (P' := fun f m' N' => f = .next ∧ _) (Tx.of (b := false) (Et.eqS (Ev.item (i := 2) (j := 0) (by walk_at "sl:ev") Ev.int rfl rfl (fun _ _ h => h) (by decide) fun _ => rfl) Ev.str (by rcases hn with rfl | rfl | rfl <;> rfl) rfl) (Wk.ite (P' := fun f m' N' => f = .next ∧ _) (Tx.of (b := false) (Et.eqS (Ev.item (i := 2) (j := 0) (by walk_at "sl:ev") Ev.int rfl rfl (fun _ _ h => h) (by decide) fun _ => rfl) Ev.str (by rcases hn with rfl | rfl | rfl <;> rfl) rfl) ?_) (fun _ _ y => .nil y) fun _ _ _ _ y => y)) (fun _ _ y => .nil y) fun _ _ _ _ y => y)
          exact .fact (ins_else hn (i := 0) rfl) (.vs [false, true, false, true] .drops (.nil ⟨rfl, v3, ⟨rfl, rfl, rfl, rfl, rfl, rfl, rfl, rfl, trivial⟩, rfl⟩))
      · rintro m' N' ⟨_, lv, hs, rfl⟩
        refine Wk.sub hs (Wk.setItem (Ex.callT (by walk_at "sl:fn") (.cons (by walk_at "sl:ev") (.cons (by walk_at "sl:ev") (.cons Ev.none (.cons Ev.none .nil rfl) rfl) rfl) rfl) (t_Dec (v := lv)) [true] rfl (by kernel_rfl) fun u N1 e => ?_) (by rfl))
        subst e
        refine Ev.use (k := .ref fd) (by walk_at "sl:ev") fun v1 d1 => Ev.use (k := .int (b + wide * (j : Int))) (by walk_at "sl:ev") fun v2 d2 => ?_
        cases d1
        refine Su.prg (i := 5) (r := (nm, num)) rfl ?_ d2 ?_ hw ?_ (NF.fact (i := 0) rfl) (.vs [true] .drop (.nil ⟨_, rfl, _, ⟨rfl, rfl⟩, rfl, rfl, rfl, rfl, rfl, rfl, trivial⟩))
        · rw [eb, Int.natCast_add, Int.mul_add, Int.add_assoc]
        · exact flat_at bs i j hr hr2
        · have := (List.getElem?_eq_some_iff.mp (flat_at bs i j hr hr2)).1
          omega
    · rintro m N ⟨rfl, rfl⟩
      exact .vs [false, true, true] .drops (.nil ⟨_, rfl, _, ⟨rfl, by rw [hnx]; rfl⟩, rfl, rfl, rfl, rfl, trivial⟩)
  · rintro m N ⟨rfl, rfl⟩
    exact Wk.ret (Ev.use (k := .ref fd) (by walk_at "sl:ev") fun v dv => ⟨fd, dv, rfl⟩)
section
variable {G : Gx} {rn : Nat} {c : Fx G rn} {m m' : Lm} {N N' N1 : List HP} {e e0 e1 e2 e3 : PySem.Expr} {es : List PySem.Expr} {k k1 k2 : AV} {ks : List AV} {x x2 : Str} {p p' p2 pq : Pos} {K K' : Value → List HP → Prop} {P P' : Flow → Lm → List HP → Prop} {rest body b1 b2 : List Stmt} {t : Sem Value} {v : Value} {a b : Addr} {i j : Nat} {fz : Bool} {α : Type} {R : ER α} {xs ys : List α}
theorem All2.take {α β : Type} {R : α → β → Prop} {as : List α} {bs : List β} (x : All2 R as bs) : ∀ n, All2 R (as.take n) (bs.take n) := by
  induction x with
  | nil => intro n; simp; exact .nil
  | cons r _ ih => intro n; cases n with
    | zero => exact .nil
    | succ n => exact .cons r (ih n)
theorem Ls.isL {l : List Addr} {z h : Heap} (zh : z.StaysIn h) (x : (Ls fz R a xs).ok l z h) : ∃ ws, h.IsList a (List.toArray ws) ∧ All2 (R.r z) ws xs := by
  obtain ⟨_, ws, n, g, q⟩ := x
  have g' : h.get? a = some (listOf (List.toArray ws) n) := by
    cases fz
    · exact g
    · exact zh _ _ g
  exact ⟨ws, ⟨_, g', rfl, n, rfl⟩, q⟩
theorem slice_any {h : Heap} {tk : Nat} {vl vu vs : Value} {lo hi st : Option Int} {zs : List α} {e1 sl : PySem.Expr} {ops : List Value} (S : Sa c m N h) {Q : HP} (hN : N[i]? = some Q) (hQ : ∀ l z h, z.StaysIn h → Q.ok l z h → ∃ ws, h.IsList a (List.toArray ws) ∧ All2 (R.r z) ws xs) (pl : IsPart vl lo) (pu : IsPart vu hi) (ps : IsPart vs st) (h0 : st ≠ some 0) (hl : xs.length ≤ 1000000)
    (hz : ∀ (z : Heap) ws, All2 (R.r z) ws xs → All2 (R.r z) (slicePick (List.toArray ws) lo hi st).toList zs) (hs : subscripted sl false (.ref a) (.ref h.objs.size) = operate ops (getItem (.ref a) (.ref h.objs.size))) (hk : ∀ d, K (.ref d) (Ls false R d zs :: N)) :
    wpAny (model G.prog G.w) c.A (subscriptTail e1 sl (.ref a) (.ref h.objs.size)) (Kx c m K) No { c.at h tk with heap := h.push { cls := .type "slice", data := .fields #[vl, vu, vs] } } := by
  obtain ⟨f, z, ls, ag, X⟩ := S
  obtain ⟨l, y, _⟩ := X.own.ok.get hN
  obtain ⟨ws, hl0, q⟩ := hQ l z h X.own.zh y
  refine tail_any (Heap.IsList.typeIs (s := { c.at h tk with heap := h.push { cls := .type "slice", data := .fields #[vl, vu, vs] } }) (hl0.push _)) slot_list_getitem.lookup (wpAny_getItem_list_slice (s := { c.at h tk with heap := h.push { cls := .type "slice", data := .fields #[vl, vu, vs] } }) (hl0.push _) (Heap.IsSliceOf.new ..) pl pu ps h0 ?_ (sizeLine_of (by rw [List.size_toArray, q.length]; exact hl))) hs
  have X2 : ∀ b o, h.get? b = some o → ((h.push { cls := .type "slice", data := .fields #[vl, vu, vs] }).push { cls := .type "list", data := .seq (slicePick (List.toArray ws) lo hi st) }).get? b = some o := fun b o e => Heap.get?_push_of_some _ (Heap.get?_push_of_some _ e)
  refine ⟨_, tk, _, rfl, .newL (P := Ls false R (h.push { cls := .type "slice", data := .fields #[vl, vu, vs] }).objs.size zs) (a := (h.push { cls := .type "slice", data := .fields #[vl, vu, vs] }).objs.size) ag X (fr_off X.F X2) (fun b o _ e => X2 b o e) (Heap.get?_none_of_le (by rw [Heap.size_push]; exact Nat.le_succ _)) ⟨rfl, (slicePick (List.toArray ws) lo hi st).toList, 0, ?_, hz z ws q⟩, hk _⟩
  rw [Array.toArray_toList]
  exact Heap.get?_push_size _ rfl
theorem Ex.takeQ {n : Nat} {ps : Pos} (h1 : Ex c m N e1 fun v N1 => ∃ (a : Addr) (i : Nat) (xs : List α) (Q : HP), v = .ref a ∧ N1[i]? = some Q ∧ (∀ l z h, z.StaysIn h → Q.ok l z h → ∃ ws, h.IsList a (List.toArray ws) ∧ All2 (R.r z) ws xs) ∧ xs.length ≤ 1000000 ∧ Ev c m N1 e2 (.int (n : Int)) ∧ ∀ d, K (.ref d) (Ls false R d (xs.take n) :: N1)) : Ex c m N (.Subscript e1 (.Slice none (some e2) none ps) p) K := fun h tk S =>
  Subscript_ (Sm.go h1 S fun v h' tk' N' S' y => by
    obtain ⟨a, i, xs, Q, ev, hN, hQ, hl, h2, hk⟩ := y
    subst ev
    refine wpAny_Slice (wpAny_pure (Ev.go h2 S' fun u hh tk2 S2 d => wpAny_pure ?_))
    obtain ⟨t, d⟩ := d
    subst d
    refine slice_any (ops := [.ref hh.objs.size, .ref a]) S2 hN hQ .none (.int _ t) .none (by simp) hl (fun z ws q => ?_) rfl hk
    rw [kms_pick_eq]
    show All2 (R.r z) (kms_pick ws none (some (n : Int))) _
    have e : kms_pick ws none (some (n : Int)) = ws.take n := by
      unfold kms_pick kms_lo kms_hi
      have : ¬ ((n : Int) < 0) := by omega
      simp [this]
    rw [e]
    exact q.take n)
theorem Ex.take {n : Nat} {ps : Pos} (h1 : Ex c m N e1 fun v N1 => ∃ (a : Addr) (i : Nat) (xs : List α), v = .ref a ∧ N1[i]? = some (Ls fz R a xs) ∧ xs.length ≤ 1000000 ∧ Ev c m N1 e2 (.int (n : Int)) ∧ ∀ d, K (.ref d) (Ls false R d (xs.take n) :: N1)) : Ex c m N (.Subscript e1 (.Slice none (some e2) none ps) p) K :=
  .takeQ (h1.mono fun v N1 y => by
    obtain ⟨a, i, xs, ev, hN, hl, h2, hk⟩ := y
    exact ⟨a, i, xs, _, ev, hN, fun l z h zh x => Ls.isL zh x, hl, h2, hk⟩)
theorem Ex.rev {ps pu pc : Pos} (h1 : Ev c m N e1 (.ref a)) (hN : N[i]? = some (Ls fz R a xs)) (hl : xs.length ≤ 1000000) (hk : ∀ d, K (.ref d) (Ls false R d xs.reverse :: N)) : Ex c m N (.Subscript e1 (.Slice none none (some (.UnaryOp .USub (.Constant (.int 1) 0 pc) pu)) ps) p) K := fun h tk S =>
  Subscript_ (Ev.goR h1 S fun h' tk' S' => by
    refine wpAny_Slice (wpAny_pure (wpAny_pure (wpAny_UnaryOp (wpAny_Constant_int (neg_int ?_)))))
    refine slice_any (ops := _) S' hN (fun l z h zh x => Ls.isL zh x) .none .none (.int (-1) _) (by decide) hl (fun z ws q => ?_) (by with_unfolding_all rfl) hk
    rw [krv_pick]
    show All2 (R.r z) ws.reverse _
    clear hN hk hl
    induction q with
    | nil => exact .nil
    | cons r _ ih => rw [List.reverse_cons, List.reverse_cons]; exact ih.append (.cons r .nil))
end
noncomputable def Wrld (G : Gx) (wd bo bg : Addr) (wide : Int) (mo : Addr) : HP :=
  ⟨fun l z _ => l = [] ∧ ∃ o tw, z.get? wd = some o ∧ o.IsDictOf (strKind G.prog G.w) [(Str.ofString "bodies", .ref bo), (Str.ofString "begins", .ref bg), (Str.ofString "step", .int wide tw), (Str.ofString "moments", .ref mo)], fun ⟨e, o, tw, g, d⟩ kz _ => ⟨e, o, tw, kz _ _ g, d⟩, fun ⟨e, _⟩ a ha => by rw [e] at ha; cases ha⟩
section
variable {G : Gx} {rn : Nat} {c : Fx G rn} {m m' : Lm} {N N' N1 : List HP} {e e0 e1 e2 e3 : PySem.Expr} {es : List PySem.Expr} {k k1 k2 : AV} {ks : List AV} {x x2 : Str} {p p' p2 pq : Pos} {K K' : Value → List HP → Prop} {P P' : Flow → Lm → List HP → Prop} {rest body b1 b2 : List Stmt} {t : Sem Value} {v : Value} {a b wd bo bg mo : Addr} {i j : Nat} {fz fz2 : Bool} {wide : Int} {xs ys : List Int}
theorem Ev.world {key : Str} (h1 : Ev c m N e1 (.ref wd)) (hN : N[i]? = some (Wrld G wd bo bg wide mo)) (hk : ∀ tw, ∃ v, valueAt [(Str.ofString "bodies", .ref bo), (Str.ofString "begins", .ref bg), (Str.ofString "step", .int wide tw), (Str.ofString "moments", .ref mo)] key = some v ∧ k.den v) : Ev c m N (.Subscript e1 (.Constant (.str key) 0 pq) p) k := fun h tk S =>
  Subscript_ (Ev.goR h1 S fun h' tk' S' => by
    refine PySem.Calls.Constant_str ?_
    obtain ⟨z, l, zh, _, o, tw, g, hd⟩ := S'.get hN
    obtain ⟨v, hv, dv⟩ := hk tw
    exact str_item (s := { c.at h' tk' with toks := tk' + 1 }) (zh _ _ g) hd hv ⟨h', _, _, rfl, S', rfl, dv⟩ rfl)
theorem Ev.cmp {op : CmpOp} {b : Bool} (h1 : Ev c m N e1 k1) (h2 : Ev c m N e2 k2) (hm : behindInMarks op e2 = false) (ho : ∀ v1 v2 (s : Shared) (Q : Value → Shared → Prop), k1.den v1 → k2.den v2 → Q (.bool b) s → wpAny (model G.prog G.w) c.A (compareOp op v1 v2) Q No s) : Ev c m N (.Compare e1 [op] [e2] p) (.bool b) := fun h tk S =>
  wpAny_Compare1 (Ev.go h1 S fun v1 h' tk' S' d => Ev.go h2 S' fun v2 h3 tk3 S3 d2 => ho _ _ _ _ d d2 (.mk S3 ⟨rfl, rfl⟩)) hm
theorem Ex.cmp {op : CmpOp} (h1 : Ex c m N e1 fun v1 N1 => Ex c m N1 e2 fun v2 N2 => Sm c m N2 (compareOp op v1 v2) K) (hm : behindInMarks op e2 = false) : Ex c m N (.Compare e1 [op] [e2] p) K := fun h tk S =>
  wpAny_Compare1 (Sm.go h1 S fun v1 h' tk' N' S' y => Sm.go y S' fun v2 h3 tk3 N3 S3 y3 => y3 h3 tk3 S3) hm
theorem Et.chain {i j n : Int} {b : Bool} (h1 : Ev c m N e1 (.int i)) (h2 : Ev c m N e2 (.int j)) (h3 : Ev c m N e3 (.int n)) (hb : (decide (i ≤ j) && decide (j < n)) = b) (hm : lastMarks [.LtE, .Lt] [e2, e3] = false) : Et c m N (.Compare e1 [.LtE, .Lt] [e2, e3] p) b := fun h tk S =>
  isTrue_chain (Ev.go h1 S fun v1 h' tk' S' d => by
    refine test_link (Ev.go h2 S' fun v2 h3' tk3 S3 d2 => ?_)
    obtain ⟨t, rfl⟩ := d
    obtain ⟨t3, rfl⟩ := d2
    refine PyProof.Rows.le_int (wpAny_truthy_bool ?_)
    by_cases hij : i ≤ j
    · rw [decide_eq_true hij] at hb ⊢
      refine test_last (Ev.go h3 S3 fun v3 h5 tk5 S5 d3 => ?_)
      obtain ⟨t5, rfl⟩ := d3
      exact PyProof.Rows.lt_int (wpAny_truthy_bool ⟨h5, tk5, _, rfl, S5, rfl, by simpa using hb⟩)
    · rw [decide_eq_false hij] at hb ⊢
      exact ⟨h3', tk3, _, rfl, S3, rfl, by simpa using hb⟩) hm
end
theorem row_names {n : Nat} {nm : String} {num : Int} (h : RowOk n (nm, num)) : nm = "pop" ∨ nm = "push" ∨ nm = "mov" ∨ nm = "call" ∨ nm = "nop" ∨ nm = "hlt" ∨ nm = "ret" := by
  unfold RowOk at h
  dsimp only at h
  rcases h with ⟨h | h, _⟩ | h | ⟨h, _⟩ | h | h | h <;> simp [h]
theorem row_flag {n : Nat} {nm : String} {num : Int} (h : RowOk n (nm, num)) : SeqAt.shaped (.list [.str (Str.ofString nm), .int num]) = true ∧ PyData.eqv (.list [.str (Str.ofString nm), .int num]) (.list [.str (Str.ofString "pop"), .int 1]) = decide ((nm, num) = ("pop", (1 : Int))) := by
  have k : ∀ x : String, x = "push" ∨ x = "mov" ∨ x = "call" ∨ x = "nop" ∨ x = "hlt" ∨ x = "ret" → PyData.strOk (Str.ofString x) = true ∧ (Str.ofString x == Str.ofString "pop") = false := by
    rintro x (rfl | rfl | rfl | rfl | rfl | rfl) <;> exact ⟨by decide +kernel, by decide⟩
  have k2 : PyData.strOk (Str.ofString "pop") = true ∧ (Str.ofString "pop" == Str.ofString "pop") = true := ⟨by decide +kernel, by decide⟩
  by_cases c : nm = "pop"
  · subst c
    exact ⟨by simp [SeqAt.shaped, PyData.canLay0, PyData.canLayAll0, PyData.depth, PyData.depthAll]; exact k2.1, by simp [PyData.eqv, PyData.eqvAll]; rfl⟩
  · have h2 := k nm ((row_names h).resolve_left c)
    exact ⟨by simp [SeqAt.shaped, PyData.canLay0, PyData.canLayAll0, PyData.depth, PyData.depthAll]; exact h2.1, by simp [PyData.eqv, PyData.eqvAll, h2.2, c]⟩
section
variable {prog : Program} {w : World} {A : Around} {s : Shared} {E : Value → Shared → Prop}
theorem row_is_pop {ra l : Addr} {nm : String} {num : Int} {t1 t2 u1 u2 : Tok} {c n c2 : Nat} {Q : Value → Shared → Prop} (ha : s.heap.get? ra = some (listOf #[.str (Str.ofString nm) t1, .int num t2] c)) (hb : s.heap.get? l = some (listOf #[.str (Str.ofString "pop") u1, .int 1 u2] c2)) (hr : RowOk n (nm, num)) (hu : A.units + 64 < cLine)
    (h : Q (.bool (decide ((nm, num) = ("pop", (1 : Int))))) s) : wpAny (model prog w) A (compareOp .Eq (.ref ra) (.ref l)) Q E s := by
  refine eq_dataH (da := .list [.str (Str.ofString nm), .int num]) (db := .list [.str (Str.ofString "pop"), .int 1]) (.list ha rfl rfl (.cons (as := []) (bs := []) (.str _ _) (.cons (as := []) (bs := []) (.int _ _) .nil))) (.list hb rfl rfl (.cons (as := []) (bs := []) (.str _ _) (.cons (as := []) (bs := []) (.int _ _) .nil))) (row_flag hr).1 (row_flag (n := 3) (nm := "pop") (num := 1) (.inl ⟨.inr rfl, by decide⟩)).1 hu ?_
  rw [(row_flag hr).2]; exact h
end
section
variable {G : Gx} {rn : Nat} {c : Fx G rn} {m m' : Lm} {N N' N1 : List HP} {e e0 e1 e2 e3 : PySem.Expr} {es : List PySem.Expr} {k k1 k2 : AV} {ks : List AV} {x x2 : Str} {p p' p2 pq : Pos} {K K' : Value → List HP → Prop} {P P' : Flow → Lm → List HP → Prop} {rest body b1 b2 : List Stmt} {v : Value} {a b wd bo bg mo : Addr} {i j : Nat} {fz fz2 : Bool}
theorem Sm.rowPop {nm : String} {num : Int} {n : Nat} (ha : N[i]? = some (Ls fz eAV a [.str (Str.ofString nm), .int num])) (hb : N[j]? = some (Ls fz2 eAV b [.str (Str.ofString "pop"), .int 1])) (hr : RowOk n (nm, num)) (hk : K (.bool (decide ((nm, num) = ("pop", (1 : Int))))) N) : Sm c m N (compareOp .Eq (.ref a) (.ref b)) K := fun h tk S => by
  obtain ⟨f, z, ls, ag, X⟩ := id S
  obtain ⟨vs, n, g1, y1⟩ := X.own.list ha
  obtain ⟨ws, n2, g2, y2⟩ := X.own.list hb
  cases y1 with | cons r1 y1 => cases y1 with | cons r2 y1 => cases y1 with | nil =>
  cases y2 with | cons r3 y2 => cases y2 with | cons r4 y2 => cases y2 with | nil =>
  obtain ⟨t1, rfl⟩ := r1
  obtain ⟨t2, rfl⟩ := r2
  obtain ⟨t3, rfl⟩ := r3
  obtain ⟨t4, rfl⟩ := r4
  exact row_is_pop (s := c.at h tk) g1 g2 hr c.un64 (.mk S hk)
theorem Sn.seq {ts : List (Value → Sem Unit)} {names : List Str} (ht : All2 (fun t x => ∀ v s (Q : Unit → Shared → Prop), wpAny (model G.prog G.w) c.A (storeName c.env x v) Q No s → wpAny (model G.prog G.w) c.A (t v) Q No s) ts names) : ∀ {ks : List AV} {vs : List Value} {m : Lm} {h : Heap} {tk : Nat} {Q : Unit → Shared → Prop}, All2 AV.den ks vs → names.length = ks.length → names.all (localOk c.st) = true → Sa c m N h → (∀ h' tk', Sa c ((names.zip ks).reverse ++ m) N h' → Q () (c.at h' tk')) → wpAny (model G.prog G.w) c.A (assignInOrder ts vs) Q No (c.at h tk) := by
  induction ht with
  | nil => intro ks vs m h tk Q hk hl ok S y; exact assignInOrder_nil (y h tk (by simpa using S))
  | @cons t x ts names r _ ih =>
    intro ks vs m h tk Q hk hl ok S y
    cases hk with
    | nil => cases hl
    | cons d hk =>
      rw [List.all_cons, Bool.and_eq_true] at ok
      exact assignInOrder_cons (r _ _ _ (Sn.store S d ok.1 fun h' tk' S' _ => ih hk (Nat.succ.inj hl) ok.2 S' fun h2 tk2 S2 => y h2 tk2 (by simpa using S2)))
theorem all2_rev {α β : Type} {R : α → β → Prop} {as : List α} {bs : List β} (x : All2 R as bs) : All2 R as.reverse bs.reverse := by
  induction x with
  | nil => exact .nil
  | cons r _ ih => rw [List.reverse_cons, List.reverse_cons]; exact ih.append (.cons r .nil)
theorem Wk.swap {elts : List PySem.Expr} {kk : Nat} {tpos pos : Pos} {names : List Str} (hx : Ex c m N e fun v N' => ∃ a vs ks, v = .ref a ∧ NF N' (fun z => eTup.r z (.ref a) vs) ∧ All2 AV.den ks vs ∧ names.length = ks.length ∧ Wk c ((names.reverse.zip ks.reverse).reverse ++ m) N' rest P)
    (hs : swapsWithSole [.Tuple elts kk tpos] e pos.line c.env = pure false) (hw : swappedStores [.Tuple elts kk tpos] e c.env = pure (some names)) (ok : names.reverse.all (localOk c.st) = true) : Wk c m N (.Assign [.Tuple elts kk tpos] e pos :: rest) P := fun h tk S => by
  refine wpAny_execs_cons (Assign_Tuple_swapped (Sm.go hx S fun v h' tk' N' S' y => ?_) hs hw)
  obtain ⟨a, vs, ks, ev, hf, hk, hl, y⟩ := y
  subst ev
  obtain ⟨f, z, ls, ag, X⟩ := id S'
  obtain ⟨a', n, ea, g⟩ := hf z ls h' X.own
  cases ea
  have hT : IsTup (c.at h' tk').heap a vs.toArray := ⟨_, X.own.zh _ _ g, rfl, n, rfl⟩
  have hn : names.length = vs.toArray.size := by rw [hl, List.size_toArray, hk.length]
  rw [hn]
  refine unpackItems_tuple c.d.rm.hh hT fun h2 hx2 => ?_
  have S2 := S'.idle (h' := h2) fun b o e => hx2 b o (Nat.ne_of_lt (Heap.lt_size e)) e
  refine Sn.seq (ts := names.reverse.map fun n => bindName c.env n) (names := names.reverse) ?_ (all2_rev hk) (by simp [hl]) ok S2 fun h3 tk3 S3 => y h3 tk3 S3
  generalize names.reverse = l
  induction l with
  | nil => exact .nil
  | cons x l ih => exact .cons (fun v s Q y => bindName_ y) ih
theorem each_names {elts : List PySem.Expr} {names : List Str} (he : All2 (fun e x => ∃ p, e = PySem.Expr.Name x p) elts names) : All2 (fun t x => ∀ v s (Q : Unit → Shared → Prop), wpAny (model G.prog G.w) c.A (storeName c.env x v) Q No s → wpAny (model G.prog G.w) c.A (t v) Q No s) ((assignEach elts c.env).map (·.2)) names ∧ (assignEach elts c.env).length = names.length ∧ (assignEach elts c.env).findIdx? (·.1) = none := by
  induction he with
  | nil => exact ⟨.nil, rfl, rfl⟩
  | cons r _ ih =>
    obtain ⟨p, rfl⟩ := r
    obtain ⟨i1, i2, i3⟩ := ih
    exact ⟨.cons (fun v s Q y => PyProof.Rows.assign_Name y) i1, congrArg (· + 1) i2, by rw [show assignEach (PySem.Expr.Name _ p :: _) c.env = (false, _) :: assignEach _ c.env from rfl, List.findIdx?_cons, i3]; rfl⟩
theorem Wk.unpack {elts : List PySem.Expr} {kk : Nat} {tpos pos : Pos} {names : List Str} (hx : Ex c m N e fun v N' => ∃ a vs ks, v = .ref a ∧ NF N' (fun z => eTup.r z (.ref a) vs) ∧ All2 AV.den ks vs ∧ names.length = ks.length ∧ Wk c ((names.zip ks).reverse ++ m) N' rest P)
    (he : All2 (fun e x => ∃ p, e = PySem.Expr.Name x p) elts names) (hs : swapsWithSole [.Tuple elts kk tpos] e pos.line c.env = pure false) (hw : swappedStores [.Tuple elts kk tpos] e c.env = pure none) (ok : names.all (localOk c.st) = true) : Wk c m N (.Assign [.Tuple elts kk tpos] e pos :: rest) P := fun h tk S => by
  refine wpAny_execs_cons (Assign_Tuple (Sm.go hx S fun v h' tk' N' S' y => ?_) hs hw)
  obtain ⟨a, vs, ks, ev, hf, hk, hl, y⟩ := y
  subst ev
  obtain ⟨f, z, ls, ag, X⟩ := id S'
  obtain ⟨a', n, ea, g⟩ := hf z ls h' X.own
  cases ea
  have hT : IsTup (c.at h' tk').heap a vs.toArray := ⟨_, X.own.zh _ _ g, rfl, n, rfl⟩
  have ha := each_names (c := c) he
  refine assign_Tuple_tuple c.d.rm.hh hT (by rw [ha.2.1, hl, List.size_toArray, hk.length]) ha.2.2 fun h2 hx2 => ?_
  have S2 := S'.idle (h' := h2) fun b o e => hx2 b o (Nat.ne_of_lt (Heap.lt_size e)) e
  exact Sn.seq ha.1 hk hl ok S2 fun h3 tk3 S3 => y h3 tk3 S3
end
theorem range_le {α : Type} (f : Nat → List α) {j n : Nat} (h : j ≤ n) : ((List.range j).flatMap f).length ≤ ((List.range n).flatMap f).length := by
  obtain ⟨k, rfl⟩ : ∃ k, n = j + k := ⟨n - j, by omega⟩
  rw [List.range_add, List.flatMap_append, List.length_append]; omega
theorem ownOf_len (ops : List Int) : (ownOf ops).length ≤ 1 := by
  unfold ownOf
  split
  · exact Nat.le_refl _
  · rw [List.length_take]; omega
section
variable {G : Gx} {rn : Nat} {c : Fx G rn} {m m' : Lm} {N N' N1 : List HP} {e e0 e1 e2 e3 : PySem.Expr} {es : List PySem.Expr} {K : Value → List HP → Prop} {i j k : Nat}
theorem Ex.sh (hx : Ex c m N e fun v N0 => ∃ N', Sh c m N0 N' ∧ K v N') : Ex c m N e K := Sm.post hx fun v N' h ⟨N'', sh, y⟩ S => ⟨N'', sh h S, y⟩
theorem Xs.shl {K : List Value → List HP → Prop} (s : Sh c m N N') (h : Xs c m N' es K) : Xs c m N es K := fun pos hh tk S => h pos hh tk (s hh S)
theorem Ls.dup {α : Type} {R : ER α} {a : Addr} {xs : List α} (e : N[i]? = some (Ls true R a xs)) : Sh c m N (Ls true R a xs :: N) := fun h ⟨f, z, ls, ag, X⟩ => by
  obtain ⟨l, ok, _⟩ := X.own.ok.get e
  exact ⟨f, z, [] :: ls, ag, X.F, ⟨X.own.zh, .cons ⟨rfl, ok.2⟩ X.own.ok, X.own.nd, X.own.off⟩, X.mv, X.Ll, X.Lz⟩
theorem nf_mom {a oa fa : Addr} {v1 v2 v3 v4 : Value} {pl : Int} {ops frs : List Int} {w : Bool} (h1 : N[i]? = some (Fact eTup (.ref a) [v1, v2, v3, v4])) (h2 : N[j]? = some (Ls true eInt oa ops)) (h3 : N[k]? = some (Ls true eInt fa frs)) (d1 : (AV.int pl).den v1) (d2 : v2 = .ref oa) (d3 : v3 = .ref fa) (d4 : v4 = .bool w) : NF N fun z => eMom.r z (.ref a) (pl, ops, frs, w) := fun z ls h O => by
  obtain ⟨t, rfl⟩ := d1
  subst d2 d3 d4
  obtain ⟨a', n, e, g⟩ := NF.fact h1 z ls h O
  cases e
  obtain ⟨_, ⟨_, ovs, oc, g2, y2⟩, _⟩ := O.ok.get h2
  obtain ⟨_, ⟨_, fvs, fc, g3, y3⟩, _⟩ := O.ok.get h3
  exact ⟨a, oa, fa, t, ovs, oc, fvs, fc, n, rfl, g, g2, intsAre y2, g3, intsAre y3⟩
end
theorem row_call {n : Nat} {nm : String} {num : Int} (h : RowOk n (nm, num)) : (Str.ofString nm == Str.ofString "call") = decide (nm = "call") := by
  rcases row_names h with rfl | rfl | rfl | rfl | rfl | rfl | rfl <;> rfl
theorem t_nest {G : Gx} {wd bo bg mo : Addr} {wide : Int} {bs : List (List (String × Int))} {ns : List Int} (hbl : bs.length = 3) (hnl : ns.length = 3) (hlen : ∀ b ∈ bs, b.length ≤ 10) (hcalls : ∀ (k : Nat) b, bs[k]? = some b → ∀ r ∈ b, r.1 = "call" → (k : Int) < r.2 ∧ r.2 ≤ 2) (hrow : ∀ b ∈ bs, ∀ r ∈ b, RowOk 3 r) (hw0 : 1 ≤ wide) (hw6 : wide ≤ 6) :
    ∀ (f k : Nat) (oa fa : Addr) (ops frs : List Int) (ms : List Mom), k < 3 → 3 ≤ k + f → ms.length + (nest bs (fun i => ns.getD i 0) wide f k ops frs).length ≤ 200 → ops.length + f ≤ 10 → frs.length + f ≤ 10 →
      Tr G (f + 3) (.ref 1106) [.ref wd, .int (k : Int), .ref oa, .ref fa] [Ls true eInt oa ops, Ls true eInt fa frs, Wrld G wd bo bg wide mo, Ls false eMom mo ms, Ls true eBody bo bs, Ls true eInt bg ns] fun v N' => v = .none ∧ N' = [Ls true eInt oa ops, Ls true eInt fa frs, Wrld G wd bo bg wide mo, Ls false eMom mo (ms ++ nest bs (fun i => ns.getD i 0) wide f k ops frs), Ls true eBody bo bs, Ls true eInt bg ns]
  | 0, k, oa, fa, ops, frs, ms, hk3, hkf, _, _, _ => absurd hkf (by omega)
  | f + 1, k, oa, fa, ops, frs, ms, hk3, hkf, hsz, hol, hfl => by
    have ih := t_nest (G := G) (wd := wd) (bo := bo) (bg := bg) (mo := mo) hbl hnl hlen hcalls hrow hw0 hw6 f
    refine fill_of G.X ?_; k_fill; intro _
    refine' Tr.enter (n := f + 3) [Str.ofString "world", Str.ofString "number", Str.ofString "opens", Str.ofString "frames"] ?ho ?hcd ?hb ?ok ?_
    case ho => k_is
    case hcd => k_is
    case hb =>
      intro s vs X h
      cases h with | cons r h => cases h with | cons r h => cases h with | cons r h => cases h with | cons r h => cases h; exact BindsTo.of_eq rfl
    case ok => kernel_rfl
    intro d
    show Wk _ [(Str.ofString "frames", .ref fa), (Str.ofString "opens", .ref oa), (Str.ofString "number", .int (k : Int)), (Str.ofString "world", .ref wd)] _ _ _
    dsimp only [HD.B108, HD.C108, HD.qB108, HD.qC108]
    obtain ⟨body, hb1⟩ : ∃ body, bs[k]? = some body := ⟨_, List.getElem?_eq_getElem (by omega)⟩
    have hnk : ns[k]? = some (ns.getD k 0) := by rw [List.getD_eq_getElem?_getD, List.getElem?_eq_getElem (by omega)]; rfl
    have hbl10 : body.length ≤ 10 := hlen _ (List.mem_of_getElem? hb1)
    have hnest := nest_rows (bgs := fun i => ns.getD i 0) (wide := wide) (f := f) (ops := ops) (frs := frs) hb1
    refine Wk.swap (names := [Str.ofString "body", Str.ofString "begin", Str.ofString "wide"]) (Ex.tuple (.cons (Ex.item (i := 4) (j := k) (Ev.world (i := 2) (k := .ref bo) (by walk_at "sl:ev") rfl fun tw => ⟨_, rfl, rfl⟩) (by walk_at "sl:ev") rfl hb1 (by omega) (fun _ => rfl) fun v1 => .cons ((Ev.item (k := .int (ns.getD k 0)) (i := 6) (j := k) (Ev.world (i := 3) (k := .ref bg) (by walk_at "sl:ev") rfl fun tw => ⟨_, rfl, rfl⟩) (by walk_at "sl:ev") rfl hnk (fun _ _ h => h) (by omega) fun _ => rfl).use fun v2 d2 => .cons ((Ev.world (i := 3) (k := .int wide) (by walk_at "sl:ev") rfl fun tw => ⟨_, rfl, tw, rfl⟩).use fun v3 d3 => .nil ⟨Nat.le_of_ble_eq_true rfl, fun a => ⟨a, _, [.val v1, .int (ns.getD k 0), .int wide], rfl, NF.fact (i := 0) rfl, .cons rfl (.cons d2 (.cons d3 .nil)), rfl, ?_⟩⟩) rfl) rfl) rfl)) (by rfl) (by rfl) (by kernel_rfl)
    refine Wk.vs [true] .drop (Wk.open 0 rfl open_body fun ba hv => ?_)
    subst hv
    refine Wk.assign (Sm.mono (K := fun v N' => ∃ ao, v = .ref ao ∧ N' = Ls true eInt ao (ownOf ops) :: [Ls true eRow ba body, Ls true eInt oa ops, Ls true eInt fa frs, Wrld G wd bo bg wide mo, Ls false eMom mo ms, Ls true eBody bo bs, Ls true eInt bg ns]) (Ex.ite (Tx.cmp (Ev.ref (a := oa) (by walk_at "sl:ev") <| Ex.nilL eInt fun a => Sm.cmpInts .NotEq (.inr rfl) (i := 2) (j := 0) (r := !decide (ops = [])) rfl rfl (by cases decide (ops = []) <;> rfl) ⟨_, rfl, ?_⟩) rfl)) fun v N1 ⟨ao, e1, e2⟩ => ⟨.ref ao, e1, ?_⟩) (by kernel_rfl) (by rfl)
    · by_cases h0 : ops = []
      · rw [decide_eq_true h0]
        refine Ex.sh (Ex.listK (ks := [(1193046 : Int)].map .int) (.cons (Ev.glob (k := .int 1193046) rfl (by kernel_rfl) ⟨_, rfl⟩) .nil rfl) (Nat.le_of_ble_eq_true rfl) fun ao => ⟨_, Sh.trans (.vs [true] Ls.ints) (.vs [false, true] .drop), ao, rfl, ?_⟩)
        subst h0; rfl
      · rw [decide_eq_false h0]
        refine Ex.sh (Ex.take (n := 1) (fz := true) (R := eInt) (Ev.use (k := .ref oa) (by walk_at "sl:ev") fun v2 d2 => ⟨oa, 2, ops, d2, rfl, by omega, Ev.int, fun ao => ⟨_, Sh.trans (.vs [true] Ls.freeze) (.vs [false, true] .drop), ao, rfl, ?_⟩⟩))
        unfold ownOf
        rw [if_neg h0]; rfl
    subst e1 e2
    refine Wk.forE (D := fun m N => m = [(Str.ofString "own", .ref ao), (Str.ofString "body", .val (.ref ba)), (Str.ofString "begin", .int (ns.getD k 0)), (Str.ofString "wide", .int wide), (Str.ofString "frames", .ref fa), (Str.ofString "opens", .ref oa), (Str.ofString "number", .int (k : Int)), (Str.ofString "world", .ref wd)] ∧ N = [Ls true eInt ao (ownOf ops), Ls true eRow ba body, Ls true eInt oa ops, Ls true eInt fa frs, Wrld G wd bo bg wide mo, Ls false eMom mo (ms ++ (List.range body.length).flatMap (rowMoms bs (fun i => ns.getD i 0) wide f k ops frs body)), Ls true eBody bo bs, Ls true eInt bg ns])
      (fun j m N => m = [(Str.ofString "own", .ref ao), (Str.ofString "body", .val (.ref ba)), (Str.ofString "begin", .int (ns.getD k 0)), (Str.ofString "wide", .int wide), (Str.ofString "frames", .ref fa), (Str.ofString "opens", .ref oa), (Str.ofString "number", .int (k : Int)), (Str.ofString "world", .ref wd)] ∧ N = [Ls true eInt ao (ownOf ops), Ls true eRow ba body, Ls true eInt oa ops, Ls true eInt fa frs, Wrld G wd bo bg wide mo, Ls false eMom mo (ms ++ (List.range j).flatMap (rowMoms bs (fun i => ns.getD i 0) wide f k ops frs body)), Ls true eBody bo bs, Ls true eInt bg ns]) (j := 1) (by walk_at "sl:bi") (by walk_at "sl:ev") rfl ⟨rfl, by simp⟩ ?_ (fun _ _ y => y) ?_ (by kernel_rfl)
    · rintro j v2 mi Ni It ⟨nm, num⟩ hr2 ⟨rfl, rfl⟩
      have hj : j < body.length := (List.getElem?_eq_some_iff.mp hr2).1
      have hok := hrow body (List.mem_of_getElem? hb1) (nm, num) (List.mem_of_getElem? hr2)
      have hre := rowMoms_eq (bs := bs) (bgs := fun i => ns.getD i 0) (wide := wide) (f := f) (k := k) (ops := ops) (frs := frs) hr2
      have hstep : (List.range (j + 1)).flatMap (rowMoms bs (fun i => ns.getD i 0) wide f k ops frs body) = (List.range j).flatMap (rowMoms bs (fun i => ns.getD i 0) wide f k ops frs body) ++ rowMoms bs (fun i => ns.getD i 0) wide f k ops frs body j := by
        rw [List.range_succ, List.flatMap_append]; simp
      have hpre : ms.length + ((List.range (j + 1)).flatMap (rowMoms bs (fun i => ns.getD i 0) wide f k ops frs body)).length ≤ 200 := by
        have := range_le (rowMoms bs (fun i => ns.getD i 0) wide f k ops frs body) (show j + 1 ≤ body.length from hj)
        rw [hnest, List.length_append] at hsz
        omega
      rw [hstep, List.length_append, hre] at hpre
      have hol1 := ownOf_len ops
      refine Wk.open 1 rfl open_row fun ra hv => ?_
      subst hv
      refine Wk.assign (Sm.mono (K := fun v N' => ∃ ro, v = .ref ro ∧ N' = Ls true eInt ro (framedOf body.length j ops frs) :: [It, Ls true eAV ra [.str (Str.ofString nm), .int num], Ls true eInt ao (ownOf ops), Ls true eRow ba body, Ls true eInt oa ops, Ls true eInt fa frs, Wrld G wd bo bg wide mo, Ls false eMom mo (ms ++ (List.range j).flatMap (rowMoms bs (fun i => ns.getD i 0) wide f k ops frs body)), Ls true eBody bo bs, Ls true eInt bg ns]) (Ex.ite (Tx.of (b := decide (2 ≤ j ∧ j + 1 < body.length)) (Et.chain Ev.int (by walk_at "sl:ev") (Ev.sub (Ev.len (i := 3) (by walk_at "sl:bi") (by walk_at "sl:ev") rfl (by omega) rfl) Ev.int) ?_ rfl) ?_)) fun v N1 ⟨ro, e1, e2⟩ => ⟨.ref ro, e1, ?_⟩) (by kernel_rfl) (by rfl)
      · rw [← Bool.decide_and]
        exact decide_eq_decide.mpr (by omega)
      · unfold framedOf
        by_cases hc : 2 ≤ j ∧ j + 1 < body.length
        · rw [decide_eq_true hc, if_pos hc]
          exact Ex.bin (Ev.ref (a := ao) (by walk_at "sl:ev") <| Ev.ref (a := fa) (by walk_at "sl:ev") <| Sm.catF (i := 2) (j := 5) rfl rfl (by omega) fun ro => ⟨ro, rfl, rfl⟩)
        · rw [decide_eq_false hc, if_neg hc]
          exact Ex.sh (Ev.use (k := .ref fa) (by walk_at "sl:ev") fun w2 q2 => ⟨_, Ls.dup (i := 5) rfl, fa, q2, rfl⟩)
      subst e1 e2
      refine Wk.append (R := eMom) (i := 8) (Ev.world (i := 7) (k := .ref mo) (by walk_at "sl:ev") rfl fun tw => ⟨_, rfl, rfl⟩) rfl (Ex.tuple (.cons ((Ev.add (by walk_at "sl:ev") (Ev.mul (by walk_at "sl:ev") (by walk_at "sl:ev") (mulOkL (by omega)))).use fun w1 q1 => .cons (Ev.use (k := .ref oa) (by walk_at "sl:ev") fun w2 q2 => .cons (Ev.use (k := .ref ro) (by walk_at "sl:ev") fun w3 q3 => .cons (Ex.cmp (Ev.ref (a := ra) (by walk_at "sl:ev") <| Ex.listK (ks := [.str (Str.ofString "pop"), .int 1]) (.cons Ev.str (.cons Ev.int .nil rfl) rfl) (Nat.le_of_ble_eq_true rfl) fun l => Sm.rowPop (i := 3) (j := 0) rfl rfl hok (Xs.nil ⟨Nat.le_of_ble_eq_true rfl, fun a => ⟨_, .rfl', 10, _, (ns.getD k 0 + wide * (j : Int), ops, framedOf body.length j ops frs, decide ((nm, num) = ("pop", (1 : Int)))), rfl, ?_, nf_mom (i := 0) (j := 7) (k := 2) rfl rfl rfl q1 q2 q3 rfl, .vs [true, true] .drops ?_⟩⟩)) rfl) rfl) rfl) rfl) rfl)) rfl rfl rfl rfl
      · rw [List.length_append]; simp only [List.length_append, List.length_cons] at hpre; omega
      refine Wk.ite (P' := LoopP _ _ _ _ _) (Tx.of (b := decide (nm = "call")) (Et.eqS (Ev.item (i := 2) (j := 0) (by walk_at "sl:ev") Ev.int rfl rfl (fun _ _ h => h) (by decide) fun _ => rfl) Ev.str (row_call hok) rfl) ?_) (fun _ _ y => .nil y) fun _ _ _ _ y => y
      by_cases hc : nm = "call"
      · rw [decide_eq_true hc]
        subst hc
        obtain ⟨c0, c1⟩ := hcalls k body hb1 _ (List.mem_of_getElem? hr2) rfl
        dsimp only at c0 c1
        obtain ⟨n, rfl⟩ : ∃ n : Nat, num = n := Int.eq_ofNat_of_zero_le (by omega)
        have hfr : (framedOf body.length j ops frs).length ≤ frs.length + 1 := by
          unfold framedOf
          split
          · rw [List.length_append]; omega
          · omega
        rw [if_pos rfl] at hre
        simp only [if_pos, List.length_cons, Int.toNat_natCast] at hpre
        refine Wk.expr (Ex.call (by walk_at "sl:fn") (by kernel_rfl) (.cons (Ev.use (k := .ref wd) (by walk_at "sl:ev") fun w1 q1 => .cons ((Ev.item (k := .int (n : Int)) (i := 2) (j := 1) (by walk_at "sl:ev") Ev.int rfl rfl (fun _ _ h => h) (by decide) fun _ => rfl).use fun w2 q2 => .cons (Ex.bin (Ex.listK (ks := [ns.getD k 0 + wide * ((j : Int) + 1)].map .int) (.cons (.add (by walk_at "sl:ev") (.mul (by walk_at "sl:ev") (.add (by walk_at "sl:ev") Ev.int) (mulOkL (by omega)))) .nil rfl) (Nat.le_of_ble_eq_true rfl) fun l => Sm.vs [true] Ls.ints (Ev.ref (a := oa) (by walk_at "sl:ev") (Sm.catF (i := 0) (j := 6) rfl rfl ?_ fun d2 => .cons (Ev.use (k := .ref ro) (by walk_at "sl:ev") fun w3 q3 => .nil ?_) rfl)))) rfl) rfl) rfl) rfl) (by rfl) (by rfl)
        · simp only [List.length_cons, List.length_nil]; omega
        refine Sm.tr (ih n d2 ro _ _ _ (by omega) (by omega) ?_ ?_ ?_) (Nat.le_refl _) [true, false, true, false, false, false, false, false, false, true, true, true, true] rfl (.cons q1 (.cons q2 (.cons rfl (.cons q3 .nil)))) fun v N1 ⟨_, e⟩ => e ▸ .vs [true, true, true, false, true] .drops (.nil ⟨_, rfl, _, ⟨rfl, ?_⟩, rfl, rfl, rfl, rfl, rfl, rfl, rfl, rfl, trivial⟩)
        · simp only [List.length_append, List.length_cons, List.length_nil, List.cons_append, List.nil_append]; omega
        · simp only [List.length_append, List.length_cons, List.length_nil]; omega
        · omega
        · refine congrArg (fun l => [Ls true eInt ao (ownOf ops), Ls true eRow ba body, Ls true eInt oa ops, Ls true eInt fa frs, Wrld G wd bo bg wide mo, Ls false eMom mo l, Ls true eBody bo bs, Ls true eInt bg ns]) (?_ : _ = _)
          rw [hstep, hre, Int.toNat_natCast, List.append_assoc, List.append_assoc]; rfl
      · rw [decide_eq_false hc]
        rw [if_neg hc] at hre
        refine .vs [true, false, true] .drops (.nil ⟨_, rfl, _, ⟨rfl, ?_⟩, rfl, rfl, rfl, rfl, rfl, rfl, rfl, rfl, trivial⟩)
        rw [hstep, hre, ← List.append_assoc]; rfl
    · rintro m N ⟨rfl, rfl⟩
      refine Wk.ite (P' := fun fl m' N' => fl = .next ∧ N' = [Ls true eInt oa ops, Ls true eInt fa frs, Wrld G wd bo bg wide mo, Ls false eMom mo (ms ++ nest bs (fun i => ns.getD i 0) wide (f + 1) k ops frs), Ls true eBody bo bs, Ls true eInt bg ns]) (Tx.of (b := decide (k = 0)) (Et.eqI (by walk_at "sl:ev") (by walk_at "sl:ev") (decide_eq_decide.mpr (by omega)) rfl) ?_) (fun m' N' y => .nil ⟨rfl, y.2⟩) fun f m' N' hf y => absurd y.1 hf
      rw [hnest, List.length_append] at hsz
      by_cases hc : k = 0
      · rw [decide_eq_true hc]
        rw [if_pos hc] at hnest hsz
        refine Wk.append (R := eMom) (i := 5) (Ev.world (i := 4) (k := .ref mo) (by walk_at "sl:ev") rfl fun tw => ⟨_, rfl, rfl⟩) rfl (Ex.tuple (.cons ((Ev.add (by walk_at "sl:ev") (Ev.mul (by walk_at "sl:ev") (Ev.len (i := 1) (by walk_at "sl:bi") (by walk_at "sl:ev") rfl (by omega) rfl) (mulOkL (by omega)))).use fun w1 q1 => .cons (Ev.use (k := .ref oa) (by walk_at "sl:ev") fun w2 q2 => .cons (Ev.use (k := .ref fa) (by walk_at "sl:ev") fun w3 q3 => .cons (Ev.bool.use fun w4 q4 => .nil ⟨Nat.le_of_ble_eq_true rfl, fun a => ⟨_, .rfl', 6, _, (ns.getD k 0 + wide * (body.length : Int), ops, frs, false), rfl, ?_, nf_mom (i := 0) (j := 3) (k := 4) rfl rfl rfl q1 q2 q3 q4, .vs [true, true, true] .drops (.nil ⟨rfl, ?_⟩)⟩⟩) rfl) rfl) rfl) rfl)) rfl rfl rfl rfl
        · rw [List.length_append]; omega
        · rw [hnest, ← List.append_assoc]; rfl
      · rw [decide_eq_false hc]
        rw [if_neg hc] at hnest
        exact .vs [true, true] .drops (.nil ⟨rfl, by rw [hnest, List.append_nil]; rfl⟩)
noncomputable def Moment (a : Addr) (t : Tok) (oa fa : Addr) (m : Mom) : HP :=
  ⟨fun l z _ => l = [] ∧ (∃ n, z.get? a = some ({ cls := .type "tuple", data := .seq #[.int m.1 t, .ref oa, .ref fa, .bool m.2.2.2] n } : Obj)) ∧ (∃ vs n, z.get? oa = some (listOf (List.toArray vs) n) ∧ IntsAre vs m.2.1) ∧ ∃ vs n, z.get? fa = some (listOf (List.toArray vs) n) ∧ IntsAre vs m.2.2.1,
    fun ⟨e, ⟨n, g⟩, ⟨vs, n2, g2, y2⟩, ws, n3, g3, y3⟩ kz _ => ⟨e, ⟨n, kz _ _ g⟩, ⟨vs, n2, kz _ _ g2, y2⟩, ws, n3, kz _ _ g3, y3⟩, fun ⟨e, _⟩ a ha => by rw [e] at ha; cases ha⟩
theorem intsAre' {z : Heap} {vs : List Value} {ns : List Int} (h : IntsAre vs ns) : All2 (eInt.r z) vs ns := by
  induction h with
  | nil => exact .nil
  | cons _ t _ ih => exact .cons ⟨t, rfl⟩ ih
theorem open_mom {v : Value} {m : Mom} : ∀ l z h, (Fact eMom v m).ok l z h → ∃ b : Addr × Tok × Addr × Addr, v = .ref b.1 ∧ (Moment b.1 b.2.1 b.2.2.1 b.2.2.2 m).ok l z h := fun l z h ⟨e, y⟩ => by
  obtain ⟨a, oa, fa, t, ovs, oc, fvs, fc, n, e2, h1, h2, h3, h4, h5⟩ := y
  exact ⟨(a, t, oa, fa), e2, e, ⟨n, h1⟩, ⟨ovs, oc, h2, h3⟩, fvs, fc, h4, h5⟩
section
variable {G : Gx} {rn : Nat} {c : Fx G rn} {m m' : Lm} {N N' N1 : List HP} {e e0 e1 e2 e3 : PySem.Expr} {es : List PySem.Expr} {k k1 k2 : AV} {ks : List AV} {x x2 : Str} {p p' p1 p2 p3 p4 pq : Pos} {K K' : Value → List HP → Prop} {P P' : Flow → Lm → List HP → Prop} {rest body b1 b2 : List Stmt} {t : Sem Value} {v : Value} {a b wd bo bg mo oa fa : Addr} {i j : Nat} {fz fz2 : Bool} {wide : Int} {xs ys : List Int} {M : List Mom} {mm : Mom} {tt : Tok}
theorem Sh.add {Q Q' : HP} (e : N[i]? = some Q) (H : ∀ l z h, z.StaysIn h → Q.ok l z h → Q'.ok [] z h) : Sh c m N (Q' :: N) := fun h ⟨f, z, ls, ag, X⟩ => by
  obtain ⟨l, ok, _⟩ := X.own.ok.get e
  exact ⟨f, z, [] :: ls, ag, X.F, ⟨X.own.zh, .cons (H l z h X.own.zh ok) X.own.ok, X.own.nd, X.own.off⟩, X.mv, X.Ll, X.Lz⟩
theorem Sm.shl (s : Sh c m N N') (h : Sm c m N' t K) : Sm c m N t K := fun hh tk S => h hh tk (s hh S)
theorem Moment.tup (e : N[i]? = some (Moment a tt oa fa mm)) : Sh c m N (Fact eTup (.ref a) [.int mm.1 tt, .ref oa, .ref fa, .bool mm.2.2.2] :: N) := .add e fun l z h zh ⟨_, ⟨n, g⟩, _⟩ => ⟨rfl, a, n, rfl, g⟩
theorem Moment.opens (e : N[i]? = some (Moment a tt oa fa mm)) : Sh c m N (Ls true eInt oa mm.2.1 :: N) := .add e fun l z h zh ⟨_, _, ⟨vs, n, g, y⟩, _⟩ => ⟨rfl, vs, n, g, intsAre' y⟩
theorem Moment.framed (e : N[i]? = some (Moment a tt oa fa mm)) : Sh c m N (Ls true eInt fa mm.2.2.1 :: N) := .add e fun l z h zh ⟨_, _, _, vs, n, g, y⟩ => ⟨rfl, vs, n, g, intsAre' y⟩
theorem Ex.momAt (h1 : Ev c m N e1 (.ref mo)) (h2 : Ev c m N e2 (.int (j : Int))) (hN : N[i]? = some (Ls fz eMom mo M)) (hy : M[j]? = some mm) (hj : j ≤ 1000000) {q : Nat} (hq : q < 4) (hs : ∀ a b u, subscripted e2 false (.ref a) (.int b u) = operate [.ref a, .int b u] (getItem (.ref a) (.int b u)))
    (hk : ∀ a t oa fa v, [Value.int mm.1 t, .ref oa, .ref fa, .bool mm.2.2.2][q]? = some v → K v (Moment a t oa fa mm :: N)) : Ex c m N (.Subscript (.Subscript e1 e2 p1) (.Constant (.int (q : Int)) 0 p2) p3) K := fun h tk S =>
  Subscript_ (Sm.go (Ex.item (K := fun v N' => N' = Fact eMom v mm :: N) h1 h2 hN hy hj (fun u => hs _ _ u) (fun _ => rfl)) S fun v1 h' tk' N' S' e2 => by
    subst e2
    obtain ⟨⟨a, t, oa, fa⟩, ev, S2⟩ := S'.open (j := 0) rfl open_mom
    subst ev
    refine wpAny_Constant_int ?_
    obtain ⟨z, l, zh, _, ⟨n, g⟩, _⟩ := S2.get (i := 0) rfl
    obtain ⟨v, hv⟩ : ∃ v, [Value.int mm.1 t, .ref oa, .ref fa, .bool mm.2.2.2][q]? = some v := ⟨_, List.getElem?_eq_getElem hq⟩
    have hT : IsTup { c.at h' tk' with toks := tk' + 1 }.heap a #[Value.int mm.1 t, .ref oa, .ref fa, .bool mm.2.2.2] := ⟨_, zh _ _ g, rfl, n, rfl⟩
    refine tail_any (s := { c.at h' tk' with toks := tk' + 1 }) hT.typeIs slot_tuple_getitem.lookup (getItem_tuple hT (by omega) (by omega) ?_ (by simpa using hv) ⟨h', _, _, rfl, S2, hk a t oa fa v hv⟩) rfl
    match q, hq with
    | 0, _ => rfl
    | 1, _ => rfl
    | 2, _ => rfl
    | 3, _ => rfl)
theorem Ev.momLen (hf : Ev c m N (.Name x p') (.val (Value.builtin "len"))) (h1 : Ev c m N e1 (.ref mo)) (h2 : Ev c m N e2 (.int (j : Int))) (hN : N[i]? = some (Ls fz eMom mo M)) (hy : M[j]? = some mm) (hj : j ≤ 1000000) (hl : mm.2.1.length ≤ 1000000) (hs : ∀ a b u, subscripted e2 false (.ref a) (.int b u) = operate [.ref a, .int b u] (getItem (.ref a) (.int b u))) :
    Ev c m N (.Call (.Name x p') [.Subscript (.Subscript e1 e2 p1) (.Constant (.int 1) 0 p2) p3] [] p) (.int mm.2.1.length) :=
  Ex.callB hf (.cons (Ex.momAt (q := 1) h1 h2 hN hy hj (by decide) hs fun a t oa fa v hv => .nil (Sm.shl (Moment.opens (i := 0) rfl) (by
    cases hv
    exact Sm.post (Sm.len (i := 0) rfl hl) fun w N' h ⟨e1, d⟩ S => ⟨N, (e1 ▸ S).unfact.unfact, rfl, d⟩))) rfl) rfl
theorem Et.leI {i j : Int} {b : Bool} (h1 : Ev c m N e1 (.int i)) (h2 : Ev c m N e2 (.int j)) (hb : decide (i ≤ j) = b) (hm : behindInMarks .LtE e2 = false) : Et c m N (.Compare e1 [.LtE] [e2] p) b := .cmp h1 h2 hm fun v1 v2 s Q ⟨_, e1⟩ ⟨_, e2⟩ y => by subst e1 e2 hb; exact PyProof.Rows.le_int y
end
theorem t_behind {G : Gx} {wd bo bg mo : Addr} {wide : Int} {fz : Bool} {M : List Mom} {i : Nat} {mst : Int} (hi : i + 1 < M.length) (hM : M.length ≤ 200) (hops : ∀ (j : Nat) m, M[j]? = some m → m.2.1.length ≤ 10) :
    Tr G 2 (.ref 1118) [.ref wd, .int (i : Int), .int mst] [Wrld G wd bo bg wide mo, Ls fz eMom mo M] fun v N' => ∃ g : Nat, (AV.int (g : Int)).den v ∧ Behind M i mst g ∧ N' = [Wrld G wd bo bg wide mo, Ls fz eMom mo M] := by
  refine fill_of G.X ?_; k_fill; intro _
  refine' Tr.enter [Str.ofString "world", Str.ofString "at", Str.ofString "most"] ?ho ?hcd ?hb ?ok ?_
  case ho => k_is
  case hcd => k_is
  case hb =>
    intro s vs X h
    cases h with | cons r h => cases h with | cons r h => cases h with | cons r h => cases h; exact BindsTo.of_eq rfl
  case ok => kernel_rfl
  intro d
  show Wk _ [(Str.ofString "most", .int mst), (Str.ofString "at", .int (i : Int)), (Str.ofString "world", .ref wd)] _ _ _
  dsimp only [HD.B110, HD.C110, HD.qB110, HD.qC110]
  refine Wk.forR (D := fun m N => m = [(Str.ofString "most", .int mst), (Str.ofString "at", .int (i : Int)), (Str.ofString "world", .ref wd)] ∧ N = [Wrld G wd bo bg wide mo, Ls fz eMom mo M] ∧ ∀ (j' : Nat) m', i < j' → j' < M.length → M[j']? = some m' → ¬ (m'.2.1.length : Int) ≤ mst) (by walk_at "sl:bi")
    (Xs.of (.cons (.add (by walk_at "sl:ev") Ev.int) (.cons (Ev.len (i := 1) (by walk_at "sl:bi") (Ev.world (i := 0) (k := .ref mo) (by walk_at "sl:ev") rfl fun tw => ⟨_, rfl, rfl⟩) rfl (by omega) rfl) .nil rfl) rfl) fun vs hv => ⟨(i : Int) + 1, M.length - (i + 1), .inr ?_, by omega, by omega, by omega,
      fun j m N => m = [(Str.ofString "most", .int mst), (Str.ofString "at", .int (i : Int)), (Str.ofString "world", .ref wd)] ∧ N = [Wrld G wd bo bg wide mo, Ls fz eMom mo M] ∧ ∀ (j' : Nat) m', i < j' → j' < i + 1 + j → M[j']? = some m' → ¬ (m'.2.1.length : Int) ≤ mst, ⟨rfl, rfl, fun j' m' h1 h2 => absurd h1 (by omega)⟩, ?_, fun m N ⟨a, b, q⟩ => ⟨a, b, fun j' m' h1 h2 => q j' m' h1 (by omega)⟩⟩) ?_ (by kernel_rfl)
  · cases hv with | cons r hv => cases hv with | cons r2 hv =>
    cases hv
    obtain ⟨t, rfl⟩ := r
    obtain ⟨u, rfl⟩ := r2
    exact ⟨t, u, by rw [show (i : Int) + 1 + ((M.length - (i + 1) : Nat) : Int) = (M.length : Int) by omega]⟩
  · rintro j mi Ni It hj ⟨rfl, rfl, q⟩
    rw [show (i : Int) + 1 + (j : Int) = ((i + 1 + j : Nat) : Int) by omega]
    have hin : i + 1 + j < M.length := by omega
    have hm := List.getElem?_eq_getElem hin
    refine Wk.ite (P' := LoopP _ _ _ _ _) (Tx.of (b := decide ((M[i + 1 + j].2.1.length : Int) ≤ mst)) (Et.leI (Ev.momLen (i := 2) (j := i + 1 + j) (by walk_at "sl:bi") (Ev.world (i := 1) (k := .ref mo) (by walk_at "sl:ev") rfl fun tw => ⟨_, rfl, rfl⟩) (by walk_at "sl:ev") rfl hm (by omega) (by have := hops _ _ hm; omega) fun _ _ _ => rfl) (by walk_at "sl:ev") rfl rfl) ?_) (fun _ _ y => .nil y) fun _ _ _ _ y => y
    by_cases hc : (M[i + 1 + j].2.1.length : Int) ≤ mst
    · rw [decide_eq_true hc]
      exact Wk.ret (Ev.use (k := .int ((i + 1 + j : Nat) : Int)) (by walk_at "sl:ev") fun v dv => ⟨_, rfl, _, dv, ⟨by omega, hin, fun j' m' h1 h2 => q j' m' h1 h2, .inr ⟨_, hm, hc⟩⟩, rfl⟩)
    · rw [decide_eq_false hc]
      refine .nil ⟨_, rfl, _, ⟨rfl, rfl, fun j' m' h1 h2 h3 => ?_⟩, rfl, rfl, rfl, trivial⟩
      by_cases e : j' = i + 1 + j
      · subst e; rw [hm] at h3; cases h3; exact hc
      · exact q j' m' h1 (by omega) h3
  · rintro m N ⟨rfl, rfl, q⟩
    exact Wk.ret (Ev.use (k := .int ((M.length : Int) - 1)) (.sub (Ev.len (i := 1) (by walk_at "sl:bi") (Ev.world (i := 0) (k := .ref mo) (by walk_at "sl:ev") rfl fun tw => ⟨_, rfl, rfl⟩) rfl (by omega) rfl) Ev.int) fun v dv => ⟨M.length - 1, by rw [show ((M.length - 1 : Nat) : Int) = (M.length : Int) - 1 by omega]; exact dv, ⟨by omega, by omega, fun j' m' h1 h2 => q j' m' h1 (by omega), .inl (by omega)⟩, rfl⟩)
structure Dz where
  x : Addr
  st : Addr
  rl : Addr
  mem : Addr
  cl : Addr
  adv : Addr
  brk : Addr
  wts : Addr
  pts : Addr
  row : Int → Option (Ins × Int)
noncomputable def StE (G : Gx) (Z : Dz) (q : PS) (n : Nat) : HP :=
  ⟨fun l z h => ∃ S : Sx, (S.x = Z.st ∧ S.rl = Z.rl ∧ S.mem = Z.mem) ∧ S.ps = q ∧ S.n ≤ n ∧ l = (S.led G.w.params).map (·.1) ∧ S.At G.w h ∧ ∃ z0 : Heap, z0.StaysIn z ∧ S.Ok G.prog G.w z0,
    fun ⟨S, e1, e2, e3, e4, H, z0, k, O⟩ kz kh => ⟨S, e1, e2, e3, e4, fun q hq => kh _ (e4 ▸ List.mem_map_of_mem hq) _ (H q hq), z0, fun b o e => kz _ _ (k b o e), O⟩,
    fun ⟨S, _, _, _, e4, H, _⟩ a ha => by
      rw [e4] at ha
      obtain ⟨q, hq, rfl⟩ := List.mem_map.mp ha
      exact ⟨_, H q hq⟩⟩
noncomputable def TrZ (G : Gx) (z : Heap) (n : Nat) (f : Value) (args : List AV) (N : List HP) (Q : Value → List HP → Prop) : Prop :=
  ∀ (A : Around) (s : Shared) (z' : Heap) (ls : List (List Addr)) (vs : List Value), Room n A → z.StaysIn z' → G.hb.StaysIn z' → G.hb.objs.size ≤ s.heap.objs.size → Own z' ls N s.heap → All2 AV.den args vs → wpAny (model G.prog G.w) A (call f vs) (Post z' ls.flatten s Q) No s
noncomputable def AdvZ (G : Gx) (Z : Dz) (z : Heap) : Prop := ∀ q n ins wd, q.halted = false → Z.row q.rip = some (ins, wd) → n ≤ 90000 → TrZ G z 13 (.ref Z.adv) [.ref Z.st] [StE G Z q n] fun v N' => N' = [Fact (eDec G.w) v (ins, wd), StE G Z (exec ins { q with rip := (q.rip + wd) % 18446744073709551616 }) (n + 8)]
theorem AdvZ.keeps {G : Gx} {Z : Dz} {z z' : Heap} (V : AdvZ G Z z) (k : z.StaysIn z') : AdvZ G Z z' := fun q n ins wd h1 h2 h3 A s z2 ls vs rm hz => V q n ins wd h1 h2 h3 A s z2 ls vs rm fun b o e => hz b o (k b o e)
noncomputable def AdvF (G : Gx) (Z : Dz) : HP := ⟨fun l z _ => l = [] ∧ AdvZ G Z z, fun x k _ => ⟨x.1, x.2.keeps k⟩, fun x a ha => by rw [x.1] at ha; cases ha⟩
theorem t_adv {G : Gx} {Z : Dz} {q : PS} {n : Nat} {ins : Ins} {wd : Int} (hh : q.halted = false) (hr : Z.row q.rip = some (ins, wd)) (hn : n ≤ 90000) : Tr G 13 (.ref Z.adv) [.ref Z.st] [AdvF G Z, StE G Z q n] fun v N' => N' = [Fact (eDec G.w) v (ins, wd), StE G Z (exec ins { q with rip := (q.rip + wd) % 18446744073709551616 }) (n + 8)] := fun A s z ls vs rm hz hs O ha => by
  have ok := O.ok
  cases ok with | @cons l1 _ ls1 _ r1 ok =>
  obtain ⟨rfl, V⟩ := r1
  exact V q n ins wd hh hr hn A s z ls1 vs rm (fun _ _ e => e) hz hs ⟨O.zh, ok, O.nd, O.off⟩ ha
structure Bx where
  d : Addr
  k : Nat → Tok
  tc : Tok
  tl : Tok
  wh : Value
noncomputable abbrev Bx.o (P : Params) (Z : Dz) (B : Bx) (cnt : Int) (lat : Str) : Obj := dbD P B.k Z.st Z.adv Z.pts Z.wts Z.cl Z.brk (.int cnt B.tc) (.str lat B.tl) B.wh
noncomputable def DbB (G : Gx) (Z : Dz) (B : Bx) (cnt : Int) (lat : Str) : HP :=
  ⟨fun l z h => l = [Z.x, B.d] ∧ h.get? Z.x = some (instObj 234 B.d) ∧ h.get? B.d = some (B.o G.w.params Z cnt lat) ∧ (TabAt (intKind G.prog G.w) PyData.int z Z.pts [] ∧ (∃ n, z.get? Z.wts = some (listOf #[] n)) ∧ ∃ n, z.get? Z.brk = some (listOf #[] n)) ∧ FnAt Z.adv z ∧ AdvZ G Z z,
    fun ⟨e, h1, h2, ⟨h3, ⟨n, h4⟩, n', h5⟩, h6, h7⟩ kz kh => ⟨e, kh _ (e ▸ .head _) _ h1, kh _ (e ▸ .tail _ (.head _)) _ h2, ⟨TabAt.keep h3 kz, ⟨n, kz _ _ h4⟩, n', kz _ _ h5⟩, fnAt_keep h6 kz, h7.keeps kz⟩,
    fun ⟨e, h1, h2, _⟩ a ha => by
      rw [e] at ha
      rcases List.mem_cons.mp ha with rfl | ha
      · exact ⟨_, h1⟩
      · exact List.mem_singleton.mp ha ▸ ⟨_, h2⟩⟩
noncomputable def DbE (G : Gx) (Z : Dz) (cnt : Int) (lat : Str) : HP :=
  ⟨fun l z h => ∃ B, (DbB G Z B cnt lat).ok l z h, fun ⟨B, x⟩ kz kh => ⟨B, (DbB G Z B cnt lat).mono x kz kh⟩, fun ⟨B, x⟩ => (DbB G Z B cnt lat).has x⟩
noncomputable def eCall : ER (Int × Int) := ⟨fun z v c => ∃ a t1 t2 n, v = .ref a ∧ z.get? a = some ({ cls := .type "tuple", data := .seq #[.int c.1 t1, .int c.2 t2] n } : Obj), fun ⟨a, t1, t2, n, e, g⟩ k => ⟨a, t1, t2, n, e, k _ _ g⟩⟩
section
variable {G : Gx} {rn : Nat} {c : Fx G rn} {m m' : Lm} {N N' N1 : List HP} {e e0 e1 e2 o : PySem.Expr} {es args : List PySem.Expr} {k k1 k2 : AV} {ks : List AV} {x x2 nm : Str} {p p' pa pb pos : Pos} {K K' : Value → List HP → Prop} {P P' : Flow → Lm → List HP → Prop} {rest body b1 b2 : List Stmt} {t : Sem Value} {a C f : Addr} {i j n : Nat} {Q Q' : HP} {Z : Dz} {q : PS} {cnt : Int} {lat : Str}
theorem StE.inst {l : List Addr} {z h : Heap} (x : (StE G Z q n).ok l z h) : ∃ S : Sx, S.ps = q ∧ S.rl = Z.rl ∧ S.mem = Z.mem ∧ InstAt h Z.st (instObj 669 S.d) 669 (some (stD G.w.params S.k S.rl S.xl S.fl S.mem S.sg (.int S.rip S.tr) S.bg (.bool S.halted))) ∧ h.get? Z.rl = some (listOf S.vs.toArray S.c) ∧ ∃ z0 : Heap, z0.StaysIn z ∧ S.Ok G.prog G.w z0 := by
  obtain ⟨S, ⟨rfl', r2, r3⟩, e2, e3, e4, H, r⟩ := x
  exact ⟨S, e2, r2, r3, rfl' ▸ ⟨H _ (.head _), rfl, rfl, H _ (.tail _ (.head _))⟩, r2 ▸ H _ (.tail _ (.tail _ (.head _))), r⟩
theorem Ev.rip (h1 : Ev c m N e (.ref Z.st)) (hN : N[i]? = some (StE G Z q n)) (hb : baseE e = true) : Ev c m N (.Attribute e "rip" p) (.int q.rip) :=
  .attrH (C := 669) h1 hN (fun l z h _ x => by
    obtain ⟨S, rfl, _, _, I, _⟩ := StE.inst x
    exact ⟨_, _, _, _, I, rfl, rfl, _, rfl⟩) (by rw [hb, Bool.and_true]; kernel_rfl)
theorem Ev.halted (h1 : Ev c m N e (.ref Z.st)) (hN : N[i]? = some (StE G Z q n)) (hb : baseE e = true) : Ev c m N (.Attribute e "is_halted" p) (.bool q.halted) :=
  .attrH (C := 669) h1 hN (fun l z h _ x => by
    obtain ⟨S, rfl, _, _, I, _⟩ := StE.inst x
    exact ⟨_, _, _, _, I, rfl, rfl, rfl⟩) (by rw [hb, Bool.and_true]; kernel_rfl)
theorem Ev.itemH (h1 : Ev c m N e1 (.ref a)) (h2 : Ev c m N e2 (.int (j : Int))) (hN : N[i]? = some Q) (I : ∀ l z h, z.StaysIn h → Q.ok l z h → ∃ vs n v, h.get? a = some (listOf (List.toArray vs) n) ∧ vs[j]? = some v ∧ k.den v) (hj : j ≤ 1000000)
    (hs : ∀ u, subscripted e2 false (.ref a) (.int (j : Int) u) = operate [.ref a, .int (j : Int) u] (getItem (.ref a) (.int (j : Int) u))) : Ev c m N (.Subscript e1 e2 p) k := fun h tk S =>
  Subscript_ (Ev.goR h1 S fun h' tk' S' => Ev.go h2 S' fun v2 hh tk2 S2 d => by
      obtain ⟨u, d⟩ := d
      subst d
      obtain ⟨z, l, zh, ok⟩ := S2.get hN
      obtain ⟨vs, n, v, g, hw, d⟩ := I l z hh zh ok
      have hj2 : j < vs.length := (List.getElem?_eq_some_iff.mp hw).1
      have hl : hh.IsList a (List.toArray vs) := ⟨_, g, rfl, n, rfl⟩
      exact tail_any (s := c.at hh tk2) hl.typeIs slot_list_getitem.lookup (wpAny_getItem_list hl (by omega) (by omega) (by simpa using hw) ⟨hh, tk2, N, rfl, S2, rfl, d⟩) (hs u))
theorem Ev.regs (h1 : Ev c m N e (.ref Z.st)) (h2 : Ev c m N e2 (.int (j : Int))) (hN : N[i]? = some (StE G Z q n)) (hj : j < 16) (hb : baseE e = true)
    (hs : ∀ u, subscripted e2 false (.ref Z.rl) (.int (j : Int) u) = operate [.ref Z.rl, .int (j : Int) u] (getItem (.ref Z.rl) (.int (j : Int) u))) : Ev c m N (.Subscript (.Attribute e "regs" pa) e2 p) (.int (q.ns.getD j 0)) :=
  .itemH (.attrH (C := 669) h1 hN (fun l z h _ x => by
    obtain ⟨S, rfl, e2, _, I, _⟩ := StE.inst x
    exact ⟨_, _, _, _, I, rfl, rfl, congrArg Value.ref e2⟩) (by rw [hb, Bool.and_true]; kernel_rfl)) h2 hN (fun l z h _ x => by
    obtain ⟨S, rfl, _, _, _, g, _, _, O⟩ := StE.inst x
    obtain ⟨t, hv⟩ := IntsAre.at_ O.iv j (by rw [O.len]; exact hj)
    exact ⟨_, _, _, g, hv, _, rfl⟩) (by omega) hs
theorem set_same {β : Type} : ∀ {i : Nat} {l : List β} {q : β}, l[i]? = some q → l.set i q = l
  | 0, _ :: _, _, e => by cases e; rfl
  | i + 1, a :: l, _, e => congrArg (a :: ·) (set_same (show l[i]? = _ from e))
end
noncomputable def Bx.es (P : Params) (Z : Dz) (B : Bx) (cnt : Int) (lat : Str) : List DictEntry := match (B.o P Z cnt lat).data with
  | .dict es _ => es.toList
  | _ => []
section
variable {G : Gx} {rn : Nat} {c : Fx G rn} {m m' : Lm} {N N' N1 : List HP} {e e0 e1 e2 o : PySem.Expr} {es args : List PySem.Expr} {k k1 k2 : AV} {ks : List AV} {x x2 nm : Str} {p p' pa pb pos : Pos} {K K' : Value → List HP → Prop} {P P' : Flow → Lm → List HP → Prop} {rest body b1 b2 : List Stmt} {t : Sem Value} {a C f : Addr} {i j n : Nat} {Q Q' : HP} {Z : Dz} {q : PS} {cnt cnt' : Int} {lat lat' : Str}
theorem DbB.inst {B : Bx} {l : List Addr} {z h : Heap} (x : (DbB G Z B cnt lat).ok l z h) : InstAt h Z.x (instObj 234 B.d) 234 (some (dictOf (B.es G.w.params Z cnt lat) 9)) := ⟨x.2.1, rfl, rfl, x.2.2.1⟩
theorem Ev.db (h1 : Ev c m N e (.ref Z.x)) (hN : N[i]? = some (DbE G Z cnt lat)) (hv : ∀ B : Bx, ∃ v, getL nm (B.es G.w.params Z cnt lat) = some (some v) ∧ handedIn v = true ∧ k.den v) (ok : (attrOk G.K 234 nm && baseE e) = true) : Ev c m N (.Attribute e nm p) k :=
  .attrH (C := 234) h1 hN (fun l z h _ ⟨B, x⟩ => by
    obtain ⟨v, a, b, d⟩ := hv B
    exact ⟨_, _, _, v, DbB.inst x, a, b, d⟩) ok
theorem Ev.dbSt (h1 : Ev c m N e (.ref Z.x)) (hN : N[i]? = some (DbE G Z cnt lat)) (hb : baseE e = true) : Ev c m N (.Attribute e "state" p) (.ref Z.st) := .db h1 hN (fun _ => ⟨_, rfl, rfl, rfl⟩) (by rw [hb, Bool.and_true]; kernel_rfl)
theorem Ev.dbCl (h1 : Ev c m N e (.ref Z.x)) (hN : N[i]? = some (DbE G Z cnt lat)) (hb : baseE e = true) : Ev c m N (.Attribute e "calls" p) (.ref Z.cl) := .db h1 hN (fun _ => ⟨_, rfl, rfl, rfl⟩) (by rw [hb, Bool.and_true]; kernel_rfl)
theorem Ev.dbBrk (h1 : Ev c m N e (.ref Z.x)) (hN : N[i]? = some (DbE G Z cnt lat)) (hb : baseE e = true) : Ev c m N (.Attribute e "broken" p) (.ref Z.brk) := .db h1 hN (fun _ => ⟨_, rfl, rfl, rfl⟩) (by rw [hb, Bool.and_true]; kernel_rfl)
theorem Ev.dbCnt (h1 : Ev c m N e (.ref Z.x)) (hN : N[i]? = some (DbE G Z cnt lat)) (hb : baseE e = true) : Ev c m N (.Attribute e "count" p) (.int cnt) := .db h1 hN (fun _ => ⟨_, rfl, rfl, _, rfl⟩) (by rw [hb, Bool.and_true]; kernel_rfl)
theorem Ev.dbLat (h1 : Ev c m N e (.ref Z.x)) (hN : N[i]? = some (DbE G Z cnt lat)) (hb : baseE e = true) : Ev c m N (.Attribute e "latest" p) (.str lat) := .db h1 hN (fun _ => ⟨_, rfl, rfl, _, rfl⟩) (by rw [hb, Bool.and_true]; kernel_rfl)
theorem Wk.setDb (hx : Ex c m N e fun v N1 => ∃ cnt lat cnt' lat', N1[j]? = some (DbE G Z cnt lat) ∧ (∀ B : Bx, (B.es G.w.params Z cnt lat).any (·.key.isStr nm) = true ∧ (B.es G.w.params Z cnt lat).length ≤ 900 ∧ ∀ tk, ∃ B' : Bx, B'.d = B.d ∧ B'.es G.w.params Z cnt' lat' = putL nm (PyData.keyHash G.w.params nm) (.str nm tk) v (B.es G.w.params Z cnt lat)) ∧ Wk c m (N1.set j (DbE G Z cnt' lat')) rest P)
    (ho : ∀ N, Ev c m N o (.ref Z.x)) (hp : (findIn G.K (.ref 234) "__setattr__" == some (some (.builtin "object.__setattr__")) && plainOver G.K 234 && (takerIn G.K 234 nm == some none) && hasDictIn G.K 234) = true) (hs : swapsWith e (some (.Attribute o nm pa)) p.line c.env = pure false) : Wk c m N (.Assign [.Attribute o nm pa] e p :: rest) P :=
  Wk.setAttr (C := 234) (a := Z.x) (j := j) (Sm.post hx fun v N' h y S => by
    obtain ⟨ct, lt, ct', lt', hj, hB, hw⟩ := y
    obtain ⟨B, _, S'⟩ := S.open (φ := fun _ => True) (Q' := fun B => DbB G Z B ct lt) hj fun l z h y => y.elim fun B x => ⟨B, trivial, x⟩
    obtain ⟨h1, h2, h3⟩ := hB B
    have hl := (List.getElem?_eq_some_iff.mp hj).1
    refine ⟨_, S', ho _, DbB G Z B ct lt, DbE G Z ct' lt', B.es G.w.params Z ct lt, B.d, 9, by rw [List.getElem?_set_self hl], fun l z h x => ⟨x.1 ▸ .tail _ (.head _), (DbB.inst x).at_, x.2.2.1⟩, h1, h2, fun l z h h' tk es' e x hk e' => ?_, by rw [List.set_set]; exact hw⟩
    obtain ⟨B', b1, b3⟩ := h3 tk
    subst e
    rw [← b3] at e'
    have hne : Z.x ≠ B.d := fun q => by
      have := x.2.1
      rw [q, x.2.2.1] at this
      have := congrArg Obj.cls (Option.some.inj this)
      cases this
    exact ⟨B', b1 ▸ x.1, b1 ▸ hk _ (x.1 ▸ .head _) hne _ x.2.1, b1 ▸ e', x.2.2.2⟩) hp hs
theorem Wk.setCnt (hx : Ex c m N e fun v N1 => ∃ cnt lat cnt', N1[j]? = some (DbE G Z cnt lat) ∧ (AV.int cnt').den v ∧ Wk c m (N1.set j (DbE G Z cnt' lat)) rest P) (ho : ∀ N, Ev c m N o (.ref Z.x)) (hs : swapsWith e (some (.Attribute o "count" pa)) p.line c.env = pure false) : Wk c m N (.Assign [.Attribute o "count" pa] e p :: rest) P :=
  .setDb (j := j) (Z := Z) (hx.mono fun v N' ⟨ct, lt, ct', hj, ⟨t, e⟩, hw⟩ => ⟨ct, lt, ct', lt, hj, fun B => ⟨rfl, Nat.le_of_ble_eq_true rfl, fun tk => ⟨{ B with tc := t }, rfl, e ▸ rfl⟩⟩, hw⟩) ho (by kernel_rfl) hs
theorem Wk.setLat (hx : Ex c m N e fun v N1 => ∃ cnt lat lat', N1[j]? = some (DbE G Z cnt lat) ∧ (AV.str lat').den v ∧ Wk c m (N1.set j (DbE G Z cnt lat')) rest P) (ho : ∀ N, Ev c m N o (.ref Z.x)) (hs : swapsWith e (some (.Attribute o "latest" pa)) p.line c.env = pure false) : Wk c m N (.Assign [.Attribute o "latest" pa] e p :: rest) P :=
  .setDb (j := j) (Z := Z) (hx.mono fun v N' ⟨ct, lt, lt', hj, ⟨t, e⟩, hw⟩ => ⟨ct, lt, ct, lt', hj, fun B => ⟨rfl, Nat.le_of_ble_eq_true rfl, fun tk => ⟨{ B with tl := t }, rfl, e ▸ rfl⟩⟩, hw⟩) ho (by kernel_rfl) hs
theorem Ex.adv {ins : Ins} {wd : Int} (h1 : Ev c m N e (.ref Z.x)) (h2 : Ev c m N e2 (.ref Z.st)) (hS : N[j]? = some (StE G Z q n)) (hD : N[i]? = some (DbE G Z cnt lat)) (hh : q.halted = false) (hr : Z.row q.rip = some (ins, wd)) (hn : n ≤ 90000) (ok : (baseE e && plainE e2 && decide (13 ≤ rn) && pa.endLine == p.line) = true)
    (hk : ∀ v, K v (Fact (eDec G.w) v (ins, wd) :: N.set j (StE G Z (exec ins { q with rip := (q.rip + wd) % 18446744073709551616 }) (n + 8)))) : Ex c m N (.Call (.Attribute e "advance" pa) [e2] [] p) K := by
  simp only [Bool.and_eq_true, decide_eq_true_eq] at ok
  refine .stored (C := 234) (f := Z.adv) h1 hD (fun l z h zh ⟨B, x⟩ => ⟨fnAt_keep x.2.2.2.2.1 zh, _, _, _, DbB.inst x, rfl⟩) (.cons (h2.ref (.nil ⟨fun h S => ?_, Sm.shl (.add (Q' := AdvF G Z) hD fun l z h zh ⟨B, x⟩ => ⟨rfl, x.2.2.2.2.2⟩) (Sm.tr (t_adv hh hr hn) ok.1.2 (true :: mkAt j) (congrArg (AdvF G Z :: ·) (pick_at j N hS)) (.cons rfl .nil) fun v N1 e => ?_)⟩)) ok.1.1.2) ?_
  · obtain ⟨z, l, zh, B, x⟩ := S.get hD
    exact fnAt_keep x.2.2.2.2.1 zh
  · subst e
    show K v (_ :: mergeM (mkAt j) _ N)
    rw [merge_at j N (List.getElem?_eq_some_iff.mp hS).1]
    exact hk v
  · rw [Bool.and_eq_true]
    refine ⟨by kernel_rfl, ?_⟩
    unfold methOk
    rw [ok.1.1.1, List.all_cons, ok.1.1.2, ok.2]; rfl
end
noncomputable def optDen : Option AV → Option Value → Prop
  | none, v => v = none
  | some k, v => ∃ w, v = some w ∧ k.den w
noncomputable def Cel (a : Addr) (k : Option AV) : HP := ⟨fun l _ h => l = [a] ∧ ∃ v, h.IsCell a v ∧ optDen k v, fun ⟨e, v, ⟨o, g, d⟩, y⟩ _ kh => ⟨e, v, ⟨o, kh a (e ▸ .head _) _ g, d⟩, y⟩, fun ⟨e, v, ⟨o, g, d⟩, y⟩ b hb => by rw [e] at hb; exact List.mem_singleton.mp hb ▸ ⟨_, g⟩⟩
noncomputable def CelF (a : Addr) (k : AV) : HP := ⟨fun l z _ => l = [] ∧ ∃ v, z.IsCell a (some v) ∧ k.den v, fun ⟨e, v, g, y⟩ kz _ => ⟨e, v, g.keeps kz, y⟩, fun ⟨e, _⟩ b hb => by rw [e] at hb; cases hb⟩
theorem Cel.freeze {a : Addr} {k : AV} : Ent [Cel a (some k)] [CelF a k] := .freeze fun l z h z' ⟨e, v, ⟨o, g, d⟩, w, ev, y⟩ kz kh => ⟨rfl, w, ⟨o, kh a (e ▸ .head _) _ g, ev ▸ d⟩, y⟩
noncomputable def isLoc (kind : Str → Option NameKind) (q : Str × AV) : Bool := kind q.1 == some .local
theorem agree_bind {kind : Str → Option NameKind} : ∀ {names : List Str} {args : List AV} {vs : List Value} {f0 fc : Str → Option Value} {m0 c0 : Lm}, All2 AV.den args vs → Agr m0 f0 → (∀ n, optDen (c0.lookup n) (fc n)) →
    Agr (((names.zip args).filter (isLoc kind)).reverse ++ m0) (bindL kind (names.zip vs) f0) ∧ ∀ n, optDen ((((names.zip args).filter fun q => !isLoc kind q).reverse ++ c0).lookup n) (bindC kind (names.zip vs) fc n)
  | [], _, _, _, _, _, _, _, h, hc => ⟨h, hc⟩
  | _ :: _, _, _, _, _, _, _, .nil, h, hc => ⟨h, hc⟩
  | n :: names, a :: args, v :: vs, f0, fc, m0, c0, .cons r y, h, hc => by
    rw [List.zip_cons_cons, List.zip_cons_cons]
    unfold bindL bindC
    by_cases hk : kind n = some .local
    · have e1 : isLoc kind (n, a) = true := by unfold isLoc; rw [hk]; rfl
      rw [if_pos hk, if_pos hk, List.filter_cons_of_pos e1, List.filter_cons_of_neg (by simp [e1]), List.reverse_cons, List.append_assoc]
      refine agree_bind y (fun z k e => ?_) hc
      change ((n, a) :: m0).lookup z = some k at e
      rw [lookup_cons z] at e
      by_cases q : z = n
      · rw [if_pos q] at e ⊢; cases e; exact ⟨v, rfl, r⟩
      · rw [if_neg q] at e ⊢; exact h z k e
    · have e1 : isLoc kind (n, a) = false := by unfold isLoc; simpa using hk
      rw [if_neg hk, if_neg hk, List.filter_cons_of_neg (by simp [e1]), List.filter_cons_of_pos (by simp [e1]), List.reverse_cons, List.append_assoc]
      refine agree_bind y h fun z => ?_
      change optDen (((n, a) :: c0).lookup z) _
      rw [lookup_cons z]
      by_cases q : z = n
      · rw [if_pos q, if_pos q]; exact ⟨v, rfl, r⟩
      · rw [if_neg q, if_neg q]; exact hc z
theorem flat_ones {α : Type} : ∀ l : List α, (l.map fun a => [a]).flatten = l
  | [] => rfl
  | a :: l => congrArg (a :: ·) (flat_ones l)
theorem all2_map {α β γ : Type} {R : β → γ → Prop} {f : α → β} {g : α → γ} : ∀ {l : List α}, (∀ a ∈ l, R (f a) (g a)) → All2 R (l.map f) (l.map g)
  | [], _ => .nil
  | a :: l, h => .cons (h a (.head _)) (all2_map fun b hb => h b (.tail _ hb))
theorem Tr.enterC {G : Gx} {n : Nat} {name qual : Str} {params : Arguments} {body : List Stmt} {scope : Scope} {dV kV doc pm cdv ct oc : Value} {an od : Option Addr} {osl : Array (Option Value)} {f : Addr} {args : List AV} {N : List HP} {Q : Value → List HP → Prop} (names : List Str)
    (ho : (HD.KK G.w.params).lookup f = some ⟨oc, od, .func (fnOf name qual params body scope dV kV doc pm an cdv ct), osl⟩) (hcd : codeIn (HD.KK G.w.params) cdv qual = true)
    (hbind : ∀ s vs, (HD.KK G.w.params).In s.heap → All2 AV.den args vs → BindsTo s (fnOf name qual params body scope dV kV doc pm an cdv ct) ⟨vs, []⟩ (names.zip vs))
    (ok : (names.all (fun x => scope.names.lookup x == some .local || scope.names.lookup x == some .cell) && decide ((cellsFrom 0 scope.names []).map (·.1)).Nodup && !scope.isCoroutine && !scope.isGenerator && scope.kind == .function) = true)
    (h : ∀ d : Fd G n, Wk ⟨⟨qual, scope, f, cdv, fun L => cellsFrom (L + 1) scope.names []⟩, d⟩ ((names.zip args).filter (isLoc fun x => scope.names.lookup x)).reverse ((cellsFrom (d.L + 1) scope.names []).map (fun q => Cel q.2 ((((names.zip args).filter fun q => !isLoc (fun x => scope.names.lookup x) q).reverse).lookup q.1)) ++ N) body (Leave Q)) : Tr G (n + 1) (.ref f) args N Q := fun A s z ls vs rm hz hs O ha => by
  simp only [Bool.and_eq_true, Bool.not_eq_true', beq_iff_eq, decide_eq_true_eq] at ok
  obtain ⟨X, T⟩ := fst_base hz O
  refine wpAny_call ?_
  refine codeAny_call_function (fd := fnOf name qual params body scope dV kV doc pm an cdv ct) rm.lt (X _ _ ho) rfl ok.1.1.2 ok.1.2 rfl (codeRec_of X hcd) (hbind s vs X ha _ _ _ _ ?_)
  have hkind : ((names.zip vs).all fun y => scope.names.lookup y.1 == some .local || scope.names.lookup y.1 == some .cell) = true := List.all_eq_true.mpr fun y hy => List.all_eq_true.mp ok.1.1.1.1 y.1 (List.of_mem_zip (show (y.1, y.2) ∈ _ from hy)).1
  refine wpAny_newFunctionEnv_cells ok.2 (kindsX hkind _) fun env' he s' x => ?_
  subst he
  refine ⟨T.nolimit.keeps x.toInCall.keep, codeAny_func ?_⟩
  obtain ⟨h₁, tk, rfl, _⟩ := x.done
  have hk₁ := x.toInCall.keep
  have hnd : ((cellsFrom (s.heap.objs.size + 1) scope.names []).map (·.1)).Nodup := cellsFrom_names scope.names 0 (s.heap.objs.size + 1) [] [] rfl ▸ ok.1.1.1.2
  have hL : s.heap.get? s.heap.objs.size = none := Heap.get?_none_of_le (Nat.le_refl _)
  have new : ∀ a, s.heap.objs.size ≤ a → s.heap.get? a = none ∧ z.get? a = none ∧ a ∉ ls.flatten := fun a ha => by
    have e0 := Heap.get?_none_of_le (h := s.heap) ha
    refine ⟨e0, ?_, fun hm => ?_⟩
    · cases e : z.get? a with
      | none => rfl
      | some o => rw [O.zh _ _ e] at e0; cases e0
    · obtain ⟨o, e⟩ := O.ok.has _ hm
      rw [e0] at e; cases e
  obtain ⟨ag, cg⟩ := agree_bind (kind := fun x => scope.names.lookup x) (names := names) (f0 := fun _ => none) (fc := fun _ => none) (m0 := []) (c0 := []) ha (fun _ _ e => nomatch e) fun _ => rfl
  rw [List.append_nil] at ag cg
  generalize hcs : cellsFrom (s.heap.objs.size + 1) scope.names [] = cs at *
  have above : ∀ c ∈ cs.map (·.2), s.heap.objs.size ≤ c ∧ c ≠ s.heap.objs.size := fun c hc => by
    obtain ⟨q, hq, rfl⟩ := List.mem_map.mp hc
    have := x.above q.1 q.2 hq
    exact ⟨Nat.le_of_lt this, Nat.ne_of_gt this⟩
  have fl : ((cs.map fun q => [q.2]) ++ ls).flatten = cs.map (·.2) ++ ls.flatten := by
    rw [List.flatten_append, show (cs.map fun q => [q.2]) = (cs.map (·.2)).map fun a => [a] by rw [List.map_map]; rfl, flat_ones]
  have S0 := h ⟨A.deeper (newEnv scope s.heap.objs.size mainGlobals cs (qual ++ ".<locals>.") (some f) cdv none builtinsNs), rm.deeper _, s, z, ls.flatten, hz, s.heap.objs.size, Nat.le_refl _⟩ h₁ tk (by
    refine ⟨_, z, (cs.map fun q => [q.2]) ++ ls, ag, ⟨x.toInCall.ns, fun b o e => hk₁ b o (O.zh b o (hz b o e)), hs⟩, ⟨fun b o e => hk₁ b o (O.zh b o e), ?_, ?_, ?_⟩, ⟨fun _ _ e => e, fun b o e _ => hk₁ b o e, fun a q => ?_⟩, ?_, (new _ (Nat.le_refl _)).2.1⟩
    · show All2 _ _ ((cellsFrom (s.heap.objs.size + 1) scope.names []).map _ ++ N)
      rw [hcs]
      exact All2.append (all2_map fun q hq => ⟨rfl, _, x.cell q.1 q.2 (lookup_of_mem_nodup hnd hq), cg q.1⟩) (O.ok.move (fun _ _ e => e) fun a _ o e => hk₁ a o e)
    · rw [fl]
      have ap : cs.Pairwise fun x y => x.2 ≠ y.2 := x.apart
      exact List.nodup_append.mpr ⟨(List.pairwise_map.mpr ap : List.Pairwise (· ≠ ·) _), O.nd, fun a ha b hb e => (new a (above a ha).1).2.2 (e ▸ hb)⟩
    · intro a hm
      rw [fl] at hm
      exact (List.mem_append.mp hm).elim (fun hm => (new a (above a hm).1).2.1) (O.off a)
    · rw [fl] at q
      exact q.imp id fun q => (List.mem_append.mp q).elim (fun hm => .inr (new a (above a hm).1).1) .inl
    · rw [fl]
      intro hm
      exact (List.mem_append.mp hm).elim (fun hm => (above _ hm).2 rfl) (new _ (Nat.le_refl _)).2.2)
  subst hcs
  refine wpAny_mono S0 (fun fl s' y => ?_) fun _ _ y => y.elim
  obtain ⟨h', tk', m', N', e, ⟨f', z', ls', ag, X'⟩, q⟩ := y
  subst e
  exact ⟨h', tk', z', ls', N', rfl, X'.own, X'.mv, q⟩
section
variable {G : Gx} {rn : Nat} {c : Fx G rn} {m m' : Lm} {N N' N1 : List HP} {e e0 e1 e2 o : PySem.Expr} {es args : List PySem.Expr} {k k1 k2 : AV} {ks : List AV} {x x2 nm : Str} {p p' pa pb pos : Pos} {K K' : Value → List HP → Prop} {P P' : Flow → Lm → List HP → Prop} {rest body b1 b2 : List Stmt} {t : Sem Value} {a C f : Addr} {i j n : Nat} {Q Q' : HP}
noncomputable def cellOk (st : Fst) (x : Str) : Bool := st.cs.kind == .function && ((envX st.cn st.cs 0 st.a st.cd []).kindOf x == some .cell || (envX st.cn st.cs 0 st.a st.cd []).kindOf x == some .free) && !(x == ("__debug__" : Str)) && !(x == ("__classdict__" : Str))
theorem Ev.cellH (hN : N[i]? = some Q) (I : ∀ l z h, z.StaysIn h → Q.ok l z h → ∃ v, h.IsCell a (some v) ∧ k.den v) (hc : (c.st.cl c.L).lookup x = some a) (ok : cellOk c.st x = true) : Ev c m N (.Name x p) k := fun h tk S => by
  simp only [cellOk, Bool.and_eq_true, Bool.not_eq_true', beq_iff_eq, Bool.or_eq_true] at ok
  obtain ⟨z, l, zh, y⟩ := S.get hN
  obtain ⟨v, hv, d⟩ := I l z h zh y
  rcases ok.1.1.2 with hk | hk
  · exact wpAny_Name (wpAny_loadName_cell (s := c.at h tk) (env := c.env) ok.1.1.1 hk hc hv ⟨h, tk, N, rfl, S, rfl, d⟩) ok.1.2
  · exact wpAny_Name (wpAny_loadName_free (s := c.at h tk) (env := c.env) ok.1.1.1 hk hc hv ⟨h, tk, N, rfl, S, rfl, d⟩ ok.2) ok.1.2
theorem Ev.celF (hN : N[i]? = some (CelF a k)) (hc : (c.st.cl c.L).lookup x = some a) (ok : cellOk c.st x = true) : Ev c m N (.Name x p) k := .cellH hN (fun l z h zh ⟨_, v, g, d⟩ => ⟨v, g.keeps zh, d⟩) hc ok
theorem Ev.cel (hN : N[i]? = some (Cel a (some k))) (hc : (c.st.cl c.L).lookup x = some a) (ok : cellOk c.st x = true) : Ev c m N (.Name x p) k := .cellH hN (fun l z h zh ⟨_, v, g, w, e, d⟩ => ⟨w, e ▸ g, d⟩) hc ok
theorem Wk.setCell {k0 : Option AV} (hx : Ex c m N e fun v N' => ∃ k, k.den v ∧ N'[j]? = some (Cel a k0) ∧ Wk c m (N'.set j (Cel a (some k))) rest P) (hc : (c.st.cl c.L).lookup x = some a) (ok : (c.st.cs.kind == .function && (envX c.st.cn c.st.cs 0 c.st.a c.st.cd []).kindOf x == some .cell) = true) (hs : swapsWith e (some (.Name x p')) p.line c.env = pure false) : Wk c m N (.Assign [.Name x p'] e p :: rest) P := fun h tk S => by
  simp only [Bool.and_eq_true, beq_iff_eq] at ok
  refine wpAny_execs_cons (wpAny_Assign_Name (Sm.go hx S fun v h' tk' N' S' y => ?_) hs)
  obtain ⟨k, d, hj, y⟩ := y
  obtain ⟨z, l, zh, el, v0, g, _⟩ := S'.get hj
  refine wpAny_storeName_cell (s := c.at h' tk') (env := c.env) ok.1 ok.2 hc g fun h'' g' hs' => y h'' _ (S'.put hj fun l z zh off y2 => ⟨fun b ob hb e => (hs'.2 b fun q => hb (by rw [y2.1, q]; exact .head _)).trans e, y2.1, _, g', v, rfl, d⟩)
end
inductive CallsM : List Value → List (Int × Int) → List (Addr × Obj) → Prop
  | nil : CallsM [] [] []
  | cons {vs cs r} (a : Addr) (c : Int × Int) (t1 t2 : Tok) (n : Nat) : CallsM vs cs r → CallsM (.ref a :: vs) (c :: cs) ((a, { cls := .type "tuple", data := .seq #[.int c.1 t1, .int c.2 t2] n }) :: r)
theorem calls_listed {h : Heap} {vs : List Value} {cs : List (Int × Int)} (x : All2 (eCall.r h) vs cs) : ∃ l, CallsM vs cs l ∧ ∀ q ∈ l, h.get? q.1 = some q.2 := by
  induction x with
  | nil => exact ⟨[], .nil, fun _ hq => nomatch hq⟩
  | cons r _ ih =>
    obtain ⟨a, t1, t2, n, rfl, e⟩ := r
    obtain ⟨l, h1, h2⟩ := ih
    refine ⟨(a, _) :: l, .cons a _ t1 t2 n h1, fun q hq => ?_⟩
    rcases List.mem_cons.mp hq with rfl | hq
    · exact e
    · exact h2 q hq
theorem calls_reads {h : Heap} {vs : List Value} {cs : List (Int × Int)} (x : All2 (eCall.r h) vs cs) : ReadsAll h vs (cs.map fun c => .tuple [.int c.1, .int c.2]) [] := by
  induction x with
  | nil => exact .nil
  | cons r _ ih =>
    obtain ⟨a, t1, t2, n, rfl, e⟩ := r
    exact .cons (as := []) (bs := []) (.tuple e rfl rfl (.cons (as := []) (bs := []) (.int _ _) (.cons (as := []) (bs := []) (.int _ _) .nil))) ih
section
variable {prog : Program} {w : World} {A : Around} {h₀ : Heap} {L : Addr} {m : Str → Option Value} {env : Env}
theorem comp_row0L {x : Str} {px p0 p1 : Pos} {scope : Scope} {cl : List (Str × Addr)} {s₂ : Shared} {ax : Addr} {its : Array Value} {Fin : List Value → List (Addr × Obj) → Prop} {news : List (Addr × Obj)}
    (hS : LCg.SrcAt h₀ ax its news) (hk : ∀ C, (compEnvC scope cl C env).scope.kind = .function) (hl : ∀ C, (compEnvC scope cl C env).kindOf x = some .local) (hd : (x == ("__debug__" : Str)) = false) :
    ∀ (k i : Nat) (vs : List Value) (cs : List (Int × Int)) (tl : List (Addr × Obj)) (ys : List Value) (ns : List Int), CallsM vs cs tl → its.toList.drop i = vs → vs.length = k → (∀ q ∈ tl, q ∈ news) → IntsAre ys ns → (∀ ys', IntsAre ys' (ns ++ cs.map (·.1)) → Fin ys' news) →
      LCg.CompRest prog w A h₀ L m env (.Subscript (.Name x px) (.Constant (.int 0) 0 p0) p1) x scope cl s₂ (LCg.SrcAt h₀ ax its) (fun i v => its[i]? = some v) Fin k i ys news
  | 0, i, vs, cs, tl, ys, ns, C, e1, e2, hm, hi, hf => by
    cases C with
    | nil => exact LCg.CompRest.zero (hf ys (by simpa using hi))
    | cons => cases e2
  | k + 1, i, vs, cs, tl, ys, ns, C, e1, e2, hm, hi, hf => by
    cases C with
    | nil => cases e2
    | cons a c t1 t2 n C =>
      refine LCg.CompRest.succ fun v I oI C' oC D m₂ h tk E' hv hC hx F N off ne => ?_
      have e3 : its[i]? = some (.ref a) := by
        have : (its.toList.drop i)[0]? = some (.ref a) := by rw [e1]; rfl
        rw [List.getElem?_drop] at this
        simpa using this
      rw [e3] at hv
      cases hv
      refine Subscript_ (ldVarK (hC.ns (N (C', oC) (.tail _ (.head _))).1) hx ?_ (hk _) (hl _) hd)
      refine wpAny_Constant_int ?_
      refine item_tuple (j := 0) (x := .int c.1 t1) ⟨_, (N _ (.tail _ (.tail _ (.tail _ (hm _ (.head _)))))).1, rfl, _, rfl⟩ (by decide) (by decide) rfl rfl ?_
      refine ⟨h, _, news, rfl, F, N, off, hS, ?_⟩
      refine comp_row0L hS hk hl hd k (i + 1) _ _ _ (ys ++ [.int c.1 t1]) (ns ++ [c.1]) C ?_ (Nat.succ.inj e2) (fun q hq => hm q (.tail _ hq)) (hi.append (.cons _ _ .nil)) fun ys' h' => hf ys' (by simpa using h')
      rw [← List.drop_drop, e1]; rfl
theorem comp_fstM {x x₂ : Str} {px : Pos} {scope : Scope} {cl : List (Str × Addr)} {s₂ : Shared} {ax : Addr} {its : Array Value} {Fin : List Value → List (Addr × Obj) → Prop} {news : List (Addr × Obj)}
    (hS : LCg.SrcAt h₀ ax its news) (hk : ∀ C, (compEnvC scope cl C env).scope.kind = .function) (hl : ∀ C, (compEnvC scope cl C env).kindOf x = some .local) (hd : (x == ("__debug__" : Str)) = false) :
    ∀ (k i : Nat) (vs : List Value) (cs : List (Int × Int)) (tl : List (Addr × Obj)) (ys : List Value) (ns : List Int), CallsM vs cs tl → its.toList.drop i = vs → vs.length = k → (∀ q ∈ tl, q ∈ news) → IntsAre ys ns → (∀ ys', IntsAre ys' (ns ++ cs.map (·.1)) → Fin ys' news) →
      LCp.CompRestP prog w A h₀ L m env (.Name x px) x x₂ scope cl s₂ (LCg.SrcAt h₀ ax its) (fun i v => its[i]? = some v) Fin k i ys news
  | 0, i, vs, cs, tl, ys, ns, C, e1, e2, hm, hi, hf => by
    cases C with
    | nil => exact LCp.CompRestP.zero (hf ys (by simpa using hi))
    | cons => cases e2
  | k + 1, i, vs, cs, tl, ys, ns, C, e1, e2, hm, hi, hf => by
    cases C with
    | nil => cases e2
    | cons a c t1 t2 n C =>
      refine LCp.CompRestP.succ fun v hv => ?_
      have e3 : its[i]? = some (.ref a) := by
        have : (its.toList.drop i)[0]? = some (.ref a) := by rw [e1]; rfl
        rw [List.getElem?_drop] at this
        simpa using this
      rw [e3] at hv
      cases hv
      refine ⟨a, _, .int c.1 t1, .int c.2 t2, _, rfl, hm _ (.head _), rfl, rfl, fun I oI C' oC D m₂ h tk E' hC hx hx2 F N off ne => ldVarK (hC.ns (N (C', oC) (.tail _ (.head _))).1) hx ⟨h, tk, news, rfl, F, N, off, hS, ?_⟩ (hk _) (hl _) hd⟩
      refine comp_fstM hS hk hl hd k (i + 1) _ _ _ (ys ++ [.int c.1 t1]) (ns ++ [c.1]) C ?_ (Nat.succ.inj e2) (fun q hq => hm q (.tail _ hq)) (hi.append (.cons _ _ .nil)) fun ys' h' => hf ys' (by simpa using h')
      rw [← List.drop_drop, e1]; rfl
end
section
variable {G : Gx} {rn : Nat} {c : Fx G rn} {m m' : Lm} {N N' N1 : List HP} {e e0 e1 e2 o iter elt : PySem.Expr} {es args : List PySem.Expr} {k k1 k2 : AV} {ks : List AV} {x x2 nm : Str} {p p' pa pb pc pos : Pos} {K K' : Value → List HP → Prop} {P P' : Flow → Lm → List HP → Prop} {rest body b1 b2 : List Stmt} {t : Sem Value} {a C f : Addr} {i j n : Nat} {Q Q' : HP} {Z : Dz} {q : PS} {cnt : Int} {lat : Str} {scope : Scope} {cl : List (Str × Addr)} {cs : List (Int × Int)} {fz : Bool}
theorem StI.all {f : Str → Option Value} {z h : Heap} {ls : List (List Addr)} (X : StI c f z ls N h) : Fr {} c.L h f ∧ ∃ Rs, News {} c.L h Rs ∧ (∀ b o, b ≠ c.L → h.get? b = some o → (b, o) ∈ Rs) := by
  have F : Fr {} c.L h f := ⟨X.F.ns, (fun b o e => nomatch e), Nat.zero_le _⟩
  obtain ⟨Rs, N0, _, hs⟩ := Mine.snap F [] fun _ hq => nomatch hq
  exact ⟨F, Rs, N0, fun b o hb e => (hs b o e hb fun _ hq => nomatch hq).elim (fun e => nomatch e) id⟩
noncomputable def compOk (scope : Scope) (x : Str) : Bool := scope.kind == .function && scope.names.all (fun y => y.2 != .cell && (y.2 != .local || scope.names.lookup y.1 == some .local)) && scope.names.lookup x == some .local && !(x == ("__debug__" : Str))
theorem intsE {z : Heap} {vs : List Value} {ns : List Int} (h : IntsAre vs ns) : All2 (eInt.r z) vs ns := intsAre' h
theorem Ex.compP {kk : Nat} {pe : Pos} (h1 : Ex c m N iter fun v N1 => ∃ (a : Addr) (i : Nat) (fz : Bool) (cs : List (Int × Int)), v = .ref a ∧ N1[i]? = some (Ls fz eCall a cs) ∧ cs.length ≤ 1000 ∧ (cs = [] ∨ elt = .Name x pe) ∧ ∀ d, K (.ref d) (Ls false eInt d (cs.map (·.1)) :: N1)) (hclos : closureFor scope c.env = pure cl) (ok : (compOk scope x && scope.names.lookup x2 == some .local && !(x == x2)) = true) (hs : ∀ x, foldedSetIterable iter c.env x = pure x) :
    Ex c m N (.ListComp elt [⟨.Tuple [.Name x pa, .Name x2 pb] kk pc, iter, [], 0⟩] scope p) K := fun h tk S => by
  unfold compOk at ok
  simp only [Bool.and_eq_true, beq_iff_eq, List.all_eq_true, Bool.not_eq_true', Bool.or_eq_true, bne_iff_ne, beq_eq_false_iff_ne] at ok
  obtain ⟨⟨⟨⟨⟨hkind, hnm⟩, hx⟩, hdb⟩, hx2⟩, hxx⟩ := ok
  rw [eval_ListComp]
  refine wpAny_comprehension_free (use := none) rfl hs hclos hkind (fun y hy e => (hnm y hy).2.resolve_left fun z => z e) (Sm.go h1 S fun xv h1' tk1 N1 S1 y => ?_)
  obtain ⟨a, i, fz, cs, ev, hN, hl, hx', hk⟩ := y
  subst ev
  obtain ⟨f, z, ls, ag, X⟩ := S1
  obtain ⟨vs, n, g, y⟩ := X.own.list hN
  obtain ⟨F, Rs, N0, hR⟩ := X.all
  have haL : a ≠ c.L := fun q => by
    obtain ⟨o, es, ep, ho, hd, _⟩ := X.F.ns
    rw [← q, g] at ho; cases ho; cases hd
  have hli : (c.at h1' tk1).heap.IsList a (List.toArray vs) := ⟨_, g, rfl, n, rfl⟩
  have hlt : a < h1'.objs.size := Heap.lt_size g
  obtain ⟨tl, hl1, hl2⟩ := calls_listed y
  have htl : ∀ q ∈ tl, q ∈ Rs := fun q hq => hR q.1 q.2 (fun e => by have := hl2 q hq; rw [e, X.Lz] at this; cases this) (X.own.zh _ _ (hl2 q hq))
  refine wpAny_pyIter_list hli ?_
  have up : ∀ b o, h1'.get? b = some o → (h1'.push { cls := .type "list_iterator", data := .fields #[.ref a, .int 0 0] }).get? b = some o := fun b o e => Heap.get?_push_of_some _ e
  have hsrc : LCg.SrcAt {} a vs.toArray Rs := .inr ⟨_, hR a _ haL g, rfl, n, rfl⟩
  refine LCp.block_P (h₀ := {}) (L := c.L) (m := f) (news := Rs) (s₂ := { c.at h1' tk1 with heap := h1'.push _ }) (Walks.list c.d.rm.hh h1'.objs.size a (Nat.ne_of_lt hlt) vs.toArray) (sizeLine_of (by rw [List.size_toArray, y.length]; omega)) (fun i h st => by obtain ⟨o, e, _⟩ := st.1; exact ⟨o, e⟩) LCg.list_st (fun y hy => (hnm y hy).1) hkind hx hx2 hxx c.d.rm.hh (fun i h st => ⟨_, _, st.1⟩) ⟨⟨_, Heap.get?_push_size _ rfl, rfl, rfl⟩, hli.push _⟩ (fun b hb => ?_)
    (F.keeps up) (N0.grown up) (Nat.ne_of_lt F.ns.lt) (next_is_new F) (fun p hp => Nat.ne_of_lt (Heap.lt_size (N0 p hp).1)) hsrc (Fin := fun ys news => IntsAre ys (cs.map (·.1)) ∧ news = Rs) ?_ ?_
  · show b < (h1'.push _).objs.size
    rw [Heap.size_push]
    rcases List.mem_cons.mp hb with rfl | hb
    · exact Nat.lt_succ_self _
    · rw [List.mem_singleton.mp hb]; exact Nat.lt_succ_of_lt hlt
  · rcases hx' with rfl | rfl
    · cases y
      exact LCp.CompRestP.zero ⟨.nil, rfl⟩
    · exact comp_fstM (env := c.env) hsrc (fun _ => hkind) (fun _ => lookup_relabel_local hx) (beq_eq_false_iff_ne.mpr hdb) _ 0 vs cs tl [] [] hl1 rfl (by simp) htl .nil fun ys' hI => ⟨by simpa using hI, rfl⟩
  · intro D C h3 tk3 m' ys news' F' N' o1 hn hC₀ hD₀ hCL hDL hCD offC y9
    obtain ⟨hI, e⟩ := y9
    subst e
    refine ⟨m', hn, fun h'' hs'' => ⟨h'', tk3, _, rfl, ?_, hk D⟩⟩
    have keep : ∀ b o, b ≠ c.L → h1'.get? b = some o → h''.get? b = some o := fun b o hb e => hs''.extBut _ _ (offC _ (hR b o hb e)) (N' _ (.tail _ (hR b o hb e))).1
    have hDn : h1'.get? D = none := by
      cases e : h1'.get? D with
      | none => rfl
      | some o => exact absurd rfl (off_mem o1 _ (hR D o hDL e))
    have F2 := F'.change hs'' hCL hC₀
    refine .newL ag X ⟨F2.ns, fun b o e => keep b o (fun q => by have := X.F.above; exact absurd (q ▸ Heap.lt_size e) (Nat.not_lt.mpr this)) (X.F.keep b o e), X.F.above⟩ keep hDn ⟨rfl, ys, _, hs''.extBut _ _ (Ne.symm hCD) (N' _ (.head _)).1, intsE hI⟩
end
theorem kl_snoc (ws : List Value) (v : Value) : kl_last (ws ++ [v]) = some (ws, v) := by
  induction ws with
  | nil => rfl
  | cons x r ih => rw [List.cons_append]; unfold kl_last; rw [ih]
theorem all2_snoc {α β : Type} {R : α → β → Prop} {as : List α} {bs : List β} {a : α} {b : β} (h : All2 R (as ++ [a]) (bs ++ [b])) : All2 R as bs := by
  induction as generalizing bs with
  | nil =>
    cases bs with
    | nil => exact .nil
    | cons x bs =>
      cases h with
      | cons _ y => cases bs <;> cases y
  | cons x as ih =>
    cases bs with
    | nil =>
      cases h with
      | cons _ y => cases as <;> cases y
    | cons z bs =>
      cases h with
      | cons r y => exact .cons r (ih y)
section
variable {G : Gx} {rn : Nat} {c : Fx G rn} {m m' : Lm} {N N' N1 : List HP} {e e0 e1 e2 o iter elt : PySem.Expr} {es args : List PySem.Expr} {k k1 k2 : AV} {ks : List AV} {x x2 nm : Str} {p p' p1 p2 p3 p4 pa pb pc pe pos : Pos} {K K' : Value → List HP → Prop} {P P' : Flow → Lm → List HP → Prop} {D : Lm → List HP → Prop} {rest body b1 b2 : List Stmt} {t : Sem Value} {a b C f : Addr} {i j n : Nat} {Q Q' : HP} {Z : Dz} {q : PS} {cnt : Int} {lat : Str} {scope : Scope} {cl : List (Str × Addr)} {cs : List (Int × Int)} {fz fz2 : Bool} {α : Type} {R : ER α} {xs : List α} {y : α}
theorem Ex.last (h1 : Ev c m N e1 (.ref a)) (hN : N[i]? = some (Ls fz R a (xs ++ [y]))) (hl : xs.length ≤ 1000000) (hk : ∀ v, K v (Fact R v y :: N)) : Ex c m N (.Subscript e1 (.UnaryOp .USub (.Constant (.int 1) 0 p1) p2) p) K := fun h tk S =>
  Subscript_ (Ev.goR h1 S fun h' tk' S' => by
    refine UnaryOp_ (wpAny_Constant_int (neg_int ?_))
    obtain ⟨vs, n, g, hl', hf⟩ := S'.list hN
    rw [List.length_append, List.length_singleton] at hl'
    obtain ⟨v, hw⟩ : ∃ v, vs[xs.length]? = some v := ⟨_, List.getElem?_eq_getElem (by omega)⟩
    have hli : h'.IsList a (List.toArray vs) := ⟨_, g, rfl, n, rfl⟩
    refine tail_any (s := { c.at h' tk' with toks := tk' + 1 + 1 }) hli.typeIs slot_list_getitem.lookup (wpAny_getItem_list_neg hli (by decide) (by rw [List.size_toArray]; omega) (by decide) ?_ ⟨h', _, _, rfl, hf _ _ y hw (by simp), hk _⟩) rfl
    rw [List.size_toArray, hl', show (-1 + ((xs.length + 1 : Nat) : Int)).toNat = xs.length by omega]
    simpa using hw)
theorem Ex.callAtB {cc : Int × Int} {b : Bool} (h1 : Ex c m N e fun v N1 => ∃ N0, N1 = Fact eCall v cc :: N0 ∧ ∀ w, (AV.int (cond b cc.2 cc.1)).den w → K w N0) : Ex c m N (.Subscript e (.Constant (.int (cond b 1 0)) 0 p1) p) K := fun h tk S =>
  Subscript_ (Sm.go h1 S fun v1 h' tk' N' S' y => by
    obtain ⟨N0, e2, hk⟩ := y
    subst e2
    refine wpAny_Constant_int ?_
    obtain ⟨z, l, zh, _, a, t1, t2, n, ev, g⟩ := S'.get (i := 0) rfl
    subst ev
    have hT : IsTup h' a #[Value.int cc.1 t1, .int cc.2 t2] := ⟨_, zh _ _ g, rfl, _, rfl⟩
    cases b
    · exact tail_any (s := { c.at h' tk' with toks := tk' + 1 }) hT.typeIs slot_tuple_getitem.lookup (getItem_tuple hT (by decide) (by decide) rfl rfl ⟨h', _, _, rfl, S'.unfact, hk _ ⟨_, rfl⟩⟩) rfl
    · exact tail_any (s := { c.at h' tk' with toks := tk' + 1 }) hT.typeIs slot_tuple_getitem.lookup (getItem_tuple hT (by decide) (by decide) rfl rfl ⟨h', _, _, rfl, S'.unfact, hk _ ⟨_, rfl⟩⟩) rfl)
theorem Ev.lastTop {cc : Int × Int} (h1 : Ev c m N e (.ref a)) (hN : N[i]? = some (Ls fz eCall a (cs ++ [cc]))) (hl : cs.length ≤ 1000000) : Ev c m N (.Subscript (.Subscript e (.UnaryOp .USub (.Constant (.int 1) 0 p1) p2) p3) (.Constant (.int 1) 0 p4) p) (.int cc.2) :=
  .callAtB (b := true) (.last h1 hN hl fun v => ⟨N, rfl, fun w d => ⟨rfl, d⟩⟩)
theorem Ev.lastAt {cc : Int × Int} (h1 : Ev c m N e (.ref a)) (hN : N[i]? = some (Ls fz eCall a (cs ++ [cc]))) (hl : cs.length ≤ 1000000) : Ev c m N (.Subscript (.Subscript e (.UnaryOp .USub (.Constant (.int 1) 0 p1) p2) p3) (.Constant (.int 0) 0 p4) p) (.int cc.1) :=
  .callAtB (b := false) (.last h1 hN hl fun v => ⟨N, rfl, fun w d => ⟨rfl, d⟩⟩)
theorem Tx.neNil {KB : Bool → List HP → Prop} (h1 : Ev c m N e (.ref a)) (hN : N[i]? = some (Ls fz eCall a cs)) (hl : cs.length ≤ 2) (hk : KB (!cs.isEmpty) N) : Tx c m N (.Compare e [.NotEq] [.List [] p1] p) KB :=
  Tx.cmp (h1.ref (.nilL eCall fun b h tk S => by
    obtain ⟨z, l, zh, el, vs, n, g, y⟩ := S.get (i := i + 1) (show (Ls false eCall b [] :: N)[i + 1]? = _ from hN)
    obtain ⟨z2, l2, zh2, el2, vs2, n2, g2, y2⟩ := S.get (i := 0) rfl
    cases y2
    have g' : h.get? a = some (listOf (List.toArray vs) n) := by
      cases fz
      · exact g
      · exact zh _ _ g
    have C : All2 (eCall.r h) vs cs := y.mono fun _ _ q => eCall.mono q zh
    refine ne_dataH (s := c.at h tk) (.list g' rfl rfl (calls_reads C)) (.list g2 rfl rfl .nil) ?_ rfl c.un64 ⟨h, tk, _, rfl, S.unfact, _, rfl, ?_⟩
    · cases cs with
      | nil => rfl
      | cons c1 cs =>
        cases cs with
        | nil => rfl
        | cons c2 cs =>
          cases cs with
          | nil => rfl
          | cons c3 cs => exact absurd hl (by simp)
    · cases cs <;> exact hk)) rfl
theorem Wk.while (J : Nat → Lm → List HP → Prop) (j : J n m N) (turn : ∀ n mi Ni, J n mi Ni → Tx c mi Ni e fun b N' => cond b (Wk c mi N' body fun f m' N' => match f with | .ret v => P (.ret v) m' N' | .brk => D m' N' | _ => ∃ n' m0, n' < n ∧ J n' m0 N' ∧ SubL m0 m') (D mi N')) (hD : ∀ mi Ni, D mi Ni → Wk c mi Ni rest P) : Wk c m N (.While e body [] p :: rest) P := fun h tk S => by
  refine wpAny_execs_cons (wpAny_While (codeAny_whileLoop (fun n s' => ∃ h' tk' mi Ni, s' = c.at h' tk' ∧ Sa c mi Ni h' ∧ J n mi Ni) (fun n s' y => ?_) n ⟨h, tk, m, N, rfl, S, j⟩))
  obtain ⟨h', tk', mi, Ni, e, S', j⟩ := y
  subst e
  refine wpAny_mono (turn n mi Ni j h' tk' S') (fun b s2 y => ?_) fun _ _ y => y.elim
  obtain ⟨h2, tk2, N2, e, S2, y⟩ := y
  subst e
  cases b with
  | false => exact wpAny_execs_nil (hD _ _ y h2 tk2 S2)
  | true =>
    refine wpAny_mono (y h2 tk2 S2) (fun f s3 y => ?_) fun _ _ y => y.elim
    obtain ⟨h3, tk3, m3, N3, e, S3, y⟩ := y
    subst e
    cases f with
    | ret v => exact ⟨h3, tk3, m3, N3, rfl, S3, y⟩
    | brk => exact hD _ _ y h3 tk3 S3
    | next => obtain ⟨n', m0, hn, j, s⟩ := y; exact ⟨n', hn, h3, tk3, m0, N3, rfl, S3.sub s, j⟩
    | cont => obtain ⟨n', m0, hn, j, s⟩ := y; exact ⟨n', hn, h3, tk3, m0, N3, rfl, S3.sub s, j⟩
theorem Wk.try {h0 : ExceptHandler} {hh : List ExceptHandler} (hb : Wk c m N body fun f m' N' => match f with | .next => Wk c m' N' rest P | f => P f m' N') : Wk c m N (.Try body (h0 :: hh) [] [] p :: rest) P := fun h tk S => by
  refine wpAny_execs_cons (wpAny_Try_except (wpAny_mono (hb h tk S) (fun f s' y => ?_) fun _ _ y => y.elim))
  obtain ⟨h', tk', m', N', e, S', y⟩ := y
  subst e
  cases f with
  | next => exact wpAny_execs_nil (y h' tk' S')
  | ret v => exact ⟨h', tk', m', N', rfl, S', y⟩
  | brk => exact ⟨h', tk', m', N', rfl, S', y⟩
  | cont => exact ⟨h', tk', m', N', rfl, S', y⟩
theorem Wk.pop (ho : Ev c m N e (.ref a)) (hN : N[i]? = some (Ls false R a (xs ++ [y]))) (hl : xs.length ≤ 999999) (hw : Wk c m (N.set i (Ls false R a xs)) rest P) (ok : methOk e pa pos [] = true) (hi : interactive c.env = false) (hsw : swapsWith (.Call (.Attribute e "pop" pa) [] [] pos) none pe.line c.env = pure false) : Wk c m N (.Expr (.Call (.Attribute e "pop" pa) [] [] pos) pe :: rest) P := fun h tk S => by
  obtain ⟨pl, he⟩ := methodE (nm := "pop") (env := c.env) ok
  refine wpAny_execs_cons (wpAny_Expr_any (MethodCall_ (Ev.goR ho S fun h1 tk1 S1 => ?_) he) hi hsw)
  obtain ⟨f, Rs, ob, F, N0, off, e, up⟩ := S1.upd (d := a) hN fun l z ⟨el, _⟩ => by rw [el]; exact .head _
  obtain ⟨vs, n, g, hlen, _⟩ := S1.list hN
  rw [g] at e
  cases e
  rw [List.length_append, List.length_singleton] at hlen
  have hne : vs ≠ [] := fun q => by rw [q] at hlen; exact nomatch hlen
  obtain ⟨ws, v, rfl⟩ : ∃ (ws : List Value) (v : Value), vs = ws ++ [v] := ⟨vs.dropLast, vs.getLast hne, (List.dropLast_concat_getLast hne).symm⟩
  rw [List.length_append, List.length_singleton] at hlen
  refine W.kl_method (s := c.at h1 tk1) N0 (.head _) PySem.F.slot_list_pop PySem.F.type_list_pop (callWith_method0 (first := [.ref a]) ?_)
  refine kl_pop (s := c.at h1 tk1) F N0 (kl_snoc ws v) (.head off) (sizeLine_of (show (ws ++ [v]).length ≤ 1000000 by rw [List.length_append, List.length_singleton]; omega)) fun h2 F2 N2 => hw h2 tk1 (up F2 N2 fun l z y zh hL hk e' => ⟨y.1, ws, _, e', ?_⟩)
  obtain ⟨el, vs', n', g', q⟩ := y
  obtain rfl : ws ++ [v] = vs' := listOf_inj (g.symm.trans g')
  exact (all2_snoc q).mono fun _ _ r => r
end
section
variable {G : Gx} {rn : Nat} {c : Fx G rn} {m m' : Lm} {N N' N1 : List HP} {e e0 e1 e2 e3 o iter elt : PySem.Expr} {es args : List PySem.Expr} {k k1 k2 : AV} {ks : List AV} {x x2 nm : Str} {p p' p1 p2 p3 p4 pa pb pc pe pos : Pos} {K K' : Value → List HP → Prop} {P P' : Flow → Lm → List HP → Prop} {D : Lm → List HP → Prop} {rest body b1 b2 : List Stmt} {t : Sem Value} {a C f : Addr} {i j n : Nat} {Q Q' : HP} {Z : Dz} {q : PS} {cnt : Int} {lat : Str} {cs : List (Int × Int)} {fz fz2 : Bool} {b : Bool}
theorem Ev.neg {v : Int} : Ev c m N (.UnaryOp .USub (.Constant (.int v) 0 p) p') (.int (-v)) := fun h tk S => UnaryOp_ (wpAny_Constant_int (neg_int ⟨h, _, N, rfl, S, rfl, _, rfl⟩))
theorem Et.gtI {i j : Int} {b : Bool} (h1 : Ev c m N e1 (.int i)) (h2 : Ev c m N e2 (.int j)) (hb : decide (j < i) = b) (hm : behindInMarks .Gt e2 = false) : Et c m N (.Compare e1 [.Gt] [e2] p) b := .cmp h1 h2 hm fun v1 v2 s Q ⟨_, e1⟩ ⟨_, e2⟩ y => by subst e1 e2 hb; exact PyProof.Rows.gt_int y
theorem Et.neI {i j : Int} {b : Bool} (h1 : Ev c m N e1 (.int i)) (h2 : Ev c m N e2 (.int j)) (hb : (i != j) = b) (hm : behindInMarks .NotEq e2 = false) : Et c m N (.Compare e1 [.NotEq] [e2] p) b := .cmp h1 h2 hm fun v1 v2 s Q ⟨_, e1⟩ ⟨_, e2⟩ y => by subst e1 e2 hb; exact PyProof.Rows.ne_int y
end
section
variable {G : Gx} {Z : Dz} {q : PS} {n : Nat} {cnt : Int} {lat : Str}
theorem t_seen : Tr G 5 (.ref 156) [.ref Z.x] [DbE G Z cnt lat] fun v N' => ∃ a, v = .ref a ∧ N' = [Ls false eInt a [], DbE G Z cnt lat] := by
  refine fill_of G.X ?_; k_fill; intro _
  refine' Tr.enterC [Str.ofString "self"] ?ho ?hcd ?hb ?ok ?_
  case ho => k_is
  case hcd => k_is
  case hb =>
    intro s vs X h
    cases h with | cons r h => cases h; exact BindsTo.of_eq rfl
  case ok => kernel_rfl
  intro d
  show Wk _ [] [Cel (d.L + 1) (some (.ref Z.x)), DbE G Z cnt lat] _ _
  dsimp only [HD.B13_5, HD.C13_5, HD.qB13_5, HD.qC13_5]
  refine Wk.retS (Ex.compP (pe := ⟨0, 0, 0, 0⟩) (cl := [(Str.ofString "self", d.L + 1)]) (Ex.sh ((Ev.db (i := 1) (k := .ref Z.wts) (Ev.cel (i := 0) (a := d.L + 1) rfl rfl (by kernel_rfl)) rfl (fun B => ⟨_, rfl, rfl, rfl⟩) (by kernel_rfl)).ref ⟨_, .add (Q' := Ls true eCall Z.wts []) (i := 1) rfl fun l z h zh ⟨B, x⟩ => ⟨rfl, [], x.2.2.2.1.2.1.elim fun n g => ⟨n, g, .nil⟩⟩, Z.wts, 0, true, [], rfl, rfl, by decide, .inl rfl, fun dd => ⟨_, .vs [false, true, true] .drops, dd, rfl, rfl⟩⟩)) (by with_unfolding_all rfl) (by kernel_rfl) fun _ => rfl)
theorem t_met : Tr G 2 (.ref 163) [.ref Z.x] [StE G Z q n, DbE G Z cnt lat] fun v N' => v = .bool false ∧ N' = [StE G Z q n, DbE G Z cnt lat] := by
  refine fill_of G.X ?_; k_fill; intro _
  refine' Tr.enter [Str.ofString "self"] ?ho ?hcd ?hb ?ok ?_
  case ho => k_is
  case hcd => k_is
  case hb =>
    intro s vs X h
    cases h with | cons r h => cases h; exact BindsTo.of_eq rfl
  case ok => kernel_rfl
  intro d
  show Wk _ [(Str.ofString "self", .ref Z.x)] _ _ _
  dsimp only [HD.B13_6, HD.C13_6, HD.qB13_6, HD.qC13_6]
  refine Wk.set (k := .int (-1)) (Ev.getH (w := -1) (i := 1) (a := Z.pts) (Ev.db (i := 1) (by walk_at "sl:ev") rfl (fun B => ⟨_, rfl, rfl, rfl⟩) (by kernel_rfl)) (Ev.rip (i := 0) (Ev.dbSt (i := 1) (by walk_at "sl:ev") rfl rfl) rfl rfl) Ev.neg rfl (fun l z h zh ⟨B, x⟩ => ⟨[], TabAt.keep x.2.2.2.1.1 zh, rfl⟩) rfl) (by kernel_rfl) (by rfl) ?_
  refine Wk.ite (P' := fun f m' N' => f = .next ∧ m' = [(Str.ofString "passes", .int (-1)), (Str.ofString "self", .ref Z.x)] ∧ N' = [StE G Z q n, DbE G Z cnt lat]) (Tx.of (b := false) (Et.gtI (by walk_at "sl:ev") (by walk_at "sl:ev") rfl rfl) (.nil ⟨rfl, rfl, rfl⟩)) (fun m' N' ⟨_, e1, e2⟩ => ?_) fun f m' N' hf y => absurd y.1 hf
  subst e1 e2
  exact Wk.ret (Ev.use (k := .bool false) (Ev.cmp (b := false) (k1 := .int (-1)) (k2 := .int 0) (by walk_at "sl:ev") (by walk_at "sl:ev") rfl fun v1 v2 s Q ⟨_, e1⟩ ⟨_, e2⟩ y => by subst e1 e2; exact eq_int y) fun v dv => ⟨dv, rfl⟩)
theorem t_returned {cs0 : List (Int × Int)} {top : Int} (h2 : top < q.ns.getD 4 0) (h3 : cs0 = [] ∨ ∃ c, cs0 = [c] ∧ q.ns.getD 4 0 ≤ c.2) : Tr G 2 (.ref 170) [.ref Z.x, .int top] [StE G Z q n, DbE G Z cnt lat, Ls false eCall Z.cl (cs0 ++ [(q.rip, top)])] fun v N' => v = .none ∧ N' = [StE G Z q n, DbE G Z cnt lat, Ls false eCall Z.cl cs0] := by
  refine fill_of G.X ?_; k_fill; intro _
  refine' Tr.enter [Str.ofString "self", Str.ofString "top"] ?ho ?hcd ?hb ?ok ?_
  case ho => k_is
  case hcd => k_is
  case hb =>
    intro s vs X h
    cases h with | cons r h => cases h with | cons r h => cases h; exact BindsTo.of_eq rfl
  case ok => kernel_rfl
  intro d
  show Wk _ [(Str.ofString "top", .int top), (Str.ofString "self", .ref Z.x)] _ _ _
  dsimp only [HD.B13_7, HD.C13_7, HD.qB13_7, HD.qC13_7]
  have hl0 : cs0.length ≤ 1 := by rcases h3 with rfl | ⟨c, rfl, _⟩ <;> exact Nat.le_of_ble_eq_true rfl
  have hne : (!(cs0 ++ [(q.rip, top)]).isEmpty) = true := by cases cs0 <;> rfl
  refine Wk.ite (P' := fun f m' N' => f = .next ∧ m' = [(Str.ofString "top", .int top), (Str.ofString "self", .ref Z.x)] ∧ N' = [StE G Z q n, DbE G Z cnt lat, Ls false eCall Z.cl (cs0 ++ [(q.rip, top)])]) (Tx.and (Tx.neNil (i := 2) (Ev.dbCl (i := 1) (by walk_at "sl:ev") rfl rfl) rfl (by rw [List.length_append]; show _ + 1 ≤ 2; omega) ?_)) (fun m' N' ⟨_, e1, e2⟩ => ?_) fun f m' N' hf y => absurd y.1 hf
  · rw [hne]
    refine Tx.and (Tx.of (b := true) (Et.eqI (Ev.lastTop (i := 2) (cs := cs0) (Ev.dbCl (i := 1) (by walk_at "sl:ev") rfl rfl) rfl (by omega)) (by walk_at "sl:ev") (decide_eq_true rfl) rfl) (Tx.and (Tx.of (b := false) (Et.neI (Ev.lastAt (i := 2) (cs := cs0) (Ev.dbCl (i := 1) (by walk_at "sl:ev") rfl rfl) rfl (by omega)) (Ev.rip (i := 0) (Ev.dbSt (i := 1) (by walk_at "sl:ev") rfl rfl) rfl rfl) (by simp) rfl) ?_)))
    exact .nil ⟨rfl, rfl, rfl⟩
  subst e1 e2
  refine Wk.while (fun n' m' N' => m' = [(Str.ofString "top", .int top), (Str.ofString "self", .ref Z.x)] ∧ (n' = 1 ∧ N' = [StE G Z q n, DbE G Z cnt lat, Ls false eCall Z.cl (cs0 ++ [(q.rip, top)])] ∨ n' = 0 ∧ N' = [StE G Z q n, DbE G Z cnt lat, Ls false eCall Z.cl cs0])) (D := fun m' N' => N' = [StE G Z q n, DbE G Z cnt lat, Ls false eCall Z.cl cs0]) (n := 1) ⟨rfl, .inl ⟨rfl, rfl⟩⟩ ?_ fun mi Ni e => .nil ⟨rfl, e⟩
  rintro n' mi Ni ⟨rfl, ⟨rfl, rfl⟩ | ⟨rfl, rfl⟩⟩
  · refine Tx.and (Tx.neNil (i := 2) (Ev.dbCl (i := 1) (by walk_at "sl:ev") rfl rfl) rfl (by rw [List.length_append]; show _ + 1 ≤ 2; omega) ?_)
    rw [hne]
    refine Tx.and (Tx.of (b := true) (Et.ltI (Ev.lastTop (i := 2) (cs := cs0) (Ev.dbCl (i := 1) (by walk_at "sl:ev") rfl rfl) rfl (by omega)) (Ev.regs (i := 0) (j := 4) (Ev.dbSt (i := 1) (by walk_at "sl:ev") rfl rfl) (Ev.glob (k := .int 4) rfl (by kernel_rfl) ⟨_, rfl⟩) rfl (by decide) rfl fun _ => rfl) (decide_eq_true h2) rfl) (Tx.andN ?_))
    exact Wk.pop (i := 2) (xs := cs0) (Ev.dbCl (i := 1) (by walk_at "sl:ev") rfl rfl) rfl (by omega) (.nil ⟨0, _, by decide, ⟨rfl, .inr ⟨rfl, rfl⟩⟩, rfl, rfl, trivial⟩) rfl rfl rfl
  · refine Tx.and (Tx.neNil (i := 2) (Ev.dbCl (i := 1) (by walk_at "sl:ev") rfl rfl) rfl (by omega) ?_)
    rcases h3 with rfl | ⟨c, rfl, h3⟩
    · rfl
    · refine Tx.and (Tx.of (b := false) (Et.ltI (Ev.lastTop (i := 2) (cs := []) (cc := c) (Ev.dbCl (i := 1) (by walk_at "sl:ev") rfl rfl) rfl (by decide)) (Ev.regs (i := 0) (j := 4) (Ev.dbSt (i := 1) (by walk_at "sl:ev") rfl rfl) (Ev.glob (k := .int 4) rfl (by kernel_rfl) ⟨_, rfl⟩) rfl (by decide) rfl fun _ => rfl) (decide_eq_false (by omega)) rfl) rfl)
end
theorem pickN {α : Type} : ∀ {N : List α}, pickM [] N = []
  | [] => rfl
  | _ :: _ => rfl
theorem mergeN {α : Type} : ∀ {N : List α}, mergeM [] [] N = N
  | [] => rfl
  | _ :: _ => rfl
noncomputable def StX (G : Gx) (Z : Dz) (S : Sx) : HP :=
  ⟨fun l z h => (S.x = Z.st ∧ S.rl = Z.rl ∧ S.mem = Z.mem) ∧ l = (S.led G.w.params).map (·.1) ∧ S.At G.w h ∧ ∃ z0 : Heap, z0.StaysIn z ∧ S.Ok G.prog G.w z0,
    fun ⟨e1, e4, H, z0, k, O⟩ kz kh => ⟨e1, e4, fun q hq => kh _ (e4 ▸ List.mem_map_of_mem hq) _ (H q hq), z0, fun b o e => kz _ _ (k b o e), O⟩,
    fun ⟨_, e4, H, _⟩ a ha => by
      rw [e4] at ha
      obtain ⟨q, hq, rfl⟩ := List.mem_map.mp ha
      exact ⟨_, H q hq⟩⟩
theorem StE.opn {G : Gx} {Z : Dz} {q : PS} {n : Nat} : ∀ l z h, (StE G Z q n).ok l z h → ∃ S : Sx, (S.ps = q ∧ S.n ≤ n) ∧ (StX G Z S).ok l z h := fun l z h x => by
  obtain ⟨S, e1, e0, e3, r⟩ := x
  exact ⟨S, ⟨e0, e3⟩, e1, r⟩
theorem StX.cls {G : Gx} {Z : Dz} {S : Sx} {q : PS} {n : Nat} (e0 : S.ps = q) (e3 : S.n ≤ n) : Ent [StX G Z S] [StE G Z q n] := .imp fun l z h x => ⟨S, x.1, e0, e3, x.2⟩
theorem StE.up {G : Gx} {Z : Dz} {q : PS} {n n' : Nat} (hn : n ≤ n') {l : List Addr} {z h : Heap} (x : (StE G Z q n).ok l z h) : (StE G Z q n').ok l z h := by
  obtain ⟨S, e1, e0, e3, r⟩ := x
  exact ⟨S, e1, e0, Nat.le_trans e3 hn, r⟩
theorem StX.to {G : Gx} {Z : Dz} {S S' : Sx} {l : List Addr} {z h h' : Heap} {a : Addr} {q : PS} {n : Nat} (x : (StX G Z S).ok l z h) (hk : ∀ b ∈ l, b ≠ a → ∀ ob, h.get? b = some ob → h'.get? b = some ob)
    (hx : S'.x = S.x ∧ S'.d = S.d ∧ S'.rl = S.rl ∧ S'.hd = S.hd ∧ S'.mem = S.mem) (hs : S.x ≠ S.d ∧ S.x ≠ S.rl ∧ S.x ≠ S.hd ∧ S.d ≠ S.rl ∧ S.d ≠ S.hd ∧ S.rl ≠ S.hd → ∀ q ∈ S'.led G.w.params, h'.get? q.1 = some q.2 ∨ q.1 ≠ a ∧ q ∈ S.led G.w.params) (hi : S.ns.length = 16 → IntsAre S.vs S.ns → IntsAre S'.vs S'.ns ∧ S'.ns.length = 16) (hh : Held G.prog G.w S.o S.n S.f → Held G.prog G.w S'.o S'.n S'.f) (e0 : S'.ps = q) (e3 : S'.n ≤ n) : (StE G Z q n).ok l z h' := by
  obtain ⟨e1, e4, H, z0, k, O⟩ := x
  obtain ⟨x1, x2, x3, x4, x5⟩ := hx
  obtain ⟨i1, i2⟩ := hi O.len O.iv
  refine ⟨S', by rw [x1, x3, x5]; exact e1, e0, e3, by rw [e4]; show [S.x, S.d, S.rl, S.hd] = [S'.x, S'.d, S'.rl, S'.hd]; rw [x1, x2, x3, x4], fun q hq => ?_, z0, k, i1, i2, hh O.held, by rw [x1, x2, x3, x4]; exact O.nd, by rw [x5, x4]; exact O.mem, by rw [x4]; exact O.lo⟩
  rcases hs (nodup4 O.nd) q hq with e | ⟨ne, hm⟩
  · exact e
  · exact hk _ (e4 ▸ List.mem_map_of_mem hm) ne _ (H q hm)
section
variable {G : Gx} {rn : Nat} {c : Fx G rn} {m m' : Lm} {N N' N1 : List HP} {e e0 e1 e2 e3 o iter elt : PySem.Expr} {es args : List PySem.Expr} {k k1 k2 : AV} {ks : List AV} {x x2 nm : Str} {p p' p1 p2 p3 p4 pa pb pc pe pos : Pos} {K K' : Value → List HP → Prop} {P P' : Flow → Lm → List HP → Prop} {D : Lm → List HP → Prop} {rest body b1 b2 : List Stmt} {t : Sem Value} {a ra C f : Addr} {i j n nr r : Nat} {Q Q' : HP} {Z : Dz} {q : PS} {S : Sx} {ops : List Addr} {nmI : String} {b : Bool}
theorem Ev.fz {Φ : Heap → Prop} {hk : ∀ z z', Φ z → z.StaysIn z' → Φ z'} (h : Ev c m N e (.ref a)) (hN : N[i]? = some (Fz Φ hk)) (I : ∀ z, Φ z → ∃ dx es n v, InstAt z a (instObj C dx) C (some (dictOf es n)) ∧ getL nm es = some (some v) ∧ handedIn v = true ∧ k.den v) (ok : (attrOk G.K C nm && baseE e) = true) : Ev c m N (.Attribute e nm p) k := .attrH h hN (fun l z h zh x => by
  obtain ⟨dx, es, n, v, hI, r⟩ := I z x.2
  exact ⟨_, es, n, v, inst_keep hI zh, r⟩) ok
theorem Ev.rKind (h : Ev c m N e (.ref a)) (hN : N[i]? = some (RegF G a r)) (hb : baseE e = true) : Ev c m N (.Attribute e "kind" p) (.str "gpr") := .fz (C := 437) h hN (fun z x => by
  obtain ⟨_, _, _, _, _, _, _, _, _, hI⟩ := x
  exact ⟨_, _, _, _, hI, rfl, rfl, _, rfl⟩) (by rw [hb, Bool.and_true]; kernel_rfl)
theorem Ev.rNum (h : Ev c m N e (.ref a)) (hN : N[i]? = some (RegF G a r)) (hb : baseE e = true) : Ev c m N (.Attribute e "number" p) (.int r) := .fz (C := 437) h hN (fun z x => by
  obtain ⟨_, _, _, _, _, _, _, _, _, hI⟩ := x
  exact ⟨_, _, _, _, hI, rfl, rfl, _, rfl⟩) (by rw [hb, Bool.and_true]; kernel_rfl)
theorem Ev.rSize (h : Ev c m N e (.ref a)) (hN : N[i]? = some (RegF G a r)) (hb : baseE e = true) : Ev c m N (.Attribute e "size" p) (.int 64) := .fz (C := 437) h hN (fun z x => by
  obtain ⟨_, _, _, _, _, _, _, _, _, hI⟩ := x
  exact ⟨_, _, _, _, hI, rfl, rfl, _, rfl⟩) (by rw [hb, Bool.and_true]; kernel_rfl)
theorem Ev.oKind (h : Ev c m N e (.ref a)) (hN : N[i]? = some (OpF G a ra)) (hb : baseE e = true) : Ev c m N (.Attribute e "kind" p) (.str "reg") := .fz (C := 774) h hN (fun z x => by
  obtain ⟨_, _, _, _, hI⟩ := x
  exact ⟨_, _, _, _, hI, rfl, rfl, _, rfl⟩) (by rw [hb, Bool.and_true]; kernel_rfl)
theorem Ev.oReg (h : Ev c m N e (.ref a)) (hN : N[i]? = some (OpF G a ra)) (hb : baseE e = true) : Ev c m N (.Attribute e "register" p) (.ref ra) := .fz (C := 774) h hN (fun z x => by
  obtain ⟨_, _, _, _, hI⟩ := x
  exact ⟨_, _, _, _, hI, rfl, rfl, rfl⟩) (by rw [hb, Bool.and_true]; kernel_rfl)
theorem Ex.methT {QQ : Value → List HP → Prop} (ho : Ev c m N o (.ref a)) (hN : N[i]? = some Q) (I : ∀ l z h, z.StaysIn h → Q.ok l z h → ∃ ox es n, InstAt h a ox C (some (dictOf es n)) ∧ getL nm es = some none) (ha : Evs c m N (e :: args) ks) (T : Tr G nr (.ref f) (.ref a :: ks) N1 QQ) (mk : List Bool) (hM : pickM mk N = N1) (hk : ∀ v N1', QQ v N1' → K v (mergeM mk N1' N)) (ok : (callOk G.K C nm f && methOk o pa p (e :: args) && decide (nr ≤ rn)) = true) : Ex c m N (.Call (.Attribute o nm pa) (e :: args) [] p) K := by
  rw [Bool.and_eq_true, decide_eq_true_eq] at ok
  exact .meth ho hN I (Xs.of ha fun vs d => Sm.tr T ok.2 mk hM (.cons rfl d) hk) ok.1
theorem StE.isSt {l : List Addr} {z h : Heap} (x : (StE G Z q n).ok l z h) (hl : ∀ k rl xl fl mem sg rip bg hl, ∃ es, stD G.w.params k rl xl fl mem sg rip bg hl = dictOf es 9 ∧ getL nm es = some none) : ∃ ox es n, InstAt h Z.st ox 669 (some (dictOf es n)) ∧ getL nm es = some none := by
  obtain ⟨S, _, _, _, I, _⟩ := StE.inst x
  obtain ⟨es, e, g⟩ := hl S.k S.rl S.xl S.fl S.mem S.sg (.int S.rip S.tr) S.bg (.bool S.halted)
  exact ⟨_, es, 9, e ▸ I, g⟩
theorem StE.isMem {l : List Addr} {z h : Heap} (zh : z.StaysIn h) (x : (StE G Z q n).ok l z h) (hl : ∀ hh tk v, getL nm [⟨hh, .str (Str.ofString "held") tk, v⟩] = some none) : ∃ ox es n, InstAt h Z.mem ox 552 (some (dictOf es n)) ∧ getL nm es = some none := by
  obtain ⟨S, _, _, e2, _, _, z0, k0, O⟩ := StE.inst x
  obtain ⟨dx, tkm, hM⟩ := O.mem
  exact ⟨_, _, _, e2 ▸ inst_keep hM fun b o e => zh b o (k0 b o e), hl _ _ _⟩
theorem Ev.mask (h1 : Ev c m N e1 (.int 1)) (h2 : Ev c m N e2 (.int 64)) (h3 : Ev c m N e3 (.int 1)) : Ev c m N (.BinOp (.BinOp e1 .LShift e2 p) .Sub e3 p') (.int 18446744073709551615) := .sub (i := 18446744073709551616) (.bin h1 h2 fun v1 v2 s Q d1 d2 y => by
  obtain ⟨_, e1⟩ := d1
  obtain ⟨_, e2⟩ := d2
  subst e1 e2; exact lshift_int_small (by decide) (by decide) (by decide) (y _ _ ⟨_, rfl⟩)) h3
theorem t_mask : Tr G 1 (.ref 80) [.int 64] [] (Is (.int 18446744073709551615) []) := by
  refine fill_of G.X ?_; k_fill; intro _
  refine' Tr.enter [Str.ofString "size"] ?ho ?hcd ?hb ?ok ?_
  case ho => k_is
  case hcd => k_is
  case hb =>
    intro s vs X h
    cases h with | cons r h => cases h; exact BindsTo.of_eq rfl
  case ok => kernel_rfl
  intro d
  show Wk _ [(Str.ofString "size", .int 64)] _ _ _
  dsimp only [HD.B5, HD.C5, HD.qB5, HD.qC5]
  exact Wk.ret (Ev.mask Ev.int (by walk_at "sl:ev") Ev.int)
theorem t_wrap {v : Int} : Tr G 2 (.ref 87) [.int v, .int 64] [] (Is (.int (v % 18446744073709551616)) []) := by
  refine fill_of G.X ?_; k_fill; intro _
  refine' Tr.enter [Str.ofString "worth", Str.ofString "size"] ?ho ?hcd ?hb ?ok ?_
  case ho => k_is
  case hcd => k_is
  case hb =>
    intro s vs X h
    cases h with | cons r h => cases h with | cons r h => cases h; exact BindsTo.of_eq rfl
  case ok => kernel_rfl
  intro d
  show Wk _ [(Str.ofString "size", .int 64), (Str.ofString "worth", .int v)] _ _ _
  dsimp only [HD.B6, HD.C6, HD.qB6, HD.qC6]
  exact Wk.ret (Ev.bin (k1 := .int v) (k2 := .int 18446744073709551615) (by walk_at "sl:ev") (Ex.callT (by walk_at "sl:fn") (.cons (by walk_at "sl:ev") .nil rfl) t_mask [] rfl (by kernel_rfl) fun _ _ y => by obtain ⟨e, d⟩ := y; subst e; exact ⟨rfl, d⟩) fun v1 v2 s Q d1 d2 y => by
    obtain ⟨_, e1⟩ := d1
    obtain ⟨_, e2⟩ := d2
    subst e1 e2
    exact and_int (y _ _ ⟨_, congrArg (Value.int · _) (kbt_mask v 64)⟩))
theorem Ev.wrap {v : Int} (hf : Ev c m N (.Name x p') (.val (.ref 87))) (h1 : Ev c m N e1 (.int v)) (h2 : Ev c m N e2 (.int 64)) (ok : (decide (2 ≤ rn) && keepIn G.K (.ref 87) && (plainE e1 && plainE e2)) = true) : Ev c m N (.Call (.Name x p') [e1, e2] [] p) (.int (v % 18446744073709551616)) := by
  simp only [Bool.and_eq_true] at ok
  refine Ex.callT hf (.cons h1 (.cons h2 .nil ok.2.2) ok.2.1) t_wrap [] pickN (by simp only [List.all_cons, List.all_nil, Bool.and_eq_true, and_true]; exact ok) fun v N1 y => ?_
  obtain ⟨e, d⟩ := y
  subst e
  exact ⟨mergeN, d⟩
theorem Ev.held (h : Ev c m N e (.ref Z.mem)) (hN : N[i]? = some (StX G Z S)) (hb : baseE e = true) : Ev c m N (.Attribute e "held" p) (.ref S.hd) := .attrH (C := 552) h hN (fun l z h zh x => by
  obtain ⟨e1, _, _, z0, k0, O⟩ := x
  obtain ⟨dx, tkm, hM⟩ := O.mem
  exact ⟨_, _, _, _, e1.2.2 ▸ inst_keep hM fun b o e => zh b o (k0 b o e), rfl, rfl, rfl⟩) (by rw [hb, Bool.and_true]; kernel_rfl)
theorem t_octet {v : Int} : Tr G 3 (.ref 483) [.ref Z.mem, .int v] [StE G Z q n] (Is (.int (q.f (v % 18446744073709551616))) [StE G Z q n]) := by
  refine fill_of G.X ?_; k_fill; intro _
  refine' Tr.enter [Str.ofString "self", Str.ofString "place"] ?ho ?hcd ?hb ?ok ?_
  case ho => k_is
  case hcd => k_is
  case hb =>
    intro s vs X h
    cases h with | cons r h => cases h with | cons r h => cases h; exact BindsTo.of_eq rfl
  case ok => kernel_rfl
  intro d
  show Wk _ [(Str.ofString "place", .int v), (Str.ofString "self", .ref Z.mem)] _ _ _
  dsimp only [HD.B46_1, HD.C46_1, HD.qB46_1, HD.qC46_1]
  refine Wk.open (φ := fun S : Sx => S.ps = q ∧ S.n ≤ n) (Q' := fun S => StX G Z S) 0 rfl StE.opn fun S es => ?_
  obtain ⟨e0, e3⟩ := es
  refine Wk.retS (Ev.use (k := .int (q.f (v % 18446744073709551616))) (Ev.getH (a := S.hd) (i := 0) (Ev.held (S := S) (i := 0) (by walk_at "sl:ev") rfl rfl) (Ev.wrap (by walk_at "sl:fn") (by walk_at "sl:ev") Ev.int (by kernel_rfl)) Ev.int rfl (fun l z h zh x => ?_) rfl) fun v d => ⟨_, Sh.vs [true] (StX.cls e0 e3), rfl, d⟩)
  obtain ⟨_, _, H, z0, k0, O⟩ := x
  obtain ⟨kvs, D, hd1, hf, hlen, hv, hbd⟩ := O.held
  exact ⟨D, TabAt.ofObj O.lo (H (S.hd, S.o) (by simp [Sx.led])) hd1 hf, by rw [hv, ← e0]; rfl⟩
theorem Su.held {i v : Int} {t u : Tok} (hj : N[j]? = some (StX G Z S)) (h0 : 0 ≤ v ∧ v ≤ 255) (hn : S.n ≤ 100000) : Su c m N (PySem.setItem (.ref S.hd) (.int i t) (.int v u)) fun N' => N' = N.set j (StE G Z { S.ps with f := upd S.f i v } (S.n + 1)) := fun h tk S' => by
  obtain ⟨z, l, zh, ok⟩ := S'.get hj
  obtain ⟨e1, e4, H, z0, k0, O⟩ := ok
  obtain ⟨f, Rs, ob, F, N0, off, e, up⟩ := S'.upd (d := S.hd) hj fun l z ok => by rw [ok.2.1]; simp [Sx.led]
  obtain rfl : ob = S.o := Option.some.inj (e.symm.trans (H (S.hd, S.o) (by simp [Sx.led])))
  obtain ⟨kvs, D, hd1, hf, hlen, hv, hbd⟩ := O.held
  refine setItem_K (s := c.at h tk) PyProof.V.same_int (intKind_is _ _ _ _) (PyProof.V.Flat.int v u) F N0 (.head off) hd1 hf (fun h' o' F' N' hd' hf' => ⟨h', _, _, rfl, up F' N' (Q' := StE G Z { S.ps with f := upd S.f i v } (S.n + 1)) fun l z ok zh hL hk e' => ?_, rfl⟩) (Nat.le_trans hlen (sizeLine_of (Nat.le_trans hn (by decide))))
  exact StX.to (S' := { S with o := o', n := S.n + 1, f := upd S.f i v }) ok (fun b hb hd ob e => hk b ob (hL b hb) hd e) ⟨rfl, rfl, rfl, rfl, rfl⟩ (fun ne => List.forall_mem_cons.mpr ⟨.inr ⟨ne.2.2.1, .head _⟩, List.forall_mem_cons.mpr ⟨.inr ⟨ne.2.2.2.2.1, .tail _ (.head _)⟩, List.forall_mem_cons.mpr ⟨.inr ⟨ne.2.2.2.2.2, .tail _ (.tail _ (.head _))⟩, List.forall_mem_cons.mpr ⟨.inl e', fun _ h => nomatch h⟩⟩⟩⟩) (fun a b => ⟨b, a⟩) (fun _ => Held.put hd' hf' hlen hv hbd h0) rfl (Nat.le_refl _)
theorem t_set {v w : Int} (h0 : 0 ≤ w ∧ w ≤ 255) (hn : n ≤ 100000) : Tr G 3 (.ref 490) [.ref Z.mem, .int v, .int w] [StE G Z q n] fun u N' => N' = [StE G Z { q with f := upd q.f (v % 18446744073709551616) w } (n + 1)] := by
  refine fill_of G.X ?_; k_fill; intro _
  refine' Tr.enter [Str.ofString "self", Str.ofString "place", Str.ofString "octet"] ?ho ?hcd ?hb ?ok ?_
  case ho => k_is
  case hcd => k_is
  case hb =>
    intro s vs X h
    cases h with | cons r h => cases h with | cons r h => cases h with | cons r h => cases h; exact BindsTo.of_eq rfl
  case ok => kernel_rfl
  intro d
  show Wk _ [(Str.ofString "octet", .int w), (Str.ofString "place", .int v), (Str.ofString "self", .ref Z.mem)] _ _ _
  dsimp only [HD.B46_2, HD.C46_2, HD.qB46_2, HD.qC46_2]
  refine Wk.open (φ := fun S : Sx => S.ps = q ∧ S.n ≤ n) (Q' := fun S => StX G Z S) 0 rfl StE.opn fun S es => ?_
  obtain ⟨e0, e3⟩ := es
  subst e0
  refine Wk.setItem (Ev.use (k := .int w) (by walk_at "sl:ev") fun v1 d1 => Ev.ref (Ev.held (S := S) (i := 0) (by walk_at "sl:ev") rfl rfl) (Ev.use (Ev.wrap (v := v) (by walk_at "sl:fn") (by walk_at "sl:ev") Ev.int (by kernel_rfl)) fun v2 d2 => ?_)) (by rfl)
  obtain ⟨_, e1⟩ := d1
  obtain ⟨_, e2⟩ := d2
  subst e1 e2
  refine Su.mono (Su.held (j := 0) rfl h0 (Nat.le_trans e3 hn)) fun N' e => ?_
  subst e
  exact .vs [true] (.imp fun l z h x => StE.up (Nat.add_le_add_right e3 1) x) (Wk.nil rfl)
end
section
variable {G : Gx} {rn : Nat} {c : Fx G rn} {m m' : Lm} {N N' N1 : List HP} {e e0 e1 e2 e3 o iter elt : PySem.Expr} {es args : List PySem.Expr} {k k1 k2 : AV} {ks : List AV} {x x2 nm : Str} {p p' p1 p2 p3 p4 pa pb pc pe pos : Pos} {K K' : Value → List HP → Prop} {P P' : Flow → Lm → List HP → Prop} {D : Lm → List HP → Prop} {rest body b1 b2 : List Stmt} {t : Sem Value} {a ra C f : Addr} {i j n nr r : Nat} {Q Q' : HP} {Z : Dz} {q : PS} {S : Sx} {ops : List Addr} {nmI : String} {b : Bool}
theorem merge_same {N1 : List HP} {K0 : AV} {v : Value} (hN : N[i]? = some Q) (y : Is K0 [Q] v N1) : Is K0 N v (mergeM (mkAt i) N1 N) := by
  obtain ⟨e, d⟩ := y
  subst e
  rw [merge_at i N (List.getElem?_eq_some_iff.mp hN).1, set_same hN]
  exact ⟨rfl, d⟩
theorem Ev.octet {v : Int} (ho : Ev c m N o (.ref Z.mem)) (h1 : Ev c m N e1 (.int v)) (hN : N[i]? = some (StE G Z q n)) (ok : (callOk G.K 552 "octet" 483 && methOk o pa p [e1] && decide (3 ≤ rn)) = true) (hp : plainE e1 = true) : Ev c m N (.Call (.Attribute o "octet" pa) [e1] [] p) (.int (q.f (v % 18446744073709551616))) :=
  Ex.methT ho hN (fun l z h zh x => StE.isMem zh x fun _ _ _ => rfl) (.cons h1 .nil hp) t_octet (mkAt i) (pick_at i N hN) (fun v N1 y => merge_same hN y) ok
theorem Ev.shl {v : Int} {w : Nat} (h1 : Ev c m N e1 (.int v)) (h2 : Ev c m N e2 (.int (w : Int))) (hw : w ≤ 1000000) (hv : v.natAbs < 2 ^ 64) : Ev c m N (.BinOp e1 .LShift e2 p) (.int (v * 2 ^ w)) := h1.bin h2 fun v1 v2 s Q d1 d2 y => by
  obtain ⟨_, e1⟩ := d1
  obtain ⟨_, e2⟩ := d2
  subst e1 e2; exact lshift_int_small (Int.natCast_nonneg w) (by omega) hv (y _ _ ⟨_, rfl⟩)
theorem Ev.byte {v : Int} {w : Nat} (h1 : Ev c m N e1 (.int v)) (h2 : Ev c m N e2 (.int (w : Int))) (h3 : Ev c m N e3 (.int 255)) : Ev c m N (.BinOp (.BinOp e1 .RShift e2 p) .BitAnd e3 p') (.int (v / 2 ^ w % 256)) := .bin (k1 := .int (v / 2 ^ w)) (h1.bin h2 fun v1 v2 s Q d1 d2 y => by
    obtain ⟨_, e1⟩ := d1
    obtain ⟨_, e2⟩ := d2
    subst e1 e2; exact rshift_int (Int.natCast_nonneg w) (y _ _ ⟨_, by rw [Int.fdiv_eq_ediv_of_nonneg _ (Int.le_of_lt (Int.pow_pos (by decide)))]; rfl⟩)) h3 fun v1 v2 s Q d1 d2 y => by
  obtain ⟨_, e1⟩ := d1
  obtain ⟨_, e2⟩ := d2
  subst e1 e2
  exact and_int (y _ _ ⟨_, congrArg (Value.int · _) (kbt_mask _ 8)⟩)
theorem Ev.mulN {w w' : Nat} (h1 : Ev c m N e1 (.int (w : Int))) (h2 : Ev c m N e2 (.int (w' : Int))) (hw : w ≤ 1000000) : Ev c m N (.BinOp e1 .Mult e2 p) (.int ((w * w' : Nat) : Int)) := .mul h1 h2 (mulOkL (by omega))
theorem t_read {at_ : Int} : Tr G 4 (.ref 497) [.ref Z.mem, .int at_, .int 8] [StE G Z q n] (Is (.int (rdN q.f at_ 8)) [StE G Z q n]) := by
  refine fill_of G.X ?_; k_fill; intro _
  refine' Tr.enter [Str.ofString "self", Str.ofString "place", Str.ofString "width"] ?ho ?hcd ?hb ?ok ?_
  case ho => k_is
  case hcd => k_is
  case hb =>
    intro s vs X h
    cases h with | cons r h => cases h with | cons r h => cases h with | cons r h => cases h; exact BindsTo.of_eq rfl
  case ok => kernel_rfl
  intro d
  show Wk _ [(Str.ofString "width", .int 8), (Str.ofString "place", .int at_), (Str.ofString "self", .ref Z.mem)] _ _ _
  dsimp only [HD.B46_3, HD.C46_3, HD.qB46_3, HD.qC46_3]
  refine Wk.open (β := Unit) (φ := fun _ => ∀ i, 0 ≤ q.f i ∧ q.f i ≤ 255) (Q' := fun _ => StE G Z q n) 0 rfl (fun l z h x => ⟨(), ?_, x⟩) fun _ hbd => ?_
  · obtain ⟨S, _, e0, _, _, _, z0, _, O⟩ := x
    obtain ⟨_, _, _, _, _, _, hbd⟩ := O.held
    subst e0
    exact hbd
  refine Wk.set (k := .int 0) Ev.int (by kernel_rfl) (by rfl) ?_
  refine Wk.forX (D := fun m N => m = [(Str.ofString "worth", .int (rdN q.f at_ 8)), (Str.ofString "width", .int 8), (Str.ofString "place", .int at_), (Str.ofString "self", .ref Z.mem)] ∧ N = [StE G Z q n]) (by walk_at "sl:bi") (Ev.use (k := .int 8) (by walk_at "sl:ev") fun v dv => ⟨8, dv, by decide, fun i m N => m = [(Str.ofString "worth", .int (rdN q.f at_ i)), (Str.ofString "width", .int 8), (Str.ofString "place", .int at_), (Str.ofString "self", .ref Z.mem)] ∧ N = [StE G Z q n], ⟨rfl, rfl⟩, ?_, fun _ _ y => y⟩) ?_ (by kernel_rfl)
  · rintro i mi Ni It hi ⟨rfl, rfl⟩
    exact Wk.set (k := .int (rdN q.f at_ (i + 1))) (.add (by walk_at "sl:ev") (.shl (w := 8 * i) (.octet (i := 1) (by walk_at "sl:ev") (.add (i := at_) (j := i) (by walk_at "sl:ev") (by walk_at "sl:ev")) rfl (by kernel_rfl) rfl) (.mulN (w := 8) Ev.int (by walk_at "sl:ev") (by decide)) (by omega) (by have := hbd ((at_ + i) % 18446744073709551616); omega))) (by kernel_rfl) (by rfl) (.nil ⟨_, rfl, _, ⟨rfl, rfl⟩, rfl, rfl, rfl, rfl, trivial⟩)
  · rintro mi Ni ⟨rfl, rfl⟩
    exact Wk.ret (by walk_at "sl:ev")
theorem t_write {i v : Int} (hn : n ≤ 90000) : Tr G 4 (.ref 504) [.ref Z.mem, .int i, .int 8, .int v] [StE G Z q n] fun u N' => N' = [StE G Z { q with f := wrN q.f i v 8 } (n + 8)] := by
  refine fill_of G.X ?_; k_fill; intro _
  refine' Tr.enter [Str.ofString "self", Str.ofString "place", Str.ofString "width", Str.ofString "worth"] ?ho ?hcd ?hb ?ok ?_
  case ho => k_is
  case hcd => k_is
  case hb =>
    intro s vs X h
    cases h with | cons r h => cases h with | cons r h => cases h with | cons r h => cases h with | cons r h => cases h; exact BindsTo.of_eq rfl
  case ok => kernel_rfl
  intro d
  show Wk _ [(Str.ofString "worth", .int v), (Str.ofString "width", .int 8), (Str.ofString "place", .int i), (Str.ofString "self", .ref Z.mem)] _ _ _
  dsimp only [HD.B46_4, HD.C46_4, HD.qB46_4, HD.qC46_4]
  refine Wk.forX (D := fun m N => N = [StE G Z { q with f := wrN q.f i v 8 } (n + 8)]) (by walk_at "sl:bi") (Ev.use (k := .int 8) (by walk_at "sl:ev") fun u dv => ⟨8, dv, by decide, fun k m N => m = [(Str.ofString "worth", .int v), (Str.ofString "width", .int 8), (Str.ofString "place", .int i), (Str.ofString "self", .ref Z.mem)] ∧ N = [StE G Z { q with f := wrN q.f i v k } (n + k)], ⟨rfl, rfl⟩, ?_, fun _ _ y => y.2⟩) ?_ (by kernel_rfl)
  · rintro k mi Ni It hk ⟨rfl, rfl⟩
    refine Wk.expr (Ex.methT (C := 552) (f := 490) (a := Z.mem) (i := 1) (by walk_at "sl:ev") rfl (fun l z h zh x => StE.isMem zh x fun _ _ _ => rfl) (.cons (.add (i := i) (j := k) (by walk_at "sl:ev") (by walk_at "sl:ev")) (.cons (.byte (v := v) (w := 8 * k) (by walk_at "sl:ev") (.mulN (w := 8) Ev.int (by walk_at "sl:ev") (by decide)) Ev.int) .nil rfl) rfl) (t_set (by omega) (by omega)) [false, true] rfl (fun u N1 e => ?_) (by kernel_rfl)) (by rfl) (by rfl)
    subst e
    exact .nil ⟨_, rfl, _, ⟨rfl, rfl⟩, rfl, rfl, rfl, rfl, trivial⟩
  · rintro mi Ni rfl
    exact .nil rfl
theorem Ev.memA (h1 : Ev c m N e (.ref Z.st)) (hN : N[i]? = some (StE G Z q n)) (hb : baseE e = true) : Ev c m N (.Attribute e "memory" p) (.ref Z.mem) := .attrH (C := 669) h1 hN (fun l z h _ x => by
  obtain ⟨S, _, _, e2, I, _⟩ := StE.inst x
  exact ⟨_, _, _, _, I, rfl, rfl, congrArg Value.ref e2⟩) (by rw [hb, Bool.and_true]; kernel_rfl)
theorem Ev.read {at_ : Int} (h1 : Ev c m N e (.ref Z.st)) (h2 : Ev c m N e2 (.int at_)) (h3 : Ev c m N e3 (.int 8)) (hN : N[i]? = some (StE G Z q n)) (ok : (methOk (.Attribute e "memory" pa) pb p [e2, e3] && decide (4 ≤ rn) && (baseE e && plainE e2 && plainE e3)) = true) : Ev c m N (.Call (.Attribute (.Attribute e "memory" pa) "read" pb) [e2, e3] [] p) (.int (rdN q.f at_ 8)) := by
  simp only [Bool.and_eq_true] at ok
  exact Ex.methT (C := 552) (f := 497) (Ev.memA h1 hN ok.2.1.1) hN (fun l z h zh x => StE.isMem zh x fun _ _ _ => rfl) (.cons h2 (.cons h3 .nil ok.2.2) ok.2.1.2) t_read (mkAt i) (pick_at i N hN) (fun v N1 y => merge_same hN y) (by simp only [Bool.and_eq_true]; exact ⟨⟨by kernel_rfl, ok.1.1⟩, ok.1.2⟩)
theorem Ex.write {at_ v : Int} {e4 : PySem.Expr} (h1 : Ev c m N e (.ref Z.st)) (h2 : Ev c m N e2 (.int at_)) (h3 : Ev c m N e3 (.int 8)) (h4 : Ev c m N e4 (.int v)) (hN : N[i]? = some (StE G Z q n)) (hn : n ≤ 90000) (hk : ∀ u, K u (N.set i (StE G Z { q with f := wrN q.f at_ v 8 } (n + 8)))) (ok : (methOk (.Attribute e "memory" pa) pb p [e2, e3, e4] && decide (4 ≤ rn) && (baseE e && plainE e2 && plainE e3 && plainE e4)) = true) : Ex c m N (.Call (.Attribute (.Attribute e "memory" pa) "write" pb) [e2, e3, e4] [] p) K := by
  simp only [Bool.and_eq_true] at ok
  refine Ex.methT (C := 552) (f := 504) (Ev.memA h1 hN ok.2.1.1.1) hN (fun l z h zh x => StE.isMem zh x fun _ _ _ => rfl) (.cons h2 (.cons h3 (.cons h4 .nil ok.2.2) ok.2.1.2) ok.2.1.1.2) (t_write hn) (mkAt i) (pick_at i N hN) (fun v N1 e => ?_) (by simp only [Bool.and_eq_true]; exact ⟨⟨by kernel_rfl, ok.1.1⟩, ok.1.2⟩)
  subst e
  rw [merge_at i N (List.getElem?_eq_some_iff.mp hN).1]
  exact hk v
end
noncomputable def InsT (w : World) (z : Heap) (i tp : Addr) (nm : String) (ops : List Addr) : Prop := ∃ di k1 k2 k3 t1 t3 n, InstAt z i (instObj 868 di) 868 (some (dictOf [⟨PyData.keyHash w.params (Str.ofString "name"), .str (Str.ofString "name") k1, .str (Str.ofString nm) t1⟩, ⟨PyData.keyHash w.params (Str.ofString "operands"), .str (Str.ofString "operands") k2, .ref tp⟩, ⟨PyData.keyHash w.params (Str.ofString "prefix"), .str (Str.ofString "prefix") k3, .str (Str.ofString "") t3⟩] 3)) ∧ z.get? tp = some { cls := .type "tuple", data := .seq (ops.map Value.ref).toArray n }
theorem InsT.of {w : World} {z : Heap} {i : Addr} {nm : String} {ops : List Addr} (x : InsAt w z i nm ops) : ∃ tp, InsT w z i tp nm ops := by
  obtain ⟨di, k1, k2, k3, t1, t3, tp, n, I, g⟩ := x
  exact ⟨tp, di, k1, k2, k3, t1, t3, n, I, g⟩
noncomputable def TinF (G : Gx) (i tp : Addr) (nm : String) (ops : List Addr) : HP := Fz (fun z => InsT G.w z i tp nm ops) fun _ _ x k => by
  obtain ⟨di, k1, k2, k3, t1, t3, n, I, g⟩ := x
  exact ⟨di, k1, k2, k3, t1, t3, n, inst_keep I k, k _ _ g⟩
section
variable {G : Gx} {rn : Nat} {c : Fx G rn} {m m' : Lm} {N N' N1 : List HP} {e e0 e1 e2 e3 o iter elt : PySem.Expr} {es args : List PySem.Expr} {k k1 k2 : AV} {ks : List AV} {x x2 nm : Str} {p p' p1 p2 p3 p4 pp pa pb pc pe pos : Pos} {K K' : Value → List HP → Prop} {P P' : Flow → Lm → List HP → Prop} {D : Lm → List HP → Prop} {rest body b1 b2 : List Stmt} {t : Sem Value} {a ra C f tp : Addr} {i j n nr r : Nat} {Q Q' : HP} {Z : Dz} {q : PS} {S : Sx} {ops : List Addr} {nmI : String} {b : Bool}
theorem Wk.ifK (ht : Et c m N e b) (h : Wk c m N (cond b b1 b2) fun f m' N' => match f with | .next => Wk c m' N' rest P | f => P f m' N') : Wk c m N (.If e b1 b2 p :: rest) P := fun h1 tk S => by
  refine wpAny_execs_cons (wpAny_If (Tx.go ht S fun b' h' tk' N' S' y => ?_))
  obtain ⟨e1, e2⟩ := y
  subst e1 e2
  have key := Wk.go (tk0 := tk') (Q := fun f s' => match f with | .next => wpAny (model G.prog G.w) c.A (execs rest c.env) (Kf c P) No s' | f => Kf c P f s') h S' fun f h2 tk2 m2 N2 S2 y2 => by
    cases f <;> first | exact y2 h2 tk2 S2 | exact ⟨h2, tk2, m2, N2, rfl, S2, y2⟩
  cases b' <;> exact key
theorem Wk.forA {px : Pos} (he : Ex c m N e fun v N1 => ∃ (l : Addr) (j : Nat), v = .ref l ∧ N1[j]? = some (Ls true eAV l ks) ∧ ∃ J : Nat → Lm → List HP → Prop, J 0 m N1 ∧ (∀ i mi Ni It, i < ks.length → J i mi Ni → Wk c ((x, ks.getD i .none) :: mi) (It :: Ni) body (LoopP J (i + 1) It P D)) ∧ ∀ mi Ni, J ks.length mi Ni → D mi Ni)
    (hD : ∀ mi Ni, D mi Ni → Wk c mi Ni rest P) (ok : localOk c.st x = true) (hf : ∀ x, foldedSetIterable e c.env x = pure x) : Wk c m N (.For (.Name x px) e body [] pp :: rest) P := fun h tk S => by
  refine wpAny_execs_cons (wpAny_For (Sm.go he S fun v h2 tk2 N2 S2 y => ?_) hf)
  obtain ⟨l, j, ev, hN, J, j0, turn, done⟩ := y
  subst ev
  obtain ⟨f, z, ls, ag, X⟩ := S2
  obtain ⟨l', ⟨el, vs, n, g, q⟩, _⟩ := X.own.ok.get hN
  replace g : z.get? l = _ := g
  have g2 := X.own.zh _ _ g
  have hl : (c.at h2 tk2).heap.IsList l (List.toArray vs) := ⟨_, g2, rfl, n, rfl⟩
  have hne : l ≠ h2.objs.size := Nat.ne_of_lt (Heap.lt_size g2)
  have W := Walks.list (prog := G.prog) (w := G.w) (A := c.A) c.d.rm.hh h2.objs.size l hne vs.toArray
  have hk : ∀ b o, h2.get? b = some o → (h2.push { cls := .type "list_iterator", data := .fields #[.ref l, .int 0 0] }).get? b = some o := fun b o e => Heap.get?_push_of_some _ e
  have st0 : (h2.push { cls := .type "list_iterator", data := .fields #[.ref l, .int 0 0] }).IsListIter h2.objs.size l 0 ∧ (h2.push { cls := .type "list_iterator", data := .fields #[.ref l, .int 0 0] }).IsList l vs.toArray := ⟨⟨_, Heap.get?_push_size _ rfl, rfl, rfl⟩, hl.at fun o e => hk _ _ e⟩
  have pr : ∀ (i : Nat) (h : Heap), h.IsListIter h2.objs.size l i ∧ h.IsList l vs.toArray → ∀ a ∈ [h2.objs.size], ∃ o, h.get? a = some o := fun i h st a ha => by
    obtain ⟨⟨o, ho, _⟩, _⟩ := st
    exact List.mem_singleton.mp ha ▸ ⟨o, ho⟩
  have hsz : vs.toArray.size = ks.length := q.length
  refine wpAny_pyIter_list hl ?_
  refine loop1 (Φ := ⟨fun _ => True, fun _ _ => trivial⟩) (own := [h2.objs.size]) (fr := [l]) J (fun i => ks.getD i .none) W (fun _ h => h) pr (fun i v hv => ?_) ok (fun i mi Ni hi j => turn i mi Ni _ (hsz ▸ hi) j) (fun mi Ni j => done mi Ni (hsz ▸ j)) (fun f s' y => Aft.use y hD) (h := h2.push _) (N := N2) ?_ j0
  · have hv' : vs[i]? = some v := by simpa using hv
    have hi : i < ks.length := by rw [← q.length]; exact (List.getElem?_eq_some_iff.mp hv').1
    have hk' : ks[i]? = some ks[i] := List.getElem?_eq_getElem hi
    rw [List.getD_eq_getElem?_getD, hk']
    exact All2.ata q i hv' hk'
  · exact .newL (f := f) ag X (fr_off X.F hk) (fun b o _ e => hk b o e) (Heap.get?_none_of_le (Nat.le_refl _)) (ItH.mk (z := z) (fun b o e => hk b o (X.own.zh b o e)) st0 W.frame (pr 0 _ st0) (fun b hb => by rw [List.mem_singleton.mp hb]; exact ⟨_, g⟩) trivial)
theorem Ev.tName (h : Ev c m N e (.ref a)) (hN : N[i]? = some (TinF G a tp nmI ops)) (hb : baseE e = true) : Ev c m N (.Attribute e "name" p) (.str (Str.ofString nmI)) := .fz (C := 868) h hN (fun z x => by
  obtain ⟨_, _, _, _, _, _, _, hI, _⟩ := x
  exact ⟨_, _, _, _, hI, rfl, rfl, _, rfl⟩) (by rw [hb, Bool.and_true]; kernel_rfl)
theorem Ev.tOps (h : Ev c m N e (.ref a)) (hN : N[i]? = some (TinF G a tp nmI ops)) (hb : baseE e = true) : Ev c m N (.Attribute e "operands" p) (.ref tp) := .fz (C := 868) h hN (fun z x => by
  obtain ⟨_, _, _, _, _, _, _, hI, _⟩ := x
  exact ⟨_, _, _, _, hI, rfl, rfl, rfl⟩) (by rw [hb, Bool.and_true]; kernel_rfl)
theorem TinF.tup {l : List Addr} {z h : Heap} (zh : z.StaysIn h) (x : (TinF G a tp nmI ops).ok l z h) : IsTup h tp (ops.map Value.ref).toArray := by
  obtain ⟨_, _, _, _, _, _, _, n, _, g⟩ := x
  exact ⟨_, zh _ _ g, rfl, n, rfl⟩
theorem Ev.tAt (h : Ev c m N e (.ref a)) (hN : N[i]? = some (TinF G a tp nmI ops)) (hj : ops[j]? = some ra) (hq : seqIndex? (j : Int) ops.length = some j) (hj2 : j < 1000) (hb : baseE e = true) : Ev c m N (.Subscript (.Attribute e "operands" p) (.Constant (.int (j : Int)) 0 p1) p2) (.ref ra) := fun h1 tk S =>
  Subscript_ (Ev.goR (Ev.tOps h hN hb) S fun h' tk' S' => wpAny_Constant_int (by
    obtain ⟨z, l, zh, x⟩ := S'.get hN
    have hs : j < ops.length := (List.getElem?_eq_some_iff.mp hj).1
    exact tail_any (s := { c.at h' tk' with toks := tk' + 1 }) (TinF.tup zh x).typeIs slot_tuple_getitem.lookup (getItem_tuple (TinF.tup zh x) (by omega) (by omega) (j := j) (x := .ref ra) (by rw [List.size_toArray, List.length_map]; exact hq) (by simp [hj]) ⟨h', _, N, rfl, S', rfl, rfl⟩) rfl))
theorem Et.neS {y z : Str} {b : Bool} (h1 : Ev c m N e1 (.str y)) (h2 : Ev c m N e2 (.str z)) (hb : (y != z) = b) (hm : behindInMarks .NotEq e2 = false) : Et c m N (.Compare e1 [.NotEq] [e2] p) b := .cmp h1 h2 hm fun v1 v2 s Q d1 d2 q => by
  obtain ⟨_, e1⟩ := d1
  obtain ⟨_, e2⟩ := d2
  subst e1 e2 hb; exact PyProof.Rows.ne_str q
theorem Et.andC {b' : Bool} (h1 : Et c m N e b) (h2 : Et c m N (.BoolOp .And es p) b') : Et c m N (.BoolOp .And (e :: es) p) (b && b') := Tx.and (Tx.of h1 (by
  cases b
  · exact ⟨rfl, rfl⟩
  · exact h2))
theorem Et.andZ : Et c m N (.BoolOp .And [] p) true := Tx.andN ⟨rfl, rfl⟩
theorem Sm.listT (hN : N[i]? = some (TinF G a tp nmI ops)) (hl : ops.length ≤ 1000) (hk : ∀ d, K (.ref d) (Ls false eAV d (ops.map AV.ref) :: N)) : Sm c m N (PySem.call (.type "list") [.ref tp]) K := fun h tk S => by
  obtain ⟨z, l, zh, x⟩ := S.get hN
  obtain ⟨o, g, hc, n, hd⟩ := TinF.tup zh x
  obtain ⟨f, z, ls, ag, X⟩ := S
  refine call_list_seq (s := c.at h tk) (hsz := sizeLine_of (by rw [List.size_toArray, List.length_map]; exact Nat.le_trans hl (by decide))) tp (.inr rfl) g hc hd fun h' c' hk' hD => ⟨h', tk, _, rfl, .newL (P := Ls false eAV h.objs.size (ops.map AV.ref)) (a := h.objs.size) ag X (fr_off X.F hk') (fun b o _ e => hk' b o e) (Heap.get?_none_of_le (Nat.le_refl _)) ⟨rfl, _, c', hD, ?_⟩, hk _⟩
  clear hN x hl hk hd hD
  induction ops with
  | nil => exact .nil
  | cons a r ih => exact .cons rfl ih
end
section
variable {G : Gx} {rn : Nat} {c : Fx G rn} {m m' : Lm} {N N' N1 : List HP} {e e0 e1 e2 e3 o iter elt : PySem.Expr} {es args : List PySem.Expr} {k k1 k2 : AV} {ks : List AV} {x x2 nm : Str} {p p' p1 p2 p3 p4 pp pa pb pc pe pos : Pos} {K K' : Value → List HP → Prop} {P P' : Flow → Lm → List HP → Prop} {D : Lm → List HP → Prop} {rest body b1 b2 : List Stmt} {t : Sem Value} {a ra C f tp : Addr} {i j n nr r : Nat} {Q Q' : HP} {Z : Dz} {q : PS} {S : Sx} {ops : List Addr} {nmI : String} {b : Bool}
theorem Su.reg {v : Int} {t u : Tok} (hj : N[j]? = some (StE G Z q n)) (hi : i < 16) : Su c m N (PySem.setItem (.ref Z.rl) (.int (i : Int) t) (.int v u)) fun N' => N' = N.set j (StE G Z { q with ns := q.ns.set i v } n) := fun h tk S => by
  obtain ⟨S0, es, S'⟩ := S.open (φ := fun S : Sx => S.ps = q ∧ S.n ≤ n) (Q' := fun S => StX G Z S) hj StE.opn
  obtain ⟨e0, e3⟩ := es
  subst e0
  have hj' : (N.set j (StX G Z S0))[j]? = some (StX G Z S0) := List.getElem?_set_self (List.getElem?_eq_some_iff.mp hj).1
  obtain ⟨z, l, zh, ok⟩ := S'.get hj'
  obtain ⟨e1, e4, H, z0, k0, O⟩ := ok
  obtain ⟨f, Rs, ob, F, N0, off, e, up⟩ := S'.upd (d := S0.rl) hj' fun l z ok => by rw [ok.2.1]; simp [Sx.led]
  obtain rfl : ob = listOf S0.vs.toArray S0.c := Option.some.inj (e.symm.trans (H (S0.rl, _) (.tail _ (.tail _ (.head _)))))
  rw [← e1.2.1]
  refine ksa_set (s := c.at h tk) F N0 (.head off) O.iv (Int.natCast_nonneg i) (by rw [O.len]; omega) (by omega) fun h' F' N' hI hlen _ => ⟨h', _, _, rfl, up F' N' (Q' := StE G Z { S0.ps with ns := S0.ns.set i v } n) fun l z ok zh hL hk e' => ?_, by rw [List.set_set]; rfl⟩
  exact StX.to (S' := { S0 with vs := S0.vs.set i (.int v u), ns := S0.ns.set i v }) ok (fun b hb hd ob e => hk b ob (hL b hb) hd e) ⟨rfl, rfl, rfl, rfl, rfl⟩ (fun ne => List.forall_mem_cons.mpr ⟨.inr ⟨ne.2.1, .head _⟩, List.forall_mem_cons.mpr ⟨.inr ⟨ne.2.2.2.1, .tail _ (.head _)⟩, List.forall_mem_cons.mpr ⟨.inl e', List.forall_mem_cons.mpr ⟨.inr ⟨ne.2.2.2.2.2.symm, .tail _ (.tail _ (.tail _ (.head _)))⟩, fun _ h => nomatch h⟩⟩⟩⟩) (fun a _ => ⟨hI, hlen.trans a⟩) (fun h => h) rfl e3
theorem Ev.rl (h1 : Ev c m N e (.ref Z.st)) (hN : N[i]? = some (StE G Z q n)) (hb : baseE e = true) : Ev c m N (.Attribute e "regs" p) (.ref Z.rl) := .attrH (C := 669) h1 hN (fun l z h _ x => by
  obtain ⟨S, rfl, e2, _, I, _⟩ := StE.inst x
  exact ⟨_, _, _, _, I, rfl, rfl, congrArg Value.ref e2⟩) (by rw [hb, Bool.and_true]; kernel_rfl)
theorem Wk.setReg {v : Int} (hx : Ev c m N e (.int v)) (ho : Ev c m N o (.ref Z.st)) (h2 : Ev c m N e2 (.int (i : Int))) (hN : N[j]? = some (StE G Z q n)) (hi : i < 16) (hb : baseE o = true) (hs : swapsWith e (some (.Subscript (.Attribute o "regs" pa) e2 p')) p.line c.env = pure false) (hw : Wk c m (N.set j (StE G Z { q with ns := q.ns.set i v } n)) rest P) : Wk c m N (.Assign [.Subscript (.Attribute o "regs" pa) e2 p'] e p :: rest) P :=
  Wk.setItem (hx.use fun v1 d1 => (Ev.rl ho hN hb).ref (h2.use fun v2 d2 => by
    obtain ⟨_, e1⟩ := d1
    obtain ⟨_, e2⟩ := d2
    subst e1 e2
    exact Su.mono (Su.reg hN hi) fun N' e => e ▸ hw)) hs
theorem Et.geI {i j : Int} {b : Bool} (h1 : Ev c m N e1 (.int i)) (h2 : Ev c m N e2 (.int j)) (hb : decide (j ≤ i) = b) (hm : behindInMarks .GtE e2 = false) : Et c m N (.Compare e1 [.GtE] [e2] p) b := .cmp h1 h2 hm fun v1 v2 s Q d1 d2 y => by
  obtain ⟨_, e1⟩ := d1
  obtain ⟨_, e2⟩ := d2
  subst e1 e2 hb; exact PyProof.Rows.ge_int y
theorem t_joined {v w : Int} : Tr G 1 (.ref 563) [.int v, .int w, .int 64] [] (Is (.int w) []) := by
  refine fill_of G.X ?_; k_fill; intro _
  refine' Tr.enter [Str.ofString "old", Str.ofString "worth", Str.ofString "size"] ?ho ?hcd ?hb ?ok ?_
  case ho => k_is
  case hcd => k_is
  case hb =>
    intro s vs X h
    cases h with | cons r h => cases h with | cons r h => cases h with | cons r h => cases h; exact BindsTo.of_eq rfl
  case ok => kernel_rfl
  intro d
  show Wk _ [(Str.ofString "size", .int 64), (Str.ofString "worth", .int w), (Str.ofString "old", .int v)] _ _ _
  dsimp only [HD.B47, HD.C47, HD.qB47, HD.qC47]
  exact Wk.ifK (b := true) (Et.geI (by walk_at "sl:ev") Ev.int rfl rfl) (Wk.ret (by walk_at "sl:ev"))
theorem Ev.joined {v w : Int} (hf : Ev c m N (.Name x p') (.val (.ref 563))) (h1 : Ev c m N e1 (.int v)) (h2 : Ev c m N e2 (.int w)) (h3 : Ev c m N e3 (.int 64)) (ok : (decide (1 ≤ rn) && keepIn G.K (.ref 563) && [e1, e2, e3].all plainE) = true) (hp : (plainE e1 && plainE e2 && plainE e3) = true) : Ev c m N (.Call (.Name x p') [e1, e2, e3] [] p) (.int w) := by
  simp only [Bool.and_eq_true] at hp
  refine Ex.callT hf (.cons h1 (.cons h2 (.cons h3 .nil hp.2) hp.1.2) hp.1.1) t_joined [] pickN ok fun v N1 y => ?_
  obtain ⟨e, d⟩ := y
  subst e
  exact ⟨mergeN, d⟩
theorem t_get (hr : r < 16) : Tr G 3 (.ref 584) [.ref Z.st, .ref ra] [StE G Z q n, RegF G ra r] (Is (.int (q.ns.getD r 0 % 18446744073709551616)) [StE G Z q n, RegF G ra r]) := by
  refine fill_of G.X ?_; k_fill; intro _
  refine' Tr.enter [Str.ofString "self", Str.ofString "register"] ?ho ?hcd ?hb ?ok ?_
  case ho => k_is
  case hcd => k_is
  case hb =>
    intro s vs X h
    cases h with | cons r h => cases h with | cons r h => cases h; exact BindsTo.of_eq rfl
  case ok => kernel_rfl
  intro d
  show Wk _ [(Str.ofString "register", .ref ra), (Str.ofString "self", .ref Z.st)] _ _ _
  dsimp only [HD.B49_1, HD.C49_1, HD.qB49_1, HD.qC49_1]
  exact Wk.ifK (b := true) (Et.eqS (Ev.rKind (i := 1) (by walk_at "sl:ev") rfl rfl) Ev.str rfl rfl) (Wk.ret (Ev.wrap (by walk_at "sl:fn") (Ev.regs (i := 0) (by walk_at "sl:ev") (Ev.rNum (i := 1) (by walk_at "sl:ev") rfl rfl) rfl hr rfl fun _ => rfl) (Ev.rSize (i := 1) (by walk_at "sl:ev") rfl rfl) (by kernel_rfl)))
theorem t_put {v : Int} (hr : r < 16) : Tr G 3 (.ref 591) [.ref Z.st, .ref ra, .int v] [StE G Z q n, RegF G ra r] fun u N' => N' = [StE G Z { q with ns := q.ns.set r (v % 18446744073709551616) } n, RegF G ra r] := by
  refine fill_of G.X ?_; k_fill; intro _
  refine' Tr.enter [Str.ofString "self", Str.ofString "register", Str.ofString "worth"] ?ho ?hcd ?hb ?ok ?_
  case ho => k_is
  case hcd => k_is
  case hb =>
    intro s vs X h
    cases h with | cons r h => cases h with | cons r h => cases h with | cons r h => cases h; exact BindsTo.of_eq rfl
  case ok => kernel_rfl
  intro d
  show Wk _ [(Str.ofString "worth", .int v), (Str.ofString "register", .ref ra), (Str.ofString "self", .ref Z.st)] _ _ _
  dsimp only [HD.B49_2, HD.C49_2, HD.qB49_2, HD.qC49_2]
  refine Wk.set (k := .int (v % 18446744073709551616)) (Ev.wrap (by walk_at "sl:fn") (by walk_at "sl:ev") (Ev.rSize (i := 1) (by walk_at "sl:ev") rfl rfl) (by kernel_rfl)) (by kernel_rfl) (by rfl) ?_
  exact Wk.ifK (b := true) (Et.eqS (Ev.rKind (i := 1) (by walk_at "sl:ev") rfl rfl) Ev.str rfl rfl) (Wk.setReg (j := 0) (Ev.joined (by walk_at "sl:fn") (Ev.regs (i := 0) (by walk_at "sl:ev") (Ev.rNum (i := 1) (by walk_at "sl:ev") rfl rfl) rfl hr rfl fun _ => rfl) (by walk_at "sl:ev") (Ev.rSize (i := 1) (by walk_at "sl:ev") rfl rfl) (by kernel_rfl) rfl) (by walk_at "sl:ev") (Ev.rNum (i := 1) (by walk_at "sl:ev") rfl rfl) rfl hr rfl (by rfl) (.nil (.nil rfl)))
theorem t_low {v : Int} (hr : r < 16) : Tr G 4 (.ref 598) [.ref Z.st, .ref ra, .int 64, .int v] [StE G Z q n, RegF G ra r] fun u N' => N' = [StE G Z { q with ns := q.ns.set r (v % 18446744073709551616) } n, RegF G ra r] := by
  refine fill_of G.X ?_; k_fill; intro _
  refine' Tr.enter [Str.ofString "self", Str.ofString "register", Str.ofString "size", Str.ofString "worth"] ?ho ?hcd ?hb ?ok ?_
  case ho => k_is
  case hcd => k_is
  case hb =>
    intro s vs X h
    cases h with | cons r h => cases h with | cons r h => cases h with | cons r h => cases h with | cons r h => cases h; exact BindsTo.of_eq rfl
  case ok => kernel_rfl
  intro d
  show Wk _ [(Str.ofString "worth", .int v), (Str.ofString "size", .int 64), (Str.ofString "register", .ref ra), (Str.ofString "self", .ref Z.st)] _ _ _
  dsimp only [HD.B49_3, HD.C49_3, HD.qB49_3, HD.qC49_3]
  refine Wk.ifK (b := false) (Tx.and (Tx.of (b := false) (Et.eqS (Ev.rKind (i := 1) (by walk_at "sl:ev") rfl rfl) Ev.str rfl rfl) ⟨rfl, rfl⟩)) (Wk.expr (Ex.methT (C := 669) (f := 591) (a := Z.st) (i := 0) (by walk_at "sl:ev") rfl (fun l z h zh x => StE.isSt x fun _ _ _ _ _ _ _ _ _ => ⟨_, rfl, rfl⟩) (.cons (by walk_at "sl:ev") (.cons (by walk_at "sl:ev") .nil rfl) rfl) (t_put hr) [true, true] rfl (fun u N1 e => ?_) (by kernel_rfl)) (by rfl) (by rfl))
  subst e
  exact .nil (.nil rfl)
theorem t_sread (hr : r < 16) : Tr G 4 (.ref 631) [.ref Z.st, .ref a, .int 64] [StE G Z q n, RegF G ra r, OpF G a ra] (Is (.int (q.ns.getD r 0 % 18446744073709551616)) [StE G Z q n, RegF G ra r, OpF G a ra]) := by
  refine fill_of G.X ?_; k_fill; intro _
  refine' Tr.enter [Str.ofString "self", Str.ofString "operand", Str.ofString "size"] ?ho ?hcd ?hb ?ok ?_
  case ho => k_is
  case hcd => k_is
  case hb =>
    intro s vs X h
    cases h with | cons r h => cases h with | cons r h => cases h with | cons r h => cases h; exact BindsTo.of_eq rfl
  case ok => kernel_rfl
  intro d
  show Wk _ [(Str.ofString "size", .int 64), (Str.ofString "operand", .ref a), (Str.ofString "self", .ref Z.st)] _ _ _
  dsimp only [HD.B49_8, HD.C49_8, HD.qB49_8, HD.qC49_8]
  refine Wk.ifK (b := true) (Et.eqS (Ev.oKind (i := 2) (by walk_at "sl:ev") rfl rfl) Ev.str rfl rfl) (Wk.ret (Ev.cast (Ev.wrap (v := q.ns.getD r 0 % 18446744073709551616) (by walk_at "sl:fn") (Ex.methT (C := 669) (f := 584) (a := Z.st) (i := 0) (by walk_at "sl:ev") rfl (fun l z h zh x => StE.isSt x fun _ _ _ _ _ _ _ _ _ => ⟨_, rfl, rfl⟩) (.cons (Ev.oReg (i := 2) (by walk_at "sl:ev") rfl rfl) .nil rfl) (t_get hr) [true, true] rfl (fun u N1 y => ?_) (by kernel_rfl)) (by walk_at "sl:ev") (by kernel_rfl)) fun v d => ?_))
  · obtain ⟨e, d⟩ := y
    subst e
    exact ⟨rfl, d⟩
  · rw [Int.emod_emod] at d
    exact d
theorem t_swrite {v : Int} (hr : r < 16) : Tr G 5 (.ref 638) [.ref Z.st, .ref a, .int 64, .int v] [StE G Z q n, RegF G ra r, OpF G a ra] fun u N' => N' = [StE G Z { q with ns := q.ns.set r (v % 18446744073709551616) } n, RegF G ra r, OpF G a ra] := by
  refine fill_of G.X ?_; k_fill; intro _
  refine' Tr.enter [Str.ofString "self", Str.ofString "operand", Str.ofString "size", Str.ofString "worth"] ?ho ?hcd ?hb ?ok ?_
  case ho => k_is
  case hcd => k_is
  case hb =>
    intro s vs X h
    cases h with | cons r h => cases h with | cons r h => cases h with | cons r h => cases h with | cons r h => cases h; exact BindsTo.of_eq rfl
  case ok => kernel_rfl
  intro d
  show Wk _ [(Str.ofString "worth", .int v), (Str.ofString "size", .int 64), (Str.ofString "operand", .ref a), (Str.ofString "self", .ref Z.st)] _ _ _
  dsimp only [HD.B49_9, HD.C49_9, HD.qB49_9, HD.qC49_9]
  refine Wk.ifK (b := true) (Et.eqS (Ev.oKind (i := 2) (by walk_at "sl:ev") rfl rfl) Ev.str rfl rfl) (Wk.expr (Ex.methT (C := 669) (f := 598) (a := Z.st) (i := 0) (by walk_at "sl:ev") rfl (fun l z h zh x => StE.isSt x fun _ _ _ _ _ _ _ _ _ => ⟨_, rfl, rfl⟩) (.cons (Ev.oReg (i := 2) (by walk_at "sl:ev") rfl rfl) (.cons (by walk_at "sl:ev") (.cons (by walk_at "sl:ev") .nil rfl) rfl) rfl) (t_low hr) [true, true] rfl (fun u N1 e => ?_) (by kernel_rfl)) (by rfl) (by rfl))
  subst e
  exact .nil (.nil rfl)
theorem t_push {v : Int} (hn : n ≤ 90000) (hl : 4 < q.ns.length) : Tr G 5 (.ref 645) [.ref Z.st, .int v, .int 8] [StE G Z q n] fun u N' => N' = [StE G Z { q with ns := q.ns.set 4 ((q.ns.getD 4 0 - 8) % 18446744073709551616), f := wrN q.f ((q.ns.getD 4 0 - 8) % 18446744073709551616) v 8 } (n + 8)] := by
  refine fill_of G.X ?_; k_fill; intro _
  refine' Tr.enter [Str.ofString "self", Str.ofString "worth", Str.ofString "width"] ?ho ?hcd ?hb ?ok ?_
  case ho => k_is
  case hcd => k_is
  case hb =>
    intro s vs X h
    cases h with | cons r h => cases h with | cons r h => cases h with | cons r h => cases h; exact BindsTo.of_eq rfl
  case ok => kernel_rfl
  intro d
  show Wk _ [(Str.ofString "width", .int 8), (Str.ofString "worth", .int v), (Str.ofString "self", .ref Z.st)] _ _ _
  dsimp only [HD.B49_10, HD.C49_10, HD.qB49_10, HD.qC49_10]
  refine Wk.setReg (j := 0) (i := 4) (Ev.wrap (v := q.ns.getD 4 0 - 8) (by walk_at "sl:fn") (Ev.sub (Ev.regs (i := 0) (j := 4) (by walk_at "sl:ev") (Ev.glob (k := .int 4) rfl (by kernel_rfl) ⟨_, rfl⟩) rfl (by decide) rfl fun _ => rfl) (by walk_at "sl:ev")) Ev.int (by kernel_rfl)) (by walk_at "sl:ev") (Ev.glob (k := .int 4) rfl (by kernel_rfl) ⟨_, rfl⟩) rfl (by decide) rfl (by rfl) ?_
  refine Wk.expr (Ex.write (Z := Z) (i := 0) (by walk_at "sl:ev") (Ev.regs (i := 0) (j := 4) (by walk_at "sl:ev") (Ev.glob (k := .int 4) rfl (by kernel_rfl) ⟨_, rfl⟩) rfl (by decide) rfl fun _ => rfl) (by walk_at "sl:ev") (by walk_at "sl:ev") rfl hn (fun u => ?_) (by kernel_rfl)) (by rfl) (by rfl)
  have e : (q.ns.set 4 ((q.ns.getD 4 0 - 8) % 18446744073709551616)).getD 4 0 = (q.ns.getD 4 0 - 8) % 18446744073709551616 := by rw [List.getD_eq_getElem?_getD, List.getElem?_set_self hl]; rfl
  dsimp only
  rw [e]
  exact .nil rfl
theorem t_pop : Tr G 5 (.ref 652) [.ref Z.st, .int 8] [StE G Z q n] (Is (.int (rdN q.f (q.ns.getD 4 0) 8)) [StE G Z { q with ns := q.ns.set 4 ((q.ns.getD 4 0 + 8) % 18446744073709551616) } n]) := by
  refine fill_of G.X ?_; k_fill; intro _
  refine' Tr.enter [Str.ofString "self", Str.ofString "width"] ?ho ?hcd ?hb ?ok ?_
  case ho => k_is
  case hcd => k_is
  case hb =>
    intro s vs X h
    cases h with | cons r h => cases h with | cons r h => cases h; exact BindsTo.of_eq rfl
  case ok => kernel_rfl
  intro d
  show Wk _ [(Str.ofString "width", .int 8), (Str.ofString "self", .ref Z.st)] _ _ _
  dsimp only [HD.B49_11, HD.C49_11, HD.qB49_11, HD.qC49_11]
  refine Wk.set (k := .int (rdN q.f (q.ns.getD 4 0) 8)) (Ev.read (i := 0) (by walk_at "sl:ev") (Ev.regs (i := 0) (j := 4) (by walk_at "sl:ev") (Ev.glob (k := .int 4) rfl (by kernel_rfl) ⟨_, rfl⟩) rfl (by decide) rfl fun _ => rfl) (by walk_at "sl:ev") rfl (by kernel_rfl)) (by kernel_rfl) (by rfl) ?_
  exact Wk.setReg (j := 0) (i := 4) (Ev.wrap (v := q.ns.getD 4 0 + 8) (by walk_at "sl:fn") (Ev.add (Ev.regs (i := 0) (j := 4) (by walk_at "sl:ev") (Ev.glob (k := .int 4) rfl (by kernel_rfl) ⟨_, rfl⟩) rfl (by decide) rfl fun _ => rfl) (by walk_at "sl:ev")) Ev.int (by kernel_rfl)) (by walk_at "sl:ev") (Ev.glob (k := .int 4) rfl (by kernel_rfl) ⟨_, rfl⟩) rfl (by decide) rfl (by rfl) (Wk.ret (by walk_at "sl:ev"))
end
section
variable {G : Gx} {rn : Nat} {c : Fx G rn} {m m' : Lm} {N N' N1 : List HP} {e e0 e1 e2 e3 o iter elt : PySem.Expr} {es args : List PySem.Expr} {k k1 k2 : AV} {ks : List AV} {x x2 nm : Str} {p p' p1 p2 p3 p4 pp pa pb pc pe pos : Pos} {K K' : Value → List HP → Prop} {P P' : Flow → Lm → List HP → Prop} {D : Lm → List HP → Prop} {rest body b1 b2 : List Stmt} {t : Sem Value} {a a2 ra ra2 i tp C f : Addr} {j n nr r r2 : Nat} {Q Q' : HP} {Z : Dz} {q : PS} {S : Sx} {ops : List Addr} {nmI : String} {b : Bool}
theorem t_size (hl : ops.length ≤ 2) : Tr G 2 (.ref 624) [.ref Z.st, .ref a, .ref i] [RegF G ra r, OpF G a ra, TinF G i tp nmI ops] (Is (.int 64) [RegF G ra r, OpF G a ra, TinF G i tp nmI ops]) := by
  refine fill_of G.X ?_; k_fill; intro _
  refine' Tr.enter [Str.ofString "self", Str.ofString "operand", Str.ofString "instruction"] ?ho ?hcd ?hb ?ok ?_
  case ho => k_is
  case hcd => k_is
  case hb =>
    intro s vs X h
    cases h with | cons r h => cases h with | cons r h => cases h with | cons r h => cases h; exact BindsTo.of_eq rfl
  case ok => kernel_rfl
  intro d
  show Wk _ [(Str.ofString "instruction", .ref i), (Str.ofString "operand", .ref a), (Str.ofString "self", .ref Z.st)] _ _ _
  dsimp only [HD.B49_7, HD.C49_7, HD.qB49_7, HD.qC49_7]
  refine Wk.forA (ks := [.ref a] ++ ops.map AV.ref) (D := fun _ _ => False) (Ex.bin (Ex.listK (ks := [.ref a]) (.cons (by walk_at "sl:ev") .nil rfl) (Nat.le_of_ble_eq_true rfl) fun b => Ex.callY (by walk_at "sl:bi") (.cons (Ev.ref (Ev.tOps (i := 3) (by walk_at "sl:ev") rfl rfl) (.nil (Sm.listT (i := 3) rfl (by omega) fun d => Sm.catF (i := 1) (j := 0) rfl rfl (by simp; omega) fun d3 => ⟨d3, 0, rfl, rfl, fun i' m N => i' = 0 ∧ m = [(Str.ofString "instruction", .ref i), (Str.ofString "operand", .ref a), (Str.ofString "self", .ref Z.st)] ∧ N = _, ⟨rfl, rfl, rfl⟩, ?_, ?_⟩))) rfl) rfl)) (fun _ _ h => h.elim) (by kernel_rfl) (by intro _; with_unfolding_all rfl)
  · rintro i' mi Ni It hi ⟨rfl, rfl, rfl⟩
    exact Wk.ifK (b := true) (Et.eqS (Ev.oKind (i := 5) (by walk_at "sl:ev") rfl rfl) Ev.str rfl rfl) (Wk.retS (Ev.use (Ev.rSize (i := 4) (Ev.oReg (i := 5) (by walk_at "sl:ev") rfl rfl) rfl rfl) fun v d => ⟨_, Sh.vs [false, true, true, true] .drops, _, rfl, rfl, d⟩))
  · rintro mi Ni ⟨e, _⟩
    exact nomatch e
noncomputable def Sx.ents (P : Params) (S : Sx) : List DictEntry := match (stD P S.k S.rl S.xl S.fl S.mem S.sg (.int S.rip S.tr) S.bg (.bool S.halted)).data with
  | .dict es _ => es.toList
  | _ => []
theorem Wk.setSt (hx : Ex c m N e fun v N1 => ∃ q n q', N1[j]? = some (StE G Z q n) ∧ (∀ S : Sx, S.ps = q → ∃ rip tr bg hl, q' = { q with rip := rip, halted := hl } ∧ ∀ tk, stD G.w.params S.k S.rl S.xl S.fl S.mem S.sg (.int rip tr) bg (.bool hl) = dictOf (putL nm (PyData.keyHash G.w.params nm) (.str nm tk) v (S.ents G.w.params)) 9) ∧ Wk c m (N1.set j (StE G Z q' n)) rest P) (ho : ∀ N, Ev c m N o (.ref Z.st)) (hl : ∀ S : Sx, (S.ents G.w.params).any (·.key.isStr nm) = true) (hp : (findIn G.K (.ref 669) "__setattr__" == some (some (.builtin "object.__setattr__")) && plainOver G.K 669 && (takerIn G.K 669 nm == some none) && hasDictIn G.K 669) = true) (hs : swapsWith e (some (.Attribute o nm pa)) p.line c.env = pure false) : Wk c m N (.Assign [.Attribute o nm pa] e p :: rest) P :=
  Wk.setAttr (C := 669) (a := Z.st) (j := j) (Sm.post hx fun v N' h y S => by
    obtain ⟨q, n, q', hj, hq, hw⟩ := y
    obtain ⟨S0, es, S'⟩ := S.open (φ := fun S0 : Sx => S0.ps = q ∧ S0.n ≤ n) (Q' := fun S0 => StX G Z S0) hj StE.opn
    obtain ⟨e0, e3⟩ := es
    obtain ⟨rip, tr, bg, hl', e5, he⟩ := hq S0 e0
    subst e0 e5
    refine ⟨_, S', ho _, StX G Z S0, StE G Z { S0.ps with rip := rip, halted := hl' } n, S0.ents G.w.params, S0.d, 9, by rw [List.getElem?_set_self (List.getElem?_eq_some_iff.mp hj).1], fun l z h x => ⟨x.2.1 ▸ by simp [Sx.led], x.1.1 ▸ x.2.2.1 _ (.head _), x.2.2.1 _ (.tail _ (.head _))⟩, hl S0, Nat.le_of_ble_eq_true rfl, fun l z h h' tk es' e x hk e' => ?_, by rw [List.set_set]; exact hw⟩
    subst e
    rw [← he tk] at e'
    exact StX.to (S' := { S0 with rip := rip, tr := tr, bg := bg, halted := hl' }) x hk ⟨rfl, rfl, rfl, rfl, rfl⟩ (fun ne => List.forall_mem_cons.mpr ⟨.inr ⟨ne.1, .head _⟩, List.forall_mem_cons.mpr ⟨.inl e', List.forall_mem_cons.mpr ⟨.inr ⟨ne.2.2.2.1.symm, .tail _ (.tail _ (.head _))⟩, List.forall_mem_cons.mpr ⟨.inr ⟨ne.2.2.2.2.1.symm, .tail _ (.tail _ (.tail _ (.head _)))⟩, fun _ h => nomatch h⟩⟩⟩⟩) (fun a b => ⟨b, a⟩) (fun h => h) rfl e3) hp hs
theorem Wk.setRip (hx : Ex c m N e fun v N1 => ∃ q n rip, N1[j]? = some (StE G Z q n) ∧ (AV.int rip).den v ∧ Wk c m (N1.set j (StE G Z { q with rip := rip } n)) rest P) (ho : ∀ N, Ev c m N o (.ref Z.st)) (hs : swapsWith e (some (.Attribute o "rip" pa)) p.line c.env = pure false) : Wk c m N (.Assign [.Attribute o "rip" pa] e p :: rest) P :=
  .setSt (j := j) (Z := Z) (hx.mono fun v N' y => by
    obtain ⟨q, n, rip, hj, d, hw⟩ := y
    obtain ⟨t, e⟩ := d
    subst e
    exact ⟨q, n, _, hj, fun S e => ⟨rip, t, S.bg, S.halted, by rw [← e]; rfl, fun tk => rfl⟩, hw⟩) ho (fun _ => rfl) (by kernel_rfl) hs
theorem Wk.setBegin (hx : Ev c m N e k) (hj : N[j]? = some (StE G Z q n)) (hw : Wk c m N rest P) (ho : ∀ N, Ev c m N o (.ref Z.st)) (hs : swapsWith e (some (.Attribute o "begin" pa)) p.line c.env = pure false) : Wk c m N (.Assign [.Attribute o "begin" pa] e p :: rest) P :=
  .setSt (j := j) (Z := Z) (hx.use fun v d => ⟨q, n, q, hj, fun S e => ⟨S.rip, S.tr, v, S.halted, by rw [← e]; rfl, fun tk => rfl⟩, by rw [set_same hj]; exact hw⟩) ho (fun _ => rfl) (by kernel_rfl) hs
theorem Wk.setHalt (hx : Ev c m N e (.bool b)) (hj : N[j]? = some (StE G Z q n)) (hw : Wk c m (N.set j (StE G Z { q with halted := b } n)) rest P) (ho : ∀ N, Ev c m N o (.ref Z.st)) (hs : swapsWith e (some (.Attribute o "is_halted" pa)) p.line c.env = pure false) : Wk c m N (.Assign [.Attribute o "is_halted" pa] e p :: rest) P :=
  .setSt (j := j) (Z := Z) (hx.use fun v d => ⟨q, n, _, hj, fun S e => ⟨S.rip, S.tr, S.bg, b, by rw [← e]; rfl, fun tk => by cases d; rfl⟩, hw⟩) ho (fun _ => rfl) (by kernel_rfl) hs
theorem Ex.stT {QQ : Value → List HP → Prop} (ho : Ev c m N o (.ref Z.st)) (hN : N[j]? = some (StE G Z q n)) (hl : ∀ k rl xl fl mem sg rip bg hl, ∃ es, stD G.w.params k rl xl fl mem sg rip bg hl = dictOf es 9 ∧ getL nm es = some none) (ha : Evs c m N (e :: args) ks) (T : Tr G nr (.ref f) (.ref Z.st :: ks) N1 QQ) (mk : List Bool) (hM : pickM mk N = N1) (hk : ∀ v N1', QQ v N1' → K v (mergeM mk N1' N)) (ok : (callOk G.K 669 nm f && methOk o pa p (e :: args) && decide (nr ≤ rn)) = true) : Ex c m N (.Call (.Attribute o nm pa) (e :: args) [] p) K := Ex.methT (C := 669) ho hN (fun l z h _ x => StE.isSt x hl) ha T mk hM hk ok
end
section
variable {G : Gx} {rn : Nat} {c : Fx G rn} {m m' : Lm} {N N' N1 : List HP} {e e0 e1 e2 e3 o iter elt : PySem.Expr} {es args : List PySem.Expr} {k k1 k2 : AV} {ks : List AV} {x x2 nm : Str} {p p' p1 p2 p3 p4 pp pa pb pc pe pos : Pos} {K K' : Value → List HP → Prop} {P P' : Flow → Lm → List HP → Prop} {D : Lm → List HP → Prop} {rest body b1 b2 : List Stmt} {t : Sem Value} {a a2 ra ra2 i tp C f : Addr} {j n nr r r2 : Nat} {Q Q' : HP} {Z : Dz} {q : PS} {S : Sx} {ops : List Addr} {nmI : String} {b : Bool}
theorem t_move_no (h0 : (Str.ofString nmI == Str.ofString "nop") = false) (h1 : (Str.ofString nmI != Str.ofString "mov") = true) (h2 : (Str.ofString nmI != Str.ofString "lea") = true) (h3 : (Str.ofString nmI != Str.ofString "xchg") = true) : Tr G 1 (.ref 893) [.ref Z.st, .ref i] [TinF G i tp nmI ops] (Is (.bool false) [TinF G i tp nmI ops]) := by
  refine fill_of G.X ?_; k_fill; intro _
  refine' Tr.enter [Str.ofString "state", Str.ofString "instruction"] ?ho ?hcd ?hb ?ok ?_
  case ho => k_is
  case hcd => k_is
  case hb =>
    intro s vs X h
    cases h with | cons r h => cases h with | cons r h => cases h; exact BindsTo.of_eq rfl
  case ok => kernel_rfl
  intro d
  show Wk _ [(Str.ofString "instruction", .ref i), (Str.ofString "state", .ref Z.st)] _ _ _
  dsimp only [HD.B74, HD.C74, HD.qB74, HD.qC74]
  refine Wk.set (k := .str (Str.ofString nmI)) (Ev.tName (i := 0) (by walk_at "sl:ev") rfl rfl) (by kernel_rfl) (by rfl) ?_
  refine Wk.ifK (b := false) (Et.eqS (by walk_at "sl:ev") Ev.str h0 rfl) (.nil ?_)
  exact Wk.ifK (b := true) (Et.andC (b := true) (b' := true) (Et.neS (by walk_at "sl:ev") Ev.str h1 rfl) (Et.andC (b := true) (b' := true) (Et.neS (by walk_at "sl:ev") Ev.str h2 rfl) (Et.andC (b := true) (Et.neS (by walk_at "sl:ev") Ev.str h3 rfl) Et.andZ))) (.ret Ev.bool)
theorem t_move_nop : Tr G 1 (.ref 893) [.ref Z.st, .ref i] [TinF G i tp "nop" ops] (Is (.bool true) [TinF G i tp "nop" ops]) := by
  refine fill_of G.X ?_; k_fill; intro _
  refine' Tr.enter [Str.ofString "state", Str.ofString "instruction"] ?ho ?hcd ?hb ?ok ?_
  case ho => k_is
  case hcd => k_is
  case hb =>
    intro s vs X h
    cases h with | cons r h => cases h with | cons r h => cases h; exact BindsTo.of_eq rfl
  case ok => kernel_rfl
  intro d
  show Wk _ [(Str.ofString "instruction", .ref i), (Str.ofString "state", .ref Z.st)] _ _ _
  dsimp only [HD.B74, HD.C74, HD.qB74, HD.qC74]
  refine Wk.set (k := .str (Str.ofString "nop")) (Ev.tName (i := 0) (by walk_at "sl:ev") rfl rfl) (by kernel_rfl) (by rfl) ?_
  exact Wk.ifK (b := true) (Et.eqS (by walk_at "sl:ev") Ev.str (by kernel_rfl) rfl) (.ret Ev.bool)
theorem t_move_mov (hr : r < 16) (hr2 : r2 < 16) : Tr G 6 (.ref 893) [.ref Z.st, .ref i] [StE G Z q n, RegF G ra r, OpF G a ra, RegF G ra2 r2, OpF G a2 ra2, TinF G i tp "mov" [a, a2]] fun v N' => v = .bool true ∧ N' = [StE G Z { q with ns := q.ns.set r (q.ns.getD r2 0 % 18446744073709551616 % 18446744073709551616) } n, RegF G ra r, OpF G a ra, RegF G ra2 r2, OpF G a2 ra2, TinF G i tp "mov" [a, a2]] := by
  refine fill_of G.X ?_; k_fill; intro _
  refine' Tr.enter [Str.ofString "state", Str.ofString "instruction"] ?ho ?hcd ?hb ?ok ?_
  case ho => k_is
  case hcd => k_is
  case hb =>
    intro s vs X h
    cases h with | cons r h => cases h with | cons r h => cases h; exact BindsTo.of_eq rfl
  case ok => kernel_rfl
  intro d
  show Wk _ [(Str.ofString "instruction", .ref i), (Str.ofString "state", .ref Z.st)] _ _ _
  dsimp only [HD.B74, HD.C74, HD.qB74, HD.qC74]
  refine Wk.set (k := .str (Str.ofString "mov")) (Ev.tName (i := 5) (by walk_at "sl:ev") rfl rfl) (by kernel_rfl) (by rfl) ?_
  refine Wk.ifK (b := false) (Et.eqS (by walk_at "sl:ev") Ev.str (by kernel_rfl) rfl) (.nil ?_)
  refine Wk.ifK (b := false) (Et.andC (b := false) (b' := true) (Et.neS (by walk_at "sl:ev") Ev.str (by kernel_rfl) rfl) (Et.andC (b := true) (b' := true) (Et.neS (by walk_at "sl:ev") Ev.str (by kernel_rfl) rfl) (Et.andC (b := true) (Et.neS (by walk_at "sl:ev") Ev.str (by kernel_rfl) rfl) Et.andZ))) (.nil ?_)
  refine Wk.set (k := .ref a) (Ev.tAt (j := 0) (i := 5) (by walk_at "sl:ev") rfl rfl rfl (by decide) rfl) (by kernel_rfl) (by rfl) ?_
  refine Wk.set (k := .ref a2) (Ev.tAt (j := 1) (i := 5) (by walk_at "sl:ev") rfl rfl rfl (by decide) rfl) (by kernel_rfl) (by rfl) ?_
  refine Wk.set (k := .int 64) (Ex.stT (j := 0) (f := 624) (by walk_at "sl:ev") rfl (fun _ _ _ _ _ _ _ _ _ => ⟨_, rfl, rfl⟩) (.cons (by walk_at "sl:ev") (.cons (by walk_at "sl:ev") .nil rfl) rfl) (t_size (ops := [a, a2]) (Nat.le_refl 2)) [false, true, true, false, false, true] rfl (fun u N1 y => by obtain ⟨e, d⟩ := y; subst e; exact ⟨rfl, d⟩) (by kernel_rfl)) (by kernel_rfl) (by rfl) ?_
  refine Wk.ifK (b := false) (Et.eqS (by walk_at "sl:ev") Ev.str (by kernel_rfl) rfl) ?_
  refine Wk.ifK (b := true) (Et.eqS (by walk_at "sl:ev") Ev.str (by kernel_rfl) rfl) ?_
  refine Wk.expr (Ex.stT (j := 0) (f := 638) (by walk_at "sl:ev") rfl (fun _ _ _ _ _ _ _ _ _ => ⟨_, rfl, rfl⟩) (.cons (by walk_at "sl:ev") (.cons (by walk_at "sl:ev") (.cons (Ex.stT (j := 0) (f := 631) (by walk_at "sl:ev") rfl (fun _ _ _ _ _ _ _ _ _ => ⟨_, rfl, rfl⟩) (.cons (by walk_at "sl:ev") (.cons (by walk_at "sl:ev") .nil rfl) rfl) (t_sread hr2) [true, false, false, true, true] rfl (fun u N1 y => by obtain ⟨e, d⟩ := y; subst e; exact ⟨rfl, d⟩) (by kernel_rfl)) .nil rfl) rfl) rfl) (t_swrite hr) [true, true, true] rfl (fun u N1 e => ?_) (by kernel_rfl)) (by rfl) (by rfl)
  subst e
  exact .nil (.nil (.ret (Ev.bool.use fun v d => ⟨d, rfl⟩)))
theorem t_pusho (hr : r < 16) (hn : n ≤ 90000) (hl : 4 < q.ns.length) : Tr G 6 (.ref 900) [.ref Z.st, .ref i] [StE G Z q n, RegF G ra r, OpF G a ra, TinF G i tp nmI [a]] fun v N' => N' = [StE G Z { q with ns := q.ns.set 4 ((q.ns.getD 4 0 - 8) % 18446744073709551616), f := wrN q.f ((q.ns.getD 4 0 - 8) % 18446744073709551616) (q.ns.getD r 0 % 18446744073709551616) 8 } (n + 8), RegF G ra r, OpF G a ra, TinF G i tp nmI [a]] := by
  refine fill_of G.X ?_; k_fill; intro _
  refine' Tr.enter [Str.ofString "state", Str.ofString "instruction"] ?ho ?hcd ?hb ?ok ?_
  case ho => k_is
  case hcd => k_is
  case hb =>
    intro s vs X h
    cases h with | cons r h => cases h with | cons r h => cases h; exact BindsTo.of_eq rfl
  case ok => kernel_rfl
  intro d
  show Wk _ [(Str.ofString "instruction", .ref i), (Str.ofString "state", .ref Z.st)] _ _ _
  dsimp only [HD.B75, HD.C75, HD.qB75, HD.qC75]
  refine Wk.set (k := .ref a) (Ev.tAt (j := 0) (i := 3) (by walk_at "sl:ev") rfl rfl rfl (by decide) rfl) (by kernel_rfl) (by rfl) ?_
  refine Wk.set (k := .int 64) (Ex.stT (j := 0) (f := 624) (by walk_at "sl:ev") rfl (fun _ _ _ _ _ _ _ _ _ => ⟨_, rfl, rfl⟩) (.cons (by walk_at "sl:ev") (.cons (by walk_at "sl:ev") .nil rfl) rfl) (t_size (ops := [a]) (Nat.le_succ 1)) [false, true, true, true] rfl (fun u N1 y => by obtain ⟨e, d⟩ := y; subst e; exact ⟨rfl, d⟩) (by kernel_rfl)) (by kernel_rfl) (by rfl) ?_
  refine Wk.expr (Ex.stT (j := 0) (f := 645) (by walk_at "sl:ev") rfl (fun _ _ _ _ _ _ _ _ _ => ⟨_, rfl, rfl⟩) (.cons (Ex.stT (j := 0) (f := 631) (by walk_at "sl:ev") rfl (fun _ _ _ _ _ _ _ _ _ => ⟨_, rfl, rfl⟩) (.cons (by walk_at "sl:ev") (.cons (by walk_at "sl:ev") .nil rfl) rfl) (t_sread hr) [true, true, true] rfl (fun u N1 y => by obtain ⟨e, d⟩ := y; subst e; exact ⟨rfl, d⟩) (by kernel_rfl)) (.cons (Ev.fdiv (v := 64) (w := 8) (by walk_at "sl:ev") Ev.int (by decide) rfl) .nil rfl) rfl) (t_push hn hl) [true] rfl (fun u N1 e => ?_) (by kernel_rfl)) (by rfl) (by rfl)
  subst e
  exact .nil rfl
theorem t_popo (hr : r < 16) : Tr G 6 (.ref 907) [.ref Z.st, .ref i] [StE G Z q n, RegF G ra r, OpF G a ra, TinF G i tp nmI [a]] fun v N' => N' = [StE G Z { q with ns := (q.ns.set 4 ((q.ns.getD 4 0 + 8) % 18446744073709551616)).set r (rdN q.f (q.ns.getD 4 0) 8 % 18446744073709551616) } n, RegF G ra r, OpF G a ra, TinF G i tp nmI [a]] := by
  refine fill_of G.X ?_; k_fill; intro _
  refine' Tr.enter [Str.ofString "state", Str.ofString "instruction"] ?ho ?hcd ?hb ?ok ?_
  case ho => k_is
  case hcd => k_is
  case hb =>
    intro s vs X h
    cases h with | cons r h => cases h with | cons r h => cases h; exact BindsTo.of_eq rfl
  case ok => kernel_rfl
  intro d
  show Wk _ [(Str.ofString "instruction", .ref i), (Str.ofString "state", .ref Z.st)] _ _ _
  dsimp only [HD.B76, HD.C76, HD.qB76, HD.qC76]
  refine Wk.set (k := .ref a) (Ev.tAt (j := 0) (i := 3) (by walk_at "sl:ev") rfl rfl rfl (by decide) rfl) (by kernel_rfl) (by rfl) ?_
  refine Wk.set (k := .int 64) (Ex.stT (j := 0) (f := 624) (by walk_at "sl:ev") rfl (fun _ _ _ _ _ _ _ _ _ => ⟨_, rfl, rfl⟩) (.cons (by walk_at "sl:ev") (.cons (by walk_at "sl:ev") .nil rfl) rfl) (t_size (ops := [a]) (Nat.le_succ 1)) [false, true, true, true] rfl (fun u N1 y => by obtain ⟨e, d⟩ := y; subst e; exact ⟨rfl, d⟩) (by kernel_rfl)) (by kernel_rfl) (by rfl) ?_
  refine Wk.assign (Ex.stT (j := 0) (f := 652) (by walk_at "sl:ev") rfl (fun _ _ _ _ _ _ _ _ _ => ⟨_, rfl, rfl⟩) (.cons (Ev.fdiv (v := 64) (w := 8) (by walk_at "sl:ev") Ev.int (by decide) rfl) .nil rfl) t_pop [true] rfl (fun u N1 y => ?_) (by kernel_rfl)) (by kernel_rfl) (by rfl)
  obtain ⟨e, d⟩ := y
  subst e
  refine ⟨_, d, Wk.expr (Ex.stT (j := 0) (f := 638) (by walk_at "sl:ev") rfl (fun _ _ _ _ _ _ _ _ _ => ⟨_, rfl, rfl⟩) (.cons (by walk_at "sl:ev") (.cons (by walk_at "sl:ev") (.cons (by walk_at "sl:ev") .nil rfl) rfl) rfl) (t_swrite hr) [true, true, true] rfl (fun u N1 e => ?_) (by kernel_rfl)) (by rfl) (by rfl)⟩
  subst e
  exact .nil rfl
end
section
variable {G : Gx} {rn : Nat} {c : Fx G rn} {m m' : Lm} {N N' N1 : List HP} {e e0 e1 e2 e3 o iter elt : PySem.Expr} {es args : List PySem.Expr} {k k1 k2 : AV} {ks : List AV} {x x2 nm : Str} {p p' p1 p2 p3 p4 pp pa pb pc pe pos : Pos} {K K' : Value → List HP → Prop} {P P' : Flow → Lm → List HP → Prop} {D : Lm → List HP → Prop} {rest body b1 b2 : List Stmt} {t : Sem Value} {a a2 ra ra2 i tp C f : Addr} {j n nr r r2 : Nat} {Q Q' : HP} {Z : Dz} {q : PS} {S : Sx} {ops : List Addr} {nmI : String} {b : Bool} {ins : Ins}
theorem Wk.ret0 (h : P (.ret .none) m N) : Wk c m N (.Return none p :: rest) P := fun h1 tk S => wpAny_execs_cons (wpAny_Return_none ⟨h1, tk, m, N, rfl, S, h⟩)
theorem flat_nils {α β : Type} : ∀ l : List α, (l.map fun _ => ([] : List β)).flatten = []
  | [] => rfl
  | _ :: l => flat_nils l
theorem all2_nils {z h : Heap} : ∀ {Fs : List HP}, (∀ F ∈ Fs, F.ok [] z h) → All2 (fun l P => HP.ok P l z h) (Fs.map fun _ => []) Fs
  | [], _ => .nil
  | F :: Fs, H => .cons (H F (.head _)) (all2_nils fun F h => H F (.tail _ h))
theorem Wk.also {β : Type} {φ : β → Prop} {Fs : β → List HP} (j : Nat) (hj : N[j]? = some Q) (H : ∀ l z h, Q.ok l z h → ∃ b, φ b ∧ ∀ F ∈ Fs b, F.ok [] z h) (hw : ∀ b, φ b → Wk c m (N ++ Fs b) rest P) : Wk c m N rest P := fun h tk S => by
  obtain ⟨f, z, ls, ag, X⟩ := S
  obtain ⟨l, ok, _⟩ := X.own.ok.get hj
  obtain ⟨b, hb, HF⟩ := H l z h ok
  have e : (ls ++ (Fs b).map fun _ => ([] : List Addr)).flatten = ls.flatten := by rw [List.flatten_append, flat_nils, List.append_nil]
  exact hw b hb h tk ⟨f, z, _, ag, X.F, ⟨X.own.zh, X.own.ok.append (all2_nils HF), e ▸ X.own.nd, e ▸ X.own.off⟩, e ▸ X.mv, e ▸ X.Ll, X.Lz⟩
theorem t_stack_no (h0 : (Str.ofString nmI == Str.ofString "push") = false) (h1 : (Str.ofString nmI == Str.ofString "pop") = false) (h2 : (Str.ofString nmI == Str.ofString "pushfq") = false) (h3 : (Str.ofString nmI == Str.ofString "popfq") = false) (h4 : (Str.ofString nmI == Str.ofString "leave") = false) : Tr G 1 (.ref 914) [.ref Z.st, .ref i] [TinF G i tp nmI ops] (Is (.bool false) [TinF G i tp nmI ops]) := by
  refine fill_of G.X ?_; k_fill; intro _
  refine' Tr.enter [Str.ofString "state", Str.ofString "instruction"] ?ho ?hcd ?hb ?ok ?_
  case ho => k_is
  case hcd => k_is
  case hb =>
    intro s vs X h
    cases h with | cons r h => cases h with | cons r h => cases h; exact BindsTo.of_eq rfl
  case ok => kernel_rfl
  intro d
  show Wk _ [(Str.ofString "instruction", .ref i), (Str.ofString "state", .ref Z.st)] _ _ _
  dsimp only [HD.B77, HD.C77, HD.qB77, HD.qC77]
  refine Wk.set (k := .str (Str.ofString nmI)) (Ev.tName (i := 0) (by walk_at "sl:ev") rfl rfl) (by kernel_rfl) (by rfl) ?_
  exact Wk.ifK (b := false) (Et.eqS (by walk_at "sl:ev") Ev.str h0 rfl) (Wk.ifK (b := false) (Et.eqS (by walk_at "sl:ev") Ev.str h1 rfl) (Wk.ifK (b := false) (Et.eqS (by walk_at "sl:ev") Ev.str h2 rfl) (Wk.ifK (b := false) (Et.eqS (by walk_at "sl:ev") Ev.str h3 rfl) (Wk.ifK (b := false) (Et.eqS (by walk_at "sl:ev") Ev.str h4 rfl) (.ret Ev.bool)))))
theorem t_stack_push (hr : r < 16) (hn : n ≤ 90000) (hl : 4 < q.ns.length) : Tr G 7 (.ref 914) [.ref Z.st, .ref i] [StE G Z q n, RegF G ra r, OpF G a ra, TinF G i tp "push" [a]] fun v N' => v = .bool true ∧ N' = [StE G Z (exec (.push r) q) (n + 8), RegF G ra r, OpF G a ra, TinF G i tp "push" [a]] := by
  refine fill_of G.X ?_; k_fill; intro _
  refine' Tr.enter [Str.ofString "state", Str.ofString "instruction"] ?ho ?hcd ?hb ?ok ?_
  case ho => k_is
  case hcd => k_is
  case hb =>
    intro s vs X h
    cases h with | cons r h => cases h with | cons r h => cases h; exact BindsTo.of_eq rfl
  case ok => kernel_rfl
  intro d
  show Wk _ [(Str.ofString "instruction", .ref i), (Str.ofString "state", .ref Z.st)] _ _ _
  dsimp only [HD.B77, HD.C77, HD.qB77, HD.qC77]
  refine Wk.set (k := .str (Str.ofString "push")) (Ev.tName (i := 3) (by walk_at "sl:ev") rfl rfl) (by kernel_rfl) (by rfl) ?_
  refine Wk.ifK (b := true) (Et.eqS (by walk_at "sl:ev") Ev.str (by kernel_rfl) rfl) (Wk.expr (Ex.callT (ks := [.ref Z.st, .ref i]) (by walk_at "sl:fn") (.cons (by walk_at "sl:ev") (.cons (by walk_at "sl:ev") .nil rfl) rfl) (t_pusho hr hn hl) [true, true, true, true] rfl (by kernel_rfl) fun u N1 e => ?_) (by rfl) (by rfl))
  subst e
  exact .nil (.ret (Ev.bool.use fun v d => ⟨d, rfl⟩))
theorem t_stack_pop (hr : r < 16) : Tr G 7 (.ref 914) [.ref Z.st, .ref i] [StE G Z q n, RegF G ra r, OpF G a ra, TinF G i tp "pop" [a]] fun v N' => v = .bool true ∧ N' = [StE G Z (exec (.pop r) q) n, RegF G ra r, OpF G a ra, TinF G i tp "pop" [a]] := by
  refine fill_of G.X ?_; k_fill; intro _
  refine' Tr.enter [Str.ofString "state", Str.ofString "instruction"] ?ho ?hcd ?hb ?ok ?_
  case ho => k_is
  case hcd => k_is
  case hb =>
    intro s vs X h
    cases h with | cons r h => cases h with | cons r h => cases h; exact BindsTo.of_eq rfl
  case ok => kernel_rfl
  intro d
  show Wk _ [(Str.ofString "instruction", .ref i), (Str.ofString "state", .ref Z.st)] _ _ _
  dsimp only [HD.B77, HD.C77, HD.qB77, HD.qC77]
  refine Wk.set (k := .str (Str.ofString "pop")) (Ev.tName (i := 3) (by walk_at "sl:ev") rfl rfl) (by kernel_rfl) (by rfl) ?_
  refine Wk.ifK (b := false) (Et.eqS (by walk_at "sl:ev") Ev.str (by kernel_rfl) rfl) (Wk.ifK (b := true) (Et.eqS (by walk_at "sl:ev") Ev.str (by kernel_rfl) rfl) (Wk.expr (Ex.callT (ks := [.ref Z.st, .ref i]) (by walk_at "sl:fn") (.cons (by walk_at "sl:ev") (.cons (by walk_at "sl:ev") .nil rfl) rfl) (t_popo hr) [true, true, true, true] rfl (by kernel_rfl) fun u N1 e => ?_) (by rfl) (by rfl)))
  subst e
  exact .nil (.nil (.ret (Ev.bool.use fun v d => ⟨d, rfl⟩)))
theorem t_target {v : Int} : Tr G 3 (.ref 921) [.ref Z.st, .ref a] [StE G Z q n, RelF G a v] (Is (.int ((q.rip + v) % 18446744073709551616)) [StE G Z q n, RelF G a v]) := by
  refine fill_of G.X ?_; k_fill; intro _
  refine' Tr.enter [Str.ofString "state", Str.ofString "operand"] ?ho ?hcd ?hb ?ok ?_
  case ho => k_is
  case hcd => k_is
  case hb =>
    intro s vs X h
    cases h with | cons r h => cases h with | cons r h => cases h; exact BindsTo.of_eq rfl
  case ok => kernel_rfl
  intro d
  show Wk _ [(Str.ofString "operand", .ref a), (Str.ofString "state", .ref Z.st)] _ _ _
  dsimp only [HD.B78, HD.C78, HD.qB78, HD.qC78]
  refine Wk.ifK (b := false) (Et.neS (y := "rel") (Ev.fz (C := 815) (i := 1) (by walk_at "sl:ev") rfl (fun z x => by
    obtain ⟨_, _, _, _, _, _, _, hI⟩ := x
    exact ⟨_, _, _, _, hI, rfl, rfl, _, rfl⟩) (by kernel_rfl)) Ev.str rfl rfl) (.nil ?_)
  refine Wk.ifK (b := false) (Et.neS (y := "") (Ev.fz (C := 815) (i := 1) (by walk_at "sl:ev") rfl (fun z x => by
    obtain ⟨_, _, _, _, _, _, _, hI⟩ := x
    exact ⟨_, _, _, _, hI, rfl, rfl, _, rfl⟩) (by kernel_rfl)) Ev.str rfl rfl) (.nil ?_)
  exact Wk.ret (Ev.wrap (by walk_at "sl:fn") (Ev.add (i := q.rip) (j := v) (Ev.rip (i := 0) (by walk_at "sl:ev") rfl rfl) (Ev.fz (C := 815) (i := 1) (by walk_at "sl:ev") rfl (fun z x => by
    obtain ⟨_, _, _, _, _, _, _, hI⟩ := x
    exact ⟨_, _, _, _, hI, rfl, rfl, _, rfl⟩) (by kernel_rfl))) Ev.int (by kernel_rfl))
theorem t_jump_call {v : Int} (hn : n ≤ 90000) (hl : 4 < q.ns.length) : Tr G 7 (.ref 942) [.ref Z.st, .ref i] [StE G Z q n, RelF G a v, TinF G i tp "call" [a]] fun u N' => u = .bool true ∧ N' = [StE G Z (exec (.call v) q) (n + 8), RelF G a v, TinF G i tp "call" [a]] := by
  refine fill_of G.X ?_; k_fill; intro _
  refine' Tr.enter [Str.ofString "state", Str.ofString "instruction"] ?ho ?hcd ?hb ?ok ?_
  case ho => k_is
  case hcd => k_is
  case hb =>
    intro s vs X h
    cases h with | cons r h => cases h with | cons r h => cases h; exact BindsTo.of_eq rfl
  case ok => kernel_rfl
  intro d
  show Wk _ [(Str.ofString "instruction", .ref i), (Str.ofString "state", .ref Z.st)] _ _ _
  dsimp only [HD.B81, HD.C81, HD.qB81, HD.qC81]
  refine Wk.set (k := .str (Str.ofString "call")) (Ev.tName (i := 2) (by walk_at "sl:ev") rfl rfl) (by kernel_rfl) (by rfl) ?_
  refine Wk.ifK (b := true) (Et.eqS (by walk_at "sl:ev") Ev.str (by kernel_rfl) rfl) ?_
  refine Wk.set (k := .int ((q.rip + v) % 18446744073709551616)) (Ex.callT (ks := [.ref Z.st, .ref a]) (by walk_at "sl:fn") (.cons (by walk_at "sl:ev") (.cons (Ev.tAt (j := 0) (i := 2) (by walk_at "sl:ev") rfl rfl rfl (by decide) rfl) .nil rfl) rfl) t_target [true, true] rfl (by kernel_rfl) fun u N1 y => by obtain ⟨e, d⟩ := y; subst e; exact ⟨rfl, d⟩) (by kernel_rfl) (by rfl) ?_
  refine Wk.expr (Ex.stT (j := 0) (f := 645) (by walk_at "sl:ev") rfl (fun _ _ _ _ _ _ _ _ _ => ⟨_, rfl, rfl⟩) (.cons (Ev.rip (i := 0) (by walk_at "sl:ev") rfl rfl) (.cons Ev.int .nil rfl) rfl) (t_push hn hl) [true] rfl (fun u N1 e => ?_) (by kernel_rfl)) (by rfl) (by rfl)
  subst e
  exact Wk.setRip (Z := Z) (j := 0) (Ev.use (k := .int ((q.rip + v) % 18446744073709551616)) (by walk_at "sl:ev") fun v d => ⟨_, _, _, rfl, d, .nil (.ret (Ev.bool.use fun v d => ⟨d, rfl⟩))⟩) (fun N => by walk_at "sl:ev") (by rfl)
theorem Ev.tLen (hf : Ev c m N (.Name x p') (.val (Value.builtin "len"))) (h1 : Ev c m N e (.ref a)) (hN : N[j]? = some (TinF G a tp nmI ops)) (hl : ops.length ≤ 1000) (hb : baseE e = true) : Ev c m N (.Call (.Name x p') [.Attribute e "operands" pa] [] p) (.int ops.length) :=
  Ex.callB hf (Xs.cons (Ev.ref (Ev.tOps h1 hN hb) (.nil fun h tk S => by
    obtain ⟨z, l, zh, x⟩ := S.get hN
    exact PyProof.Rows.len_tuple (s := c.at h tk) (TinF.tup zh x) (by rw [List.size_toArray, List.length_map]; omega) ⟨h, tk + 1 + 1, N, rfl, S, rfl, _, by rw [List.size_toArray, List.length_map]⟩)) rfl) rfl
theorem t_jump_ret : Tr G 7 (.ref 942) [.ref Z.st, .ref i] [StE G Z q n, TinF G i tp "ret" []] fun u N' => u = .bool true ∧ N' = [StE G Z (exec .ret q) n, TinF G i tp "ret" []] := by
  refine fill_of G.X ?_; k_fill; intro _
  refine' Tr.enter [Str.ofString "state", Str.ofString "instruction"] ?ho ?hcd ?hb ?ok ?_
  case ho => k_is
  case hcd => k_is
  case hb =>
    intro s vs X h
    cases h with | cons r h => cases h with | cons r h => cases h; exact BindsTo.of_eq rfl
  case ok => kernel_rfl
  intro d
  show Wk _ [(Str.ofString "instruction", .ref i), (Str.ofString "state", .ref Z.st)] _ _ _
  dsimp only [HD.B81, HD.C81, HD.qB81, HD.qC81]
  refine Wk.set (k := .str (Str.ofString "ret")) (Ev.tName (i := 1) (by walk_at "sl:ev") rfl rfl) (by kernel_rfl) (by rfl) ?_
  refine Wk.ifK (b := false) (Et.eqS (by walk_at "sl:ev") Ev.str (by kernel_rfl) rfl) (Wk.ifK (b := true) (Et.eqS (by walk_at "sl:ev") Ev.str (by kernel_rfl) rfl) ?_)
  refine Wk.setRip (Z := Z) (j := 0) (Ex.stT (j := 0) (f := 652) (by walk_at "sl:ev") rfl (fun _ _ _ _ _ _ _ _ _ => ⟨_, rfl, rfl⟩) (.cons Ev.int .nil rfl) t_pop [true] rfl (fun u N1 y => ?_) (by kernel_rfl)) (fun N => by walk_at "sl:ev") (by rfl)
  obtain ⟨e, d⟩ := y
  subst e
  exact ⟨_, _, _, rfl, d, Wk.ifK (b := false) (Et.eqI (i := 0) (j := 1) (Ev.tLen (j := 1) (ops := []) (by walk_at "sl:bi") (by walk_at "sl:ev") rfl (Nat.zero_le _) rfl) Ev.int rfl rfl) (.nil (.nil (.nil (.ret (Ev.bool.use fun v d => ⟨d, rfl⟩)))))⟩
end
section
variable {G : Gx} {rn : Nat} {c : Fx G rn} {m m' : Lm} {N N' N1 : List HP} {e e0 e1 e2 e3 o iter elt : PySem.Expr} {es args : List PySem.Expr} {k k1 k2 : AV} {ks : List AV} {x x2 nm : Str} {p p' p1 p2 p3 p4 pp pa pb pc pe pos : Pos} {K K' : Value → List HP → Prop} {P P' : Flow → Lm → List HP → Prop} {D : Lm → List HP → Prop} {rest body b1 b2 : List Stmt} {t : Sem Value} {a a2 ra ra2 i tp C f : Addr} {j n nr r r2 : Nat} {Q Q' : HP} {Z : Dz} {q : PS} {S : Sx} {ops : List Addr} {nmI : String} {b : Bool} {ins : Ins}
theorem Tx.deed {KB : Bool → List HP → Prop} {QQ : Value → List HP → Prop} (hf : Ev c m N (.Name x p') (.val (.ref f))) (h1 : Ev c m N e1 (.ref Z.st)) (h2 : Ev c m N e2 (.ref i)) (T : Tr G nr (.ref f) [.ref Z.st, .ref i] N1 QQ) (mk : List Bool) (hM : pickM mk N = N1) (ok : (decide (nr ≤ rn) && keepIn G.K (.ref f) && [e1, e2].all plainE) = true) (hp : (plainE e1 && plainE e2) = true) (hk : ∀ v N1', QQ v N1' → ∃ b, v = .bool b ∧ KB b (mergeM mk N1' N)) : Tx c m N (.Call (.Name x p') [e1, e2] [] p) KB := by
  rw [Bool.and_eq_true] at hp
  exact Tx.val (Ex.callT (ks := [.ref Z.st, .ref i]) hf (.cons h1 (.cons h2 .nil hp.2) hp.1) T mk hM ok hk) rfl
theorem t_transfer (hne : ins ≠ .hlt) (hn : n ≤ 90000) (hl : 4 < q.ns.length) : Tr G 8 (.ref 1064) [.ref Z.st, .ref i] [StE G Z q n, InsE G i ins] fun v N' => v = .bool true ∧ N' = [StE G Z (exec ins q) (n + 8), InsE G i ins] := by
  refine fill_of G.X ?_; k_fill; intro _
  refine' Tr.enter [Str.ofString "state", Str.ofString "instruction"] ?ho ?hcd ?hb ?ok ?_
  case ho => k_is
  case hcd => k_is
  case hb =>
    intro s vs X h
    cases h with | cons r h => cases h with | cons r h => cases h; exact BindsTo.of_eq rfl
  case ok => kernel_rfl
  intro d
  show Wk _ [(Str.ofString "instruction", .ref i), (Str.ofString "state", .ref Z.st)] _ _ _
  dsimp only [HD.B100, HD.C100, HD.qB100, HD.qC100]
  cases ins with
  | hlt => exact absurd rfl hne
  | push r =>
    refine Wk.also (β := Addr × Addr × Addr) (φ := fun _ => r < 16) (Fs := fun b => [RegF G b.2.1 r, OpF G b.1 b.2.1, TinF G i b.2.2 "push" [b.1]]) 1 rfl (fun l z h x => ?_) fun b hr => ?_
    · obtain ⟨_, hr, a, ra, h1, h2, h3⟩ := x
      obtain ⟨tp, h1⟩ := InsT.of h1
      exact ⟨(a, ra, tp), hr, List.forall_mem_cons.mpr ⟨⟨rfl, h3⟩, List.forall_mem_cons.mpr ⟨⟨rfl, h2⟩, List.forall_mem_cons.mpr ⟨⟨rfl, h1⟩, nofun⟩⟩⟩⟩
    exact Wk.into (Tx.or (Tx.deed (by walk_at "sl:fn") (by walk_at "sl:ev") (by walk_at "sl:ev") (t_move_no (by kernel_rfl) (by kernel_rfl) (by kernel_rfl) (by kernel_rfl)) [false, false, false, false, true] rfl (by kernel_rfl) rfl fun u N1 y => by
      obtain ⟨e, d⟩ := y
      subst e
      exact ⟨false, d, Tx.or (Tx.deed (by walk_at "sl:fn") (by walk_at "sl:ev") (by walk_at "sl:ev") (t_stack_push hr hn hl) [true, false, true, true, true] rfl (by kernel_rfl) rfl fun u N1 y => by
      obtain ⟨d, e⟩ := y
      subst e
      exact ⟨true, d, rfl, Wk.retS (Ev.bool.use fun v d => ⟨_, Sh.vs [false, false, true, true, true] .drops, nofun, d, rfl⟩)⟩)⟩))
  | pop r =>
    refine Wk.also (β := Addr × Addr × Addr) (φ := fun _ => r < 16) (Fs := fun b => [RegF G b.2.1 r, OpF G b.1 b.2.1, TinF G i b.2.2 "pop" [b.1]]) 1 rfl (fun l z h x => ?_) fun b hr => ?_
    · obtain ⟨_, hr, a, ra, h1, h2, h3⟩ := x
      obtain ⟨tp, h1⟩ := InsT.of h1
      exact ⟨(a, ra, tp), hr, List.forall_mem_cons.mpr ⟨⟨rfl, h3⟩, List.forall_mem_cons.mpr ⟨⟨rfl, h2⟩, List.forall_mem_cons.mpr ⟨⟨rfl, h1⟩, nofun⟩⟩⟩⟩
    exact Wk.into (Tx.or (Tx.deed (by walk_at "sl:fn") (by walk_at "sl:ev") (by walk_at "sl:ev") (t_move_no (by kernel_rfl) (by kernel_rfl) (by kernel_rfl) (by kernel_rfl)) [false, false, false, false, true] rfl (by kernel_rfl) rfl fun u N1 y => by
      obtain ⟨e, d⟩ := y
      subst e
      exact ⟨false, d, Tx.or (Tx.deed (by walk_at "sl:fn") (by walk_at "sl:ev") (by walk_at "sl:ev") (t_stack_pop hr) [true, false, true, true, true] rfl (by kernel_rfl) rfl fun u N1 y => by
      obtain ⟨d, e⟩ := y
      subst e
      exact ⟨true, d, rfl, Wk.retS (Ev.bool.use fun v d => ⟨_, (Sh.vs [false, false, true, true, true] .drops).trans (Sh.vs [true] (.imp fun l z h x => StE.up (Nat.le_add_right _ 8) x)), nofun, d, rfl⟩)⟩)⟩))
  | mov =>
    refine Wk.also (β := (Addr × Addr) × (Addr × Addr) × Addr) (φ := fun _ => True) (Fs := fun b => [RegF G b.1.2 5, OpF G b.1.1 b.1.2, RegF G b.2.1.2 4, OpF G b.2.1.1 b.2.1.2, TinF G i b.2.2 "mov" [b.1.1, b.2.1.1]]) 1 rfl (fun l z h x => ?_) fun b _ => ?_
    · obtain ⟨_, a, ra, a2, ra2, h1, h2, h3, h4, h5⟩ := x
      obtain ⟨tp, h1⟩ := InsT.of h1
      exact ⟨((a, ra), (a2, ra2), tp), trivial, List.forall_mem_cons.mpr ⟨⟨rfl, h3⟩, List.forall_mem_cons.mpr ⟨⟨rfl, h2⟩, List.forall_mem_cons.mpr ⟨⟨rfl, h5⟩, List.forall_mem_cons.mpr ⟨⟨rfl, h4⟩, List.forall_mem_cons.mpr ⟨⟨rfl, h1⟩, nofun⟩⟩⟩⟩⟩⟩
    exact Wk.into (Tx.or (Tx.deed (by walk_at "sl:fn") (by walk_at "sl:ev") (by walk_at "sl:ev") (t_move_mov (by decide) (by decide)) [true, false, true, true, true, true, true] rfl (by kernel_rfl) rfl fun u N1 y => by
      obtain ⟨d, e⟩ := y
      subst e
      exact ⟨true, d, rfl, Wk.retS (Ev.bool.use fun v d => ⟨_, (Sh.vs [false, false, true, true, true, true, true] .drops).trans (Sh.vs [true] (.imp fun l z h x => StE.up (Nat.le_add_right _ 8) x)), nofun, d, rfl⟩)⟩))
  | nop =>
    refine Wk.also (β := Addr) (φ := fun _ => True) (Fs := fun b => [TinF G i b "nop" []]) 1 rfl (fun l z h x => ?_) fun b _ => ?_
    · obtain ⟨tp, h1⟩ := InsT.of x.2
      exact ⟨tp, trivial, List.forall_mem_cons.mpr ⟨⟨rfl, h1⟩, nofun⟩⟩
    exact Wk.into (Tx.or (Tx.deed (by walk_at "sl:fn") (by walk_at "sl:ev") (by walk_at "sl:ev") (t_move_nop) [false, false, true] rfl (by kernel_rfl) rfl fun u N1 y => by
      obtain ⟨e, d⟩ := y
      subst e
      exact ⟨true, d, rfl, Wk.retS (Ev.bool.use fun v d => ⟨_, (Sh.vs [false, false, true] .drops).trans (Sh.vs [true] (.imp fun l z h x => StE.up (Nat.le_add_right _ 8) x)), nofun, d, rfl⟩)⟩))
  | call v =>
    refine Wk.also (β := Addr × Addr) (φ := fun _ => True) (Fs := fun b => [RelF G b.1 v, TinF G i b.2 "call" [b.1]]) 1 rfl (fun l z h x => ?_) fun b _ => ?_
    · obtain ⟨_, a, h1, h2⟩ := x
      obtain ⟨tp, h1⟩ := InsT.of h1
      exact ⟨(a, tp), trivial, List.forall_mem_cons.mpr ⟨⟨rfl, h2⟩, List.forall_mem_cons.mpr ⟨⟨rfl, h1⟩, nofun⟩⟩⟩
    exact Wk.skip (Tx.or (Tx.deed (by walk_at "sl:fn") (by walk_at "sl:ev") (by walk_at "sl:ev") (t_move_no (by kernel_rfl) (by kernel_rfl) (by kernel_rfl) (by kernel_rfl)) [false, false, false, true] rfl (by kernel_rfl) rfl fun u N1 y => by
      obtain ⟨e, d⟩ := y
      subst e
      exact ⟨false, d, Tx.or (Tx.deed (by walk_at "sl:fn") (by walk_at "sl:ev") (by walk_at "sl:ev") (t_stack_no (by kernel_rfl) (by kernel_rfl) (by kernel_rfl) (by kernel_rfl) (by kernel_rfl)) [false, false, false, true] rfl (by kernel_rfl) rfl fun u N1 y => by
      obtain ⟨e, d⟩ := y
      subst e
      exact ⟨false, d, Tx.orN ⟨rfl, Wk.into (Tx.or (Tx.deed (by walk_at "sl:fn") (by walk_at "sl:ev") (by walk_at "sl:ev") (t_jump_call hn hl) [true, false, true, true] rfl (by kernel_rfl) rfl fun u N1 y => by
      obtain ⟨d, e⟩ := y
      subst e
      exact ⟨true, d, rfl, Wk.retS (Ev.bool.use fun v d => ⟨_, Sh.vs [false, false, true, true] .drops, nofun, d, rfl⟩)⟩))⟩⟩)⟩))
  | ret =>
    refine Wk.also (β := Addr) (φ := fun _ => True) (Fs := fun b => [TinF G i b "ret" []]) 1 rfl (fun l z h x => ?_) fun b _ => ?_
    · obtain ⟨tp, h1⟩ := InsT.of x.2
      exact ⟨tp, trivial, List.forall_mem_cons.mpr ⟨⟨rfl, h1⟩, nofun⟩⟩
    exact Wk.skip (Tx.or (Tx.deed (by walk_at "sl:fn") (by walk_at "sl:ev") (by walk_at "sl:ev") (t_move_no (by kernel_rfl) (by kernel_rfl) (by kernel_rfl) (by kernel_rfl)) [false, false, true] rfl (by kernel_rfl) rfl fun u N1 y => by
      obtain ⟨e, d⟩ := y
      subst e
      exact ⟨false, d, Tx.or (Tx.deed (by walk_at "sl:fn") (by walk_at "sl:ev") (by walk_at "sl:ev") (t_stack_no (by kernel_rfl) (by kernel_rfl) (by kernel_rfl) (by kernel_rfl) (by kernel_rfl)) [false, false, true] rfl (by kernel_rfl) rfl fun u N1 y => by
      obtain ⟨e, d⟩ := y
      subst e
      exact ⟨false, d, Tx.orN ⟨rfl, Wk.into (Tx.or (Tx.deed (by walk_at "sl:fn") (by walk_at "sl:ev") (by walk_at "sl:ev") (t_jump_ret) [true, false, true] rfl (by kernel_rfl) rfl fun u N1 y => by
      obtain ⟨d, e⟩ := y
      subst e
      exact ⟨true, d, rfl, Wk.retS (Ev.bool.use fun v d => ⟨_, (Sh.vs [false, false, true] .drops).trans (Sh.vs [true] (.imp fun l z h x => StE.up (Nat.le_add_right _ 8) x)), nofun, d, rfl⟩)⟩))⟩⟩)⟩))
theorem t_done {dl : Addr} (hn : n ≤ 90000) (hl : 4 < q.ns.length) : Tr G 9 (.ref 680) [.ref Z.st, .ref i, .ref dl] [Ls true eAV dl [.ref 1064], StE G Z q n, InsE G i ins] fun v N' => N' = [Ls true eAV dl [.ref 1064], StE G Z (exec ins q) (n + 8), InsE G i ins] := by
  refine fill_of G.X ?_; k_fill; intro _
  refine' Tr.enter [Str.ofString "state", Str.ofString "instruction", Str.ofString "deeds"] ?ho ?hcd ?hb ?ok ?_
  case ho => k_is
  case hcd => k_is
  case hb =>
    intro s vs X h
    cases h with | cons r h => cases h with | cons r h => cases h with | cons r h => cases h; exact BindsTo.of_eq rfl
  case ok => kernel_rfl
  intro d
  show Wk _ [(Str.ofString "deeds", .ref dl), (Str.ofString "instruction", .ref i), (Str.ofString "state", .ref Z.st)] _ _ _
  dsimp only [HD.B50, HD.C50, HD.qB50, HD.qC50]
  by_cases hh : ins = .hlt
  · subst hh
    refine Wk.also (β := Addr) (φ := fun _ => True) (Fs := fun b => [TinF G i b "hlt" []]) 2 rfl (fun l z h x => ?_) fun b _ => ?_
    · obtain ⟨tp, h1⟩ := InsT.of x.2
      exact ⟨tp, trivial, List.forall_mem_cons.mpr ⟨⟨rfl, h1⟩, nofun⟩⟩
    exact Wk.ifK (b := true) (Et.eqS (Ev.tName (i := 3) (by walk_at "sl:ev") rfl rfl) Ev.str (by kernel_rfl) rfl) (Wk.setHalt (Z := Z) (j := 1) Ev.bool rfl (Wk.vs [false, true] (.imp fun l z h x => StE.up (Nat.le_add_right _ 8) x) (Wk.vs [false, false, false, true] .drop (.ret0 rfl))) (fun N => by walk_at "sl:ev") (by rfl))
  refine Wk.also (β := Addr × List Addr) (φ := fun _ => True) (Fs := fun b => [TinF G i b.1 ins.name b.2]) 2 rfl (fun l z h x => ?_) fun b _ => ?_
  · obtain ⟨ops, h1⟩ := InsW.at' x.2
    obtain ⟨tp, h1⟩ := InsT.of h1
    exact ⟨(tp, ops), trivial, List.forall_mem_cons.mpr ⟨⟨rfl, h1⟩, nofun⟩⟩
  refine Wk.ifK (b := false) (Et.eqS (Ev.tName (i := 3) (by walk_at "sl:ev") rfl rfl) Ev.str (by cases ins <;> first | exact absurd rfl hh | kernel_rfl) rfl) (.nil ?_)
  refine Wk.ifK (b := false) (Et.inWords (w := "ud2 int int3 syscall cpuid") (Ev.tName (i := 3) (by walk_at "sl:ev") rfl rfl) (Ev.glob rfl (by kernel_rfl) ⟨_, rfl⟩) (by decide) (by cases ins <;> kernel_rfl) rfl rfl) (.nil ?_)
  refine Wk.forA (ks := [.ref 1064]) (D := fun _ _ => False) (Ev.use (k := .ref dl) (by walk_at "sl:ev") fun v d => ⟨dl, 0, d, rfl, fun i' m N => i' = 0 ∧ m = [(Str.ofString "deeds", .ref dl), (Str.ofString "instruction", .ref i), (Str.ofString "state", .ref Z.st)] ∧ N = _, ⟨rfl, rfl, rfl⟩, ?_, ?_⟩) (fun _ _ h => h.elim) (by kernel_rfl) (by intro _; with_unfolding_all rfl)
  · rintro i' mi Ni It hi ⟨rfl, rfl, rfl⟩
    refine Wk.into (Tx.deed (by walk_at "sl:ev") (by walk_at "sl:ev") (by walk_at "sl:ev") (t_transfer hh hn hl) [false, false, true, true] rfl (by kernel_rfl) rfl fun u N1 y => ?_)
    obtain ⟨d, e⟩ := y
    subst e
    exact ⟨true, d, rfl, Wk.vs [false, false, false, false, true] .drop (.ret0 ⟨nofun, _, rfl, rfl⟩)⟩
  · rintro mi Ni ⟨e, _⟩
    exact nomatch e
theorem t_proceed {dl fo : Addr} {wd : Int} (hn : n ≤ 90000) (hl : 4 < q.ns.length) : Tr G 11 (.ref 687) [.ref Z.st, .ref fo, .ref dl] [Ls true eAV dl [.ref 1064], StE G Z q n, DecF G fo i wd, InsE G i ins] fun v N' => N' = [Ls true eAV dl [.ref 1064], StE G Z (exec ins { q with rip := (q.rip + wd) % 18446744073709551616 }) (n + 8), DecF G fo i wd, InsE G i ins] := by
  refine fill_of G.X ?_; k_fill; intro _
  refine' Tr.enter [Str.ofString "state", Str.ofString "found", Str.ofString "deeds"] ?ho ?hcd ?hb ?ok ?_
  case ho => k_is
  case hcd => k_is
  case hb =>
    intro s vs X h
    cases h with | cons r h => cases h with | cons r h => cases h with | cons r h => cases h; exact BindsTo.of_eq rfl
  case ok => kernel_rfl
  intro d
  show Wk _ [(Str.ofString "deeds", .ref dl), (Str.ofString "found", .ref fo), (Str.ofString "state", .ref Z.st)] _ _ _
  dsimp only [HD.B51, HD.C51, HD.qB51, HD.qC51]
  refine Wk.setBegin (Z := Z) (j := 1) (Ev.rip (i := 1) (by walk_at "sl:ev") rfl rfl) rfl ?_ (fun N => by walk_at "sl:ev") (by rfl)
  refine Wk.setRip (Z := Z) (j := 1) (Ev.use (Ev.wrap (by walk_at "sl:fn") (Ev.add (i := q.rip) (j := wd) (Ev.rip (i := 1) (by walk_at "sl:ev") rfl rfl) (Ev.fz (C := 262) (i := 2) (by walk_at "sl:ev") rfl (fun z x => by
    obtain ⟨_, _, _, _, _, _, hI⟩ := x
    exact ⟨_, _, _, _, hI, rfl, rfl, _, rfl⟩) (by kernel_rfl))) Ev.int (by kernel_rfl)) fun v d => ⟨_, _, _, rfl, d, ?_⟩) (fun N => by walk_at "sl:ev") (by rfl)
  refine Wk.try (Wk.expr (Ex.callT (ks := [.ref Z.st, .ref i, .ref dl]) (by walk_at "sl:fn") (.cons (by walk_at "sl:ev") (.cons (Ev.fz (C := 262) (i := 2) (by walk_at "sl:ev") rfl (fun z x => by
    obtain ⟨_, _, _, _, _, _, hI⟩ := x
    exact ⟨_, _, _, _, hI, rfl, rfl, rfl⟩) (by kernel_rfl)) (.cons (by walk_at "sl:ev") .nil rfl) rfl) rfl) (t_done (q := { q with rip := (q.rip + wd) % 18446744073709551616 }) hn hl) [true, true, false, true] rfl (by kernel_rfl) fun u N1 e => ?_) (by rfl) (by rfl))
  subst e
  exact .nil (.nil rfl)
theorem t_need (hh : q.halted = false) : Tr G 1 (.ref 694) [.ref Z.st] [StE G Z q n] fun v N' => N' = [StE G Z q n] := by
  refine fill_of G.X ?_; k_fill; intro _
  refine' Tr.enter [Str.ofString "state"] ?ho ?hcd ?hb ?ok ?_
  case ho => k_is
  case hcd => k_is
  case hb =>
    intro s vs X h
    cases h with | cons r h => cases h; exact BindsTo.of_eq rfl
  case ok => kernel_rfl
  intro d
  show Wk _ [(Str.ofString "state", .ref Z.st)] _ _ _
  dsimp only [HD.B52, HD.C52, HD.qB52, HD.qC52]
  exact Wk.ifK (b := false) (hh ▸ Et.val (Ev.halted (i := 0) (by walk_at "sl:ev") rfl rfl) rfl) (.nil (.nil rfl))
end
noncomputable def Dec (G : Gx) (f j : Addr) (ins : Ins) (wd : Int) : HP := ⟨fun l z _ => l = [] ∧ DecAt G.w z f j wd ∧ InsW G.w z j ins, fun ⟨e, r, q⟩ k _ => ⟨e, r.keeps k, q.keeps k⟩, fun ⟨e, _⟩ a ha => by rw [e] at ha; cases ha⟩
theorem open_dec {G : Gx} {v : Value} {ins : Ins} {wd : Int} : ∀ l z h, (Fact (eDec G.w) v (ins, wd)).ok l z h → ∃ b : Addr × Addr, v = .ref b.1 ∧ (Dec G b.1 b.2 ins wd).ok l z h := fun l z h ⟨e, f, j, ev, r, q⟩ => ⟨(f, j), ev, e, r, q⟩
section
variable {G : Gx} {rn : Nat} {c : Fx G rn} {m m' : Lm} {N N' N1 : List HP} {e e0 e1 e2 e3 o iter elt : PySem.Expr} {es args : List PySem.Expr} {k k1 k2 : AV} {ks : List AV} {x x2 nm : Str} {p p' p1 p2 p3 p4 pa pb pc pe pos : Pos} {K K' : Value → List HP → Prop} {P P' : Flow → Lm → List HP → Prop} {D : Lm → List HP → Prop} {rest body b1 b2 : List Stmt} {t : Sem Value} {a C f : Addr} {i j n : Nat} {Q Q' : HP} {Z : Dz} {q : PS} {cnt : Int} {lat : Str} {cs : List (Int × Int)} {fz fz2 : Bool} {b : Bool} {R : Value → List HP → Prop}
theorem Ex.dbCall0 (h1 : Ev c m N e (.ref Z.x)) (hN : N[i]? = some (DbE G Z cnt lat)) (T : Tr G n (.ref f) [.ref Z.x] N1 R) (mk : List Bool) (hmk : pickM mk N = N1) (hl : ∀ B : Bx, getL nm (B.es G.w.params Z cnt lat) = some none) (ok : (callOk G.K 234 nm f && methOk e pa p [] && decide (n ≤ rn)) = true) (hk : ∀ v N1', R v N1' → K v (mergeM mk N1' N)) : Ex c m N (.Call (.Attribute e nm pa) [] [] p) K := by
  rw [Bool.and_eq_true, decide_eq_true_eq] at ok
  exact .meth0 (C := 234) (f := f) h1 hN (fun l z h zh ⟨B, x⟩ => ⟨_, _, _, DbB.inst x, hl B⟩) (Sm.tr T ok.2 mk hmk (.cons rfl .nil) hk) ok.1
theorem Ex.dbCall (h1 : Ev c m N e (.ref Z.x)) (hN : N[i]? = some (DbE G Z cnt lat)) (ha : Evs c m N (e1 :: args) ks) (T : Tr G n (.ref f) (.ref Z.x :: ks) N1 R) (mk : List Bool) (hmk : pickM mk N = N1) (hl : ∀ B : Bx, getL nm (B.es G.w.params Z cnt lat) = some none) (ok : (callOk G.K 234 nm f && methOk e pa p (e1 :: args) && decide (n ≤ rn)) = true) (hk : ∀ v N1', R v N1' → K v (mergeM mk N1' N)) : Ex c m N (.Call (.Attribute e nm pa) (e1 :: args) [] p) K := by
  rw [Bool.and_eq_true, decide_eq_true_eq] at ok
  exact .meth (C := 234) (f := f) h1 hN (fun l z h zh ⟨B, x⟩ => ⟨_, _, _, DbB.inst x, hl B⟩) (Xs.of ha fun vs d => Sm.tr T ok.2 mk hmk (.cons rfl d) hk) ok.1
theorem Ev.decName {ins : Ins} {wd : Int} (h1 : Ev c m N e (.ref f)) (hN : N[i]? = some (Dec G f a ins wd)) (hb : baseE e = true) : Ev c m N (.Attribute (.Attribute e "instruction" pa) "name" p) (.str (Str.ofString ins.name)) :=
  .attrH (C := 868) (a := a) (.attrH (C := 262) h1 hN (fun l z h zh ⟨_, ⟨df, ka, kb, kc, kd, t2, hI⟩, _⟩ => ⟨_, _, _, _, inst_keep hI zh, rfl, rfl, rfl⟩) (by rw [hb, Bool.and_true]; kernel_rfl)) hN (fun l z h zh ⟨_, _, y⟩ => by
    obtain ⟨ops, hia⟩ := y.at'
    obtain ⟨di, kg, kh, ki, t5, t6, tp, nt, hIi, htp⟩ := hia
    exact ⟨_, _, _, _, inst_keep hIi zh, rfl, rfl, _, rfl⟩) (by kernel_rfl)
end
theorem t_step {G : Gx} {Z : Dz} {q q' : PS} {n : Nat} {cnt : Int} {lat : Str} {cs : List (Int × Int)} {ins : Ins} {wd : Int} (hq : q' = exec ins { q with rip := (q.rip + wd) % 18446744073709551616 }) (hh : q.halted = false) (hr : Z.row q.rip = some (ins, wd)) (hn : n ≤ 90000) (hcl : cs.length ≤ 10)
    (hret : ins = .ret → ∃ cs0, cs = cs0 ++ [(q'.rip, q.ns.getD 4 0)] ∧ q.ns.getD 4 0 < q'.ns.getD 4 0 ∧ (cs0 = [] ∨ ∃ c, cs0 = [c] ∧ q'.ns.getD 4 0 ≤ c.2)) :
    Tr G 14 (.ref 177) [.ref Z.x] [StE G Z q n, DbE G Z cnt lat, Ls false eCall Z.cl cs] fun v N' => (AV.str (Str.ofString (if q'.halted then "halted" else "step"))).den v ∧ N' = [StE G Z q' (n + 8), DbE G Z (cnt + 1) (Str.ofString ins.name), Ls false eCall Z.cl (nextCs ins cs q')] := by
  refine fill_of G.X ?_; k_fill; intro _
  refine' Tr.enter [Str.ofString "self"] ?ho ?hcd ?hb ?ok ?_
  case ho => k_is
  case hcd => k_is
  case hb =>
    intro s vs X h
    cases h with | cons r h => cases h; exact BindsTo.of_eq rfl
  case ok => kernel_rfl
  intro d
  show Wk _ [(Str.ofString "self", .ref Z.x)] _ _ _
  dsimp only [HD.B13_8, HD.C13_8, HD.qB13_8, HD.qC13_8]
  refine Wk.swap (names := [Str.ofString "before", Str.ofString "top"]) (Ex.tuple (.cons (Ex.dbCall0 (i := 1) (by walk_at "sl:ev") rfl t_seen [false, true] rfl (fun _ => rfl) (by kernel_rfl) fun v N1 ⟨ba, e1, e2⟩ => ?_) rfl)) (by rfl) (by rfl) (by kernel_rfl)
  subst e1 e2
  refine .cons ((Ev.regs (i := 0) (j := 4) (Ev.dbSt (i := 2) (by walk_at "sl:ev") rfl rfl) (Ev.glob (k := .int 4) rfl (by kernel_rfl) ⟨_, rfl⟩) rfl (by decide) rfl fun _ => rfl).use fun v2 d2 => .nil ⟨Nat.le_of_ble_eq_true rfl, fun ta => ⟨ta, _, [.ref ba, .int (q.ns.getD 4 0)], rfl, NF.fact (i := 0) rfl, .cons rfl (.cons d2 .nil), rfl, .vs [true] .drop ?_⟩⟩) rfl
  refine Wk.try (Wk.assign (Ex.adv (i := 2) (j := 0) (by walk_at "sl:ev") (Ev.dbSt (i := 2) (by walk_at "sl:ev") rfl rfl) rfl rfl hh hr hn (by kernel_rfl) fun v => ⟨.val v, rfl, .nil ?_⟩) (by kernel_rfl) (by rfl))
  rw [← hq]
  refine Wk.open 0 rfl open_dec fun b hv => ?_
  subst hv
  refine Wk.setCnt (j := 3) (Z := Z) ((Ev.add (Ev.dbCnt (i := 3) (by walk_at "sl:ev") rfl rfl) Ev.int).use fun v dv => ⟨cnt, lat, cnt + 1, rfl, dv, ?_⟩) (fun _ => by walk_at "sl:ev") (by rfl)
  refine Wk.setLat (j := 3) (Z := Z) ((Ev.decName (i := 0) (a := b.2) (by walk_at "sl:ev") rfl rfl).use fun v dv => ⟨cnt + 1, lat, Str.ofString ins.name, rfl, dv, .vs [true] .drop ?_⟩) (fun _ => by walk_at "sl:ev") (by rfl)
  refine Wk.ite (P' := fun f m' N' => f = .next ∧ SubL [(Str.ofString "before", .ref ba), (Str.ofString "self", .ref Z.x)] m' ∧ N' = [StE G Z q' (n + 8), Ls false eInt ba [], DbE G Z (cnt + 1) (Str.ofString ins.name), Ls false eCall Z.cl (nextCs ins cs q')]) ?_ (fun m' N' ⟨_, s, e⟩ => ?_) fun f m' N' hf y => absurd y.1 hf
  · by_cases hc : ∃ v, ins = .call v
    · obtain ⟨v, rfl⟩ := hc
      refine Tx.of (b := true) (Et.eqS (Ev.dbLat (i := 2) (by walk_at "sl:ev") rfl rfl) Ev.str rfl rfl) ?_
      refine Wk.set (k := .int (q'.ns.getD 4 0)) (Ev.regs (i := 0) (j := 4) (Ev.dbSt (i := 2) (by walk_at "sl:ev") rfl rfl) (Ev.glob (k := .int 4) rfl (by kernel_rfl) ⟨_, rfl⟩) rfl (by decide) rfl fun _ => rfl) (by kernel_rfl) (by rfl) ?_
      refine Wk.append (R := eCall) (i := 3) (Ev.dbCl (i := 2) (by walk_at "sl:ev") rfl rfl) rfl (Ex.tuple (.cons ((Ev.read (i := 0) (at_ := q'.ns.getD 4 0) (Ev.dbSt (i := 2) (by walk_at "sl:ev") rfl rfl) (by walk_at "sl:ev") Ev.int rfl (by kernel_rfl)).use fun v1 d1 => .cons (Ev.use (k := .int (q'.ns.getD 4 0)) (by walk_at "sl:ev") fun v2 d2 => .nil ⟨Nat.le_of_ble_eq_true rfl, fun a => ⟨_, .rfl', 4, cs, (rdN q'.f (q'.ns.getD 4 0) 8, q'.ns.getD 4 0), rfl, by omega, fun z ls h O => ?_, .vs [true] .drop (.nil ⟨rfl, ⟨rfl, rfl, trivial⟩, rfl⟩)⟩⟩) rfl) rfl)) rfl rfl rfl rfl
      obtain ⟨t1, rfl⟩ := d1
      obtain ⟨t2, rfl⟩ := d2
      obtain ⟨a', n', e, g⟩ := NF.fact (i := 0) rfl z ls h O
      cases e
      exact ⟨_, t1, t2, n', rfl, g⟩
    · by_cases hr2 : ins = .ret
      · subst hr2
        obtain ⟨cs0, rfl, h2, h3⟩ := hret rfl
        refine Tx.of (b := false) (Et.eqS (Ev.dbLat (i := 2) (by walk_at "sl:ev") rfl rfl) Ev.str rfl rfl) (Wk.ite (P' := fun f m' N' => f = .next ∧ _) (Tx.of (b := true) (Et.eqS (Ev.dbLat (i := 2) (by walk_at "sl:ev") rfl rfl) Ev.str rfl rfl) ?_) (fun _ _ y => .nil y) fun _ _ _ _ y => y)
        refine Wk.expr (Ex.dbCall (i := 2) (by walk_at "sl:ev") rfl (.cons (by walk_at "sl:ev") .nil rfl) (t_returned h2 h3) [true, false, true, true] rfl (fun _ => rfl) (by kernel_rfl) fun v N1 ⟨_, e⟩ => e ▸ .nil ⟨rfl, ⟨rfl, rfl, trivial⟩, ?_⟩) (by rfl) (by rfl)
        rw [show nextCs Ins.ret (cs0 ++ [(q'.rip, q.ns.getD 4 0)]) q' = cs0 from List.dropLast_concat]
        rfl
      · obtain ⟨e1, e2, e3⟩ : nextCs ins cs q' = cs ∧ (Str.ofString ins.name == Str.ofString "call") = false ∧ (Str.ofString ins.name == Str.ofString "ret") = false := by
          cases ins with
          | call v => exact absurd ⟨_, rfl⟩ hc
          | ret => exact absurd rfl hr2
          | _ => exact ⟨rfl, rfl, rfl⟩
        rw [e1]
        exact Tx.of (b := false) (Et.eqS (Ev.dbLat (i := 2) (by walk_at "sl:ev") rfl rfl) Ev.str e2 rfl) (Wk.ite (P' := fun f m' N' => f = .next ∧ _) (Tx.of (b := false) (Et.eqS (Ev.dbLat (i := 2) (by walk_at "sl:ev") rfl rfl) Ev.str e3 rfl) (.nil ⟨rfl, ⟨rfl, rfl, trivial⟩, rfl⟩)) (fun _ _ y => .nil y) fun _ _ _ _ y => y)
  · subst e
    refine .sub s (Wk.ite (P' := fun f m' N' => f = .next ∧ m' = [(Str.ofString "before", .ref ba), (Str.ofString "self", .ref Z.x)] ∧ N' = [StE G Z q' (n + 8), DbE G Z (cnt + 1) (Str.ofString ins.name), Ls false eCall Z.cl (nextCs ins cs q')]) (Tx.cmp (Ex.dbCall0 (i := 2) (by walk_at "sl:ev") rfl t_seen [false, false, true] rfl (fun _ => rfl) (by kernel_rfl) fun v N1 ⟨b2, e1, e2⟩ => ?_) rfl) (fun m' N' ⟨_, e1, e2⟩ => ?_) fun f m' N' hf y => absurd y.1 hf)
    · subst e1 e2
      exact Ev.ref (a := ba) (by walk_at "sl:ev") (Sm.cmpInts .NotEq (.inr rfl) (i := 2) (j := 1) (r := false) rfl rfl rfl ⟨false, rfl, .vs [false, true, true] .drops (.nil ⟨rfl, rfl, rfl⟩)⟩)
    · subst e1 e2
      refine Wk.ret (Ex.ite (Tx.of (b := q'.halted) (Et.val (Ev.halted (i := 0) (Ev.dbSt (i := 1) (by walk_at "sl:ev") rfl rfl) rfl rfl) rfl) ?_))
      cases q'.halted
      · exact Ev.str.use fun v dv => ⟨dv, rfl⟩
      · exact Ev.str.use fun v dv => ⟨dv, rfl⟩
section
variable {G : Gx} {rn : Nat} {c : Fx G rn} {m m' : Lm} {N N' N1 : List HP} {e e0 e1 e2 e3 o iter elt : PySem.Expr} {es args : List PySem.Expr} {k k1 k2 : AV} {ks : List AV} {x x2 nm : Str} {p p' p1 p2 p3 p4 pa pb pc pe pos : Pos} {K K' : Value → List HP → Prop} {P P' : Flow → Lm → List HP → Prop} {D : Lm → List HP → Prop} {rest body b1 b2 : List Stmt} {t : Sem Value} {a C f : Addr} {i j n : Nat} {Q Q' : HP} {Z : Dz} {q : PS} {cnt : Int} {lat : Str} {cs : List (Int × Int)} {fz fz2 : Bool} {b : Bool} {R : Value → List HP → Prop}
theorem Ex.callF0 (hf : Ev c m N (.Name x p') (.ref f)) (hF : ∀ h, Sa c m N h → FnAt f h) (hc : Sm c m N (PySem.call (.ref f) []) K) : Ex c m N (.Call (.Name x p') [] [] p) K := fun h tk S => by
  refine Call_ (Ev.goR hf S fun h' tk' S' => ?_)
  exact callWith_F0 (s := c.at h' tk') (first := []) (hF h' S') (hc h' tk' S')
end
noncomputable abbrev Dg (G : Gx) (Z : Dz) (d : DS) (n : Nat) : List HP := [StE G Z d.q n, DbE G Z d.cnt (Str.ofString d.lat), Ls false eCall Z.cl d.cs]
theorem t_led {G : Gx} {Z : Dz} {LH : HP} {lam : Addr} {ov : DS → Bool} {d : DS} {n mo n0 : Nat} {res : String} (W : ∀ d n, d.cs.length ≤ 11 → Tr G 3 (.ref lam) [] (LH :: Dg G Z d n) fun v N' => v = .bool (ov d) ∧ N' = LH :: Dg G Z d n) (hF : ∀ l z h, z.StaysIn h → LH.ok l z h → FnAt lam h)
    (n1 : 1 ≤ n) (n2 : n ≤ mo) (n3 : mo ≤ 150) (hgo : ∀ j, j < n → Legal Z.row (iter Z.row d j)) (hov : ∀ j, 0 < j → j < n → ov (iter Z.row d j) = false)
    (hend : ((iter Z.row d n).q.halted = true ∧ res = "halted") ∨ ((iter Z.row d n).q.halted = false ∧ ov (iter Z.row d n) = true ∧ res = "step") ∨ ((iter Z.row d n).q.halted = false ∧ ov (iter Z.row d n) = false ∧ n = mo ∧ res = "most"))
    (hn : n0 + 8 * n ≤ 90000) : Tr G 15 (.ref 184) [.ref Z.x, .int (mo : Int), .ref lam] (LH :: Dg G Z d n0) fun v N' => (AV.str (Str.ofString res)).den v ∧ N' = LH :: Dg G Z (iter Z.row d n) (n0 + 8 * n) := by
  refine fill_of G.X ?_; k_fill; intro _
  refine' Tr.enter [Str.ofString "self", Str.ofString "most", Str.ofString "is_over"] ?ho ?hcd ?hb ?ok ?_
  case ho => k_is
  case hcd => k_is
  case hb =>
    intro s vs X h
    cases h with | cons r h => cases h with | cons r h => cases h with | cons r h => cases h; exact BindsTo.of_eq rfl
  case ok => kernel_rfl
  intro fd
  show Wk _ [(Str.ofString "is_over", .ref lam), (Str.ofString "most", .int (mo : Int)), (Str.ofString "self", .ref Z.x)] _ _ _
  dsimp only [HD.B13_9, HD.C13_9, HD.qB13_9, HD.qC13_9]
  refine Wk.forX (D := fun m N => N = LH :: Dg G Z (iter Z.row d n) (n0 + 8 * n) ∧ res = "most") (by walk_at "sl:bi") (Ev.use (k := .int (mo : Int)) (by walk_at "sl:ev") fun v dv => ⟨mo, dv, by omega,
    fun j m N => m = [(Str.ofString "is_over", .ref lam), (Str.ofString "most", .int (mo : Int)), (Str.ofString "self", .ref Z.x)] ∧ N = LH :: Dg G Z (iter Z.row d j) (n0 + 8 * j) ∧ j ≤ n ∧ (j = n → n = mo ∧ res = "most"), ⟨rfl, rfl, Nat.zero_le _, fun e => by omega⟩, ?_, fun m N ⟨_, e, h1, h2⟩ => ?_⟩) (fun m N ⟨e1, e2⟩ => ?_) (by kernel_rfl)
  · rintro j mi Ni It hj ⟨rfl, rfl, hjn, hjm⟩
    have hlt : j < n := Nat.lt_of_le_of_ne hjn fun e => by have := (hjm e).1; omega
    obtain ⟨hh, hcl, ins, wd, hr, hret⟩ := hgo j hlt
    have hd : iter Z.row d (j + 1) = ⟨exec ins { (iter Z.row d j).q with rip := ((iter Z.row d j).q.rip + wd) % 18446744073709551616 }, nextCs ins (iter Z.row d j).cs (exec ins { (iter Z.row d j).q with rip := ((iter Z.row d j).q.rip + wd) % 18446744073709551616 }), (iter Z.row d j).cnt + 1, ins.name⟩ := by
      show dnext Z.row (iter Z.row d j) = _
      unfold dnext
      rw [hr]
    have hcl2 : (iter Z.row d (j + 1)).cs.length ≤ 11 := by
      rw [hd]
      show (nextCs ins _ _).length ≤ 11
      cases ins <;> simp only [nextCs, List.length_append, List.length_singleton, List.length_dropLast] <;> omega
    refine Wk.assign (Ex.dbCall0 (i := 3) (by walk_at "sl:ev") rfl (t_step rfl hh hr (by omega) hcl hret) [false, false, true, true, true] rfl (fun _ => rfl) (by kernel_rfl) fun v N1 ⟨dv, e⟩ => ⟨.str (Str.ofString (if (iter Z.row d (j + 1)).q.halted then "halted" else "step")), ?_, ?_⟩) (by kernel_rfl) (by rfl)
    · rw [hd]; exact dv
    · have e' : N1 = Dg G Z (iter Z.row d (j + 1)) (n0 + 8 * (j + 1)) := by rw [e, hd]; rfl
      subst e'
      show Wk _ _ (It :: LH :: Dg G Z (iter Z.row d (j + 1)) (n0 + 8 * (j + 1))) _ _
      generalize hdd : iter Z.row d (j + 1) = dd at *
      have hfin : j + 1 = n ∨ (j + 1 < n ∧ dd.q.halted = false ∧ ov dd = false) := by
        by_cases e : j + 1 = n
        · exact .inl e
        · have hl : j + 1 < n := by omega
          exact .inr ⟨hl, hdd ▸ (hgo (j + 1) hl).1, hdd ▸ hov (j + 1) (Nat.succ_pos _) hl⟩
      have hdn : j + 1 = n → dd = iter Z.row d n ∧ n0 + 8 * (j + 1) = n0 + 8 * n := fun e => ⟨by rw [← hdd, e], by rw [e]⟩
      cases hq : dd.q.halted with
      | true =>
        have hj1 : j + 1 = n := hfin.elim id fun z => by rw [hq] at z; exact absurd z.2.1 (by decide)
        obtain ⟨e1, e2⟩ := hdn hj1
        subst e1
        rw [e2]
        have hres : res = "halted" := by
          rcases hend with ⟨_, r⟩ | ⟨z, _⟩ | ⟨z, _⟩
          · exact r
          · rw [hq] at z; cases z
          · rw [hq] at z; cases z
        exact .into (Tx.of (b := true) (Et.neS (y := Str.ofString "halted") (by walk_at "sl:ev") Ev.str rfl rfl) ⟨rfl, Wk.ret (Ev.use (k := .str (Str.ofString "halted")) (by walk_at "sl:ev") fun v dv => ⟨nofun, _, rfl, hres ▸ dv, rfl⟩)⟩)
      | false =>
        refine .skip (Tx.of (b := false) (Et.neS (y := Str.ofString "step") (by walk_at "sl:ev") Ev.str rfl rfl) ⟨rfl, ?_⟩)
        have hFn : ∀ (c : Fx G 14) (m : Lm) (N' : List HP) (h : Heap), Sa c m (It :: LH :: N') h → FnAt lam h := fun c m N' h S => by
          obtain ⟨z, l, zh, x⟩ := S.get (i := 1) rfl
          exact hF l z h zh x
        cases ho : ov dd with
        | true =>
          have hj1 : j + 1 = n := hfin.elim id fun z => by rw [ho] at z; exact absurd z.2.2 (by decide)
          obtain ⟨e1, e2⟩ := hdn hj1
          subst e1
          rw [e2]
          have hres : res = "step" := by
            rcases hend with ⟨z, _⟩ | ⟨_, _, r⟩ | ⟨_, z, _⟩
            · rw [hq] at z; cases z
            · exact r
            · rw [ho] at z; cases z
          refine .into (Tx.val (Ex.callF0 (f := lam) (by walk_at "sl:ev") (hFn _ _ _) (Sm.tr (W _ _ hcl2) (by decide) [false, true, true, true, true] rfl .nil fun v N1 ⟨e1, e2⟩ => ⟨_, e1, ho, ?_⟩)) rfl)
          subst e2
          exact Wk.ret (Ev.str.use fun v dv => ⟨nofun, _, rfl, hres ▸ dv, rfl⟩)
        | false =>
          refine .skip (Tx.val (Ex.callF0 (f := lam) (by walk_at "sl:ev") (hFn _ _ _) (Sm.tr (W _ _ hcl2) (by decide) [false, true, true, true, true] rfl .nil fun v N1 ⟨e1, e2⟩ => ⟨_, e1, ho, ?_⟩)) rfl)
          subst e2
          refine .skip (Tx.val (Ex.dbCall0 (i := 3) (by walk_at "sl:ev") rfl t_met [false, false, true, true, false] rfl (fun _ => rfl) (by kernel_rfl) fun v N1 ⟨e1, e2⟩ => ⟨_, e1, rfl, ?_⟩) rfl)
          subst e2
          refine .nil ⟨_, rfl, _, ⟨rfl, by rw [hdd]; rfl, by omega, fun e => ?_⟩, rfl, rfl, rfl, trivial⟩
          obtain ⟨e1, _⟩ := hdn e
          rw [← e1] at hend
          rcases hend with ⟨z, _⟩ | ⟨_, z, _⟩ | ⟨_, _, r⟩
          · rw [hq] at z; cases z
          · rw [ho] at z; cases z
          · exact r
  · obtain rfl : mo = n := by omega
    exact ⟨e, (h2 rfl).2⟩
  · subst e1 e2
    exact Wk.ret (Ev.str.use fun v dv => ⟨dv, rfl⟩)
section
variable {prog : Program} {w : World} {A : Around} {s : Shared} {p : Program} {loose : List Str} {mg mb : Str → Option Value}
theorem make_lambda {Q E : Value → Shared → Prop} {g : Heap} {L a c P : Addr} {m : Str → Option Value} {cn : Str} {cs : Scope} {ccd : Value} {cl clos : List (Str × Addr)} {news : List (Addr × Obj)} {params : Arguments} {body : PySem.Expr} {scope : Scope} {pos : Pos} {ps : Array Value}
    (T : TopRead p loose mg mb g) (B : BMain mg g) (F : Fr g L s.heap m) (N : News g L s.heap news) (hm : (P, tabObj ps) ∈ news) (C : CodeHd g c P) (hcd : ccd = .ref c)
    (hps : ps = #[] ∨ ∃ c0, ps = #[rawInt pos.line, rawInt pos.col, .ref c0] ∧ s.heap.CodeRec (.ref c0) ((envX cn cs L a ccd cl).qual ++ "<lambda>"))
    (hcl : closureFor scope (envX cn cs L a ccd cl) = pure clos) (hdef : defaultsOf params (envX cn cs L a ccd cl) = ([], []))
    (h : ∀ f c' ctv h' tk, ModA s.heap h' [P] → h'.get? P = some (tabObj #[rawInt pos.line, rawInt pos.col, .ref c']) →
      h'.get? f = some (kla_obj "<lambda>" ((envX cn cs L a ccd cl).qual ++ "<lambda>") params body scope clos ((mg "__name__").getD .none) c' ctv) → h'.CodeRec (.ref c') ((envX cn cs L a ccd cl).qual ++ "<lambda>") → s.heap.objs.size ≤ f → (s.heap.objs.size ≤ c' ∨ ps = #[rawInt pos.line, rawInt pos.col, .ref c']) → Q (.ref f) { s with heap := h', toks := tk }) :
    wpAny (model prog w) A (eval (.Lambda params body scope pos) (envX cn cs L a ccd cl)) Q E s := by
  have hP := (N _ hm).1
  rcases hps with rfl | ⟨c0, rfl, hrec⟩
  · exact mk_lambda T B F N hm C hcd True.intro rfl hcl hdef fun f c' ctv h' tk a1 a2 a3 a4 a5 a6 => h f c' ctv h' tk a1 a2 a3 a4 a6 (.inl a5)
  · have hgs := T.g.keeps F.keep
    obtain ⟨bm, ob, b1, b2, b3, b4, b5, b6⟩ := B
    have hbP : bm ≠ P := fun q => by
      have e := F.keep _ _ b3
      rw [q, hP] at e; cases e; cases b4
    have hbG : bm ≠ mainGlobals := fun q => by
      obtain ⟨o, es, ep, e, hd, _⟩ := T.g
      rw [q, e] at b3; cases b3; rw [hd] at b6; cases b6
    refine kla_eval hdef (kla_makeFunctionHit (mg := mg) (cv := .ref c0) hcl rfl hgs hcd (C.keeps F.keep) hP (by simp [TriplesOk, rawInt]) (by simp [codeAmong, rawInt]) ⟨bm, ob, b1, b2, hbG, hbP, F.keep _ _ b3, b4, b5, b6⟩ fun ctv h' tk hk hsz => ?_)
    exact h h'.objs.size c0 ctv _ tk ⟨fun b o e _ => Heap.get?_push_of_some _ (hk b o e), by rw [Heap.size_push]; exact Nat.le_succ_of_le hsz⟩ (Heap.get?_push_of_some _ (hk _ _ hP)) (Heap.get?_push_size _ rfl) ((hrec.keeps hk).push _) hsz (.inr rfl)
end
noncomputable def TabE (P : Addr) (line col : Nat) (qual : Str) : HP := ⟨fun l z h => l = [P] ∧ ∃ ps, h.get? P = some (tabObj ps) ∧ (ps = #[] ∨ ∃ c0, ps = #[rawInt line, rawInt col, .ref c0] ∧ z.CodeRec (.ref c0) qual),
  fun ⟨e, ps, g, r⟩ kz kh => ⟨e, ps, kh _ (e ▸ .head _) _ g, r.imp id fun ⟨c0, e, r⟩ => ⟨c0, e, r.keeps kz⟩⟩, fun ⟨e, ps, g, _⟩ a ha => by rw [e] at ha; exact List.mem_singleton.mp ha ▸ ⟨_, g⟩⟩
noncomputable def LamF (G : Gx) (f c' : Addr) (qual : Str) (params : Arguments) (body : PySem.Expr) (scope : Scope) (clos : List (Str × Addr)) : HP :=
  ⟨fun l z _ => l = [] ∧ (∃ ctv, z.get? f = some (kla_obj "<lambda>" qual params body scope clos ((G.mg "__name__").getD .none) c' ctv)) ∧ z.CodeRec (.ref c') qual, fun ⟨e, ⟨ctv, g⟩, r⟩ kz _ => ⟨e, ⟨ctv, kz _ _ g⟩, r.keeps kz⟩, fun ⟨e, _⟩ a ha => by rw [e] at ha; cases ha⟩
noncomputable def HP.two (P Q : HP) : HP := ⟨fun l z h => P.ok l z h ∧ Q.ok l z h, fun ⟨a, b⟩ kz kh => ⟨P.mono a kz kh, Q.mono b kz kh⟩, fun ⟨a, _⟩ => P.has a⟩
section
variable {G : Gx} {rn : Nat} {c : Fx G rn} {m m' : Lm} {N N' N1 : List HP} {e e0 e1 e2 e3 o : PySem.Expr} {es args : List PySem.Expr} {k k1 k2 : AV} {ks : List AV} {x x2 nm : Str} {p p' pos : Pos} {K K' : Value → List HP → Prop} {P P' : Flow → Lm → List HP → Prop} {body : PySem.Expr} {a C f Pt cd : Addr} {i j n : Nat} {Q Q' : HP} {scope : Scope} {clos : List (Str × Addr)} {params : Arguments} {b : Bool}
theorem Ex.lambda (hj : N[j]? = some (TabE Pt pos.line pos.col (c.env.qual ++ "<lambda>"))) (hB : BMain G.mg G.hb) (hC : CodeHd G.hb cd Pt) (hcd : c.st.cd = .ref cd) (hcl : closureFor scope c.env = pure clos) (hdef : defaultsOf params c.env = ([], []))
    (hk : ∀ f c', K (.ref f) (mergeM (mkAt j) [LamF G f c' (c.env.qual ++ "<lambda>") params body scope clos, TabE Pt pos.line pos.col (c.env.qual ++ "<lambda>")] N)) : Ex c m N (.Lambda params body scope pos) K := fun h tk ⟨fm, z, ls, ag, X⟩ => by
  obtain ⟨ls1, O, hL1, k⟩ := X.go (mkAt j)
  rw [pick_at j N hj] at O
  obtain ⟨l, rfl, el, ps, g, hps⟩ := O.one
  subst el
  have zP : z.get? Pt = none := O.off Pt (.head _)
  have hPL : Pt ≠ c.L := fun q => hL1 (q ▸ .head _)
  have gz : G.hb.StaysIn z := fun b o e => X.mv.zz b o (c.d.hz b o e)
  have gP : G.hb.get? Pt = none := by
    cases e : G.hb.get? Pt with
    | none => rfl
    | some o => rw [gz _ _ e] at zP; cases zP
  have N0 : News G.hb c.L h [(Pt, tabObj ps)] := fun q hq => by rw [List.mem_singleton.mp hq]; exact ⟨g, hPL, gP⟩
  refine make_lambda (s := c.at h tk) G.T hB X.F N0 (.head _) hC hcd (hps.imp id fun ⟨c0, e, r⟩ => ⟨c0, e, r.keeps X.own.zh⟩) hcl hdef fun f c' ctv h' tk' M g1 g2 g3 fn cn => ?_
  have zh : z.StaysIn h' := fun b o e => M.keep b o (X.own.zh b o e) fun q => by rw [List.mem_singleton.mp q, zP] at e; cases e
  obtain ⟨oL, es, ep, eL, rL⟩ := X.F.ns
  have hn : h.get? f = none := Heap.get?_none_of_le fn
  have zf : ∀ a, a = f ∨ a = c' → (∃ o, z.get? a = some o) ∨ h.get? a = none := fun a ha => by
    rcases ha with rfl | rfl
    · exact .inr hn
    · rcases cn with cn | cn
      · exact .inr (Heap.get?_none_of_le cn)
      · rcases hps with e | ⟨c0, e, r⟩
        · rw [e] at cn; cases cn
        · rw [e] at cn
          have e2 : c0 = a := by simpa using cn
          obtain ⟨c1, o1, vs, tt, e1, e2', _⟩ := r
          cases e1
          exact .inl ⟨o1, e2 ▸ e2'⟩
  have offz : ∀ a, z.get? a = none → (∃ o, h.get? a = some o) → (zAdd z h' fun a => a = f ∨ a = c').get? a = none := fun a e1 ⟨o, e2⟩ => by
    cases e : (zAdd z h' fun a => a = f ∨ a = c').get? a with
    | none => rfl
    | some o' =>
      rcases (zAdd_of e).2 with ⟨o3, e3⟩ | u
      · rw [e1] at e3; cases e3
      · rcases zf a u with ⟨o3, e3⟩ | e3
        · rw [e1] at e3; cases e3
        · rw [e2] at e3; cases e3
  have rec' : (zAdd z h' fun a => a = f ∨ a = c').CodeRec (.ref c') (c.env.qual ++ "<lambda>") := by
    obtain ⟨c1, o1, vs, tt, e1, e2, r⟩ := g3
    cases e1
    exact ⟨_, o1, vs, tt, rfl, zAdd_in e2 (.inr (.inr rfl)), r⟩
  obtain ⟨ls', X'⟩ := k (f' := fm) (z' := zAdd z h' fun a => a = f ∨ a = c') (h' := h') (ls1' := [[], [Pt]]) (N1' := [LamF G f c' (c.env.qual ++ "<lambda>") params body scope clos, TabE Pt pos.line pos.col (c.env.qual ++ "<lambda>")])
    (moda_fr X.F M fun a ha => by rw [List.mem_singleton.mp ha]; exact ⟨gP, hPL⟩)
    ⟨fun b o e => (zAdd_of e).1, .cons ⟨rfl, ⟨ctv, zAdd_in g2 (.inr (.inl rfl))⟩, rec'⟩ (.cons ⟨rfl, _, g1, .inr ⟨c', rfl, rec'⟩⟩ .nil), O.nd, fun a ha => by rw [List.mem_singleton.mp ha]; exact offz _ zP ⟨_, g⟩⟩
    ⟨zAdd_z zh, fun b o e hb => M.keep b o e fun q => hb (.tail _ q), fun a q => q.elim (fun ⟨o, e⟩ => (zAdd_of e).2.elim .inl fun u => (zf a u).imp id .inr) fun q => .inr (.inl (.tail _ q))⟩ hL1 (offz _ X.Lz ⟨_, eL⟩)
  exact ⟨h', tk', _, rfl, ⟨fm, _, ls', ag, X'⟩, hk f c'⟩
theorem Tr.enterL {n : Nat} {f c' : Addr} {qual : Str} {params : Arguments} {args : List AV} {LH : HP} {Q : Value → List HP → Prop} (names : List Str) (hL : ∀ l z h, LH.ok l z h → (LamF G f c' qual params body scope clos).ok l z h)
    (hbind : ∀ vs pm ctv, All2 AV.den args vs → bindArgs (kla_fn "<lambda>" qual params body scope clos pm (.ref c') ctv) ⟨vs, []⟩ = pure (names.zip vs))
    (ok : (names.all (fun x => scope.names.lookup x == some .local) && scope.names.all (fun x => x.2 != .cell) && !scope.isCoroutine && !scope.isGenerator && scope.kind == .function) = true)
    (h : ∀ d : Fd G n, Ex ⟨⟨qual, scope, f, .ref c', fun _ => clos⟩, d⟩ (names.zip args).reverse (LH :: N) body Q) : Tr G (n + 1) (.ref f) args (LH :: N) Q := fun A s z ls vs rm hz hs O ha => by
  simp only [Bool.and_eq_true, Bool.not_eq_true', beq_iff_eq] at ok
  obtain ⟨X, T⟩ := fst_base hz O
  obtain ⟨l, x, _⟩ := O.ok.get (i := 0) rfl
  obtain ⟨_, ⟨ctv, ho⟩, hcd⟩ := hL _ _ _ x
  refine wpAny_call ?_
  refine kla_callFunE rm.lt (O.zh _ _ ho) rfl ok.1.1.2 ok.1.2 rfl (hcd.keeps O.zh) ?_
  rw [hbind vs _ ctv ha]
  refine wpAny_pure (wpAny_newFunctionEnv (fun x hx => by simpa using List.all_eq_true.mp ok.1.1.1.2 x hx) (fun y hy => by simpa using List.all_eq_true.mp ok.1.1.1.1 y.1 (List.of_mem_zip (show (y.1, y.2) ∈ _ from hy)).1) (fun h₁ hns hsb => ⟨T.nolimit.fresh _ hsb, ?_⟩) ok.2)
  have hk₁ : ∀ b o, s.heap.get? b = some o → h₁.get? b = some o := fun b o e => hsb.extBut b o (Nat.ne_of_lt (Heap.lt_size e)) (Heap.get?_push_of_some _ e)
  have hL : s.heap.get? s.heap.objs.size = none := Heap.get?_none_of_le (Nat.le_refl _)
  have zL : z.get? s.heap.objs.size = none := by
    cases e : z.get? s.heap.objs.size with
    | none => rfl
    | some o => rw [O.zh _ _ e] at hL; cases hL
  refine kla_codeExpr (wpAny_mono (h ⟨A.deeper _, rm.deeper _, s, z, ls.flatten, hz, s.heap.objs.size, Nat.le_refl _⟩ h₁ _ ⟨_, z, ls, (List.append_nil _ ▸ agree_of (f0 := fun _ => none) (m0 := []) ha fun _ _ e => nomatch e : Agr _ _), ⟨⟨by simpa using hns, fun b o e => hk₁ b o (O.zh b o (hz b o e)), hs⟩, ⟨fun b o e => hk₁ b o (O.zh b o e), O.ok.move (fun _ _ e => e) fun a _ o e => hk₁ a o e, O.nd, O.off⟩, ⟨fun _ _ e => e, fun b o e _ => hk₁ b o e, fun _ x => x.imp id .inl⟩, fun hm => ?_, zL⟩⟩) (fun v s' y => ?_) fun _ _ y => y.elim)
  · obtain ⟨o, e⟩ := O.ok.has _ hm
    exact absurd (Heap.lt_size e) (Nat.lt_irrefl _)
  · obtain ⟨h', tk', N', e, ⟨f', z', ls', ag, X'⟩, q⟩ := y
    subst e
    exact ⟨h', tk', z', ls', N', rfl, X'.own, X'.mv, q⟩
theorem LamF.fn {c' : Addr} {qual : Str} {l : List Addr} {z h : Heap} (zh : z.StaysIn h) (x : (LamF G f c' qual params body scope clos).ok l z h) : FnAt f h := by
  obtain ⟨_, ⟨ctv, g⟩, _⟩ := x
  exact ⟨_, _, _, _, zh _ _ g⟩
theorem Ev.andV {b1 b2 : Bool} (h1 : Ev c m N e1 (.bool b1)) (h2 : Ev c m N e2 (.bool b2)) : Ev c m N (.BoolOp .And [e1, e2] p) (.bool (b1 && b2)) := fun h tk S =>
  BoolOp_and (Ev.go h1 S fun v h' tk' S' d => by
    cases d
    refine wpAny_truthy_bool ?_
    cases b1
    · exact ⟨h', tk', _, rfl, S', rfl, rfl⟩
    · exact BoolOp_one (h2 h' tk' S'))
theorem Ent.two {P Q : HP} (hP : ∀ l z h, P.ok l z h → l = []) (hQ : ∀ l z h, Q.ok l z h → l = []) : Ent [P, Q] [.two P Q] := fun z ls h O => by
  have ok := O.ok
  cases ok with | cons r1 ok => cases ok with | cons r2 ok =>
  cases ok
  have e1 := hP _ _ _ r1
  have e2 := hQ _ _ _ r2
  subst e1 e2
  exact ⟨z, [[]], ⟨O.zh, .cons ⟨r1, r2⟩ .nil, List.nodup_nil, fun _ q => nomatch q⟩, fun _ _ e => e, fun _ _ e _ => e, fun a q => q.imp id fun q => nomatch q⟩
end
noncomputable abbrev lamQ (q : String) : Str := Str.ofString q ++ ".<locals>." ++ "<lambda>"
section
variable {G : Gx} {rn : Nat} {c : Fx G rn} {m : Lm} {N : List HP} {e e1 : PySem.Expr} {args : List PySem.Expr} {nm : Str} {p pa : Pos} {K : Value → List HP → Prop} {f : Addr} {i : Nat} {Z : Dz} {cnt : Int} {lat : Str}
theorem Ex.dbCallX (h1 : Ev c m N e (.ref Z.x)) (hN : N[i]? = some (DbE G Z cnt lat)) (hl : ∀ B : Bx, getL nm (B.es G.w.params Z cnt lat) = some none) (ha : Xs c m N (e1 :: args) fun vs N' => Sm c m N' (PySem.call (.ref f) (.ref Z.x :: vs)) K) (ok : (callOk G.K 234 nm f && methOk e pa p (e1 :: args)) = true) : Ex c m N (.Call (.Attribute e nm pa) (e1 :: args) [] p) K :=
  .meth (C := 234) (f := f) h1 hN (fun l z h zh ⟨B, x⟩ => ⟨_, _, _, DbB.inst x, hl B⟩) ha ok
end
theorem t_go {G : Gx} {Z : Dz} {d : DS} {mo n0 : Nat} (hB : BMain G.mg G.hb) (hC : CodeHd G.hb 190 186) (n1 : 1 ≤ mo) (n3 : mo ≤ 150) (hgo : ∀ j, j < mo → Legal Z.row (iter Z.row d j)) (hend : (iter Z.row d mo).q.halted = false) (hn : n0 + 8 * mo ≤ 90000) :
    Tr G 16 (.ref 191) [.ref Z.x, .int (mo : Int)] (TabE 186 108 30 (lamQ "Debugger.go") :: Dg G Z d n0) fun v N' => (AV.str (Str.ofString "most")).den v ∧ N' = TabE 186 108 30 (lamQ "Debugger.go") :: Dg G Z (iter Z.row d mo) (n0 + 8 * mo) := by
  refine fill_of G.X ?_; k_fill; intro _
  refine' Tr.enter [Str.ofString "self", Str.ofString "most"] ?ho ?hcd ?hb ?ok ?_
  case ho => k_is
  case hcd => k_is
  case hb =>
    intro s vs X h
    cases h with | cons r h => cases h with | cons r h => cases h; exact BindsTo.of_eq rfl
  case ok => kernel_rfl
  intro fd
  show Wk _ [(Str.ofString "most", .int (mo : Int)), (Str.ofString "self", .ref Z.x)] _ _ _
  dsimp only [HD.B13_10, HD.C13_10, HD.qB13_10, HD.qC13_10]
  refine Wk.retS (Ex.dbCallX (f := 184) (i := 2) (by walk_at "sl:ev") rfl (fun _ => rfl) (.cons (Ev.use (k := .int (mo : Int)) (by walk_at "sl:ev") fun v1 d1 => .cons (Ex.lambda (j := 0) (Pt := 186) (cd := 190) (clos := []) rfl hB hC rfl rfl rfl fun f c' => .nil (Sm.tr (t_led (ov := fun _ => false) (n := mo) (mo := mo) (res := "most") (fun d n _ => Tr.enterL [] (fun _ _ _ x => x) (fun vs pm ctv h => by cases h; rfl) (by kernel_rfl) fun dd => Ev.bool.use fun v dv => ⟨dv, rfl⟩) (fun l z h zh x => LamF.fn zh x) n1 (Nat.le_refl _) n3 hgo (fun _ _ _ => rfl) (.inr (.inr ⟨hend, rfl, rfl, rfl⟩)) hn) (by decide) [true, false, true, true, true] rfl (.cons rfl (.cons d1 (.cons rfl .nil))) fun v N1 ⟨dv, e⟩ => ?_)) rfl) rfl) (by kernel_rfl))
  subst e
  exact ⟨_, .vs [true] .drop, dv, rfl⟩
theorem t_step_over {G : Gx} {Z : Dz} {d : DS} {n mo n0 : Nat} {res : String} (hB : BMain G.mg G.hb) (hC : CodeHd G.hb 204 200) (n1 : 1 ≤ n) (n2 : n ≤ mo) (n3 : mo ≤ 150) (hc0 : d.cs.length ≤ 11) (hgo : ∀ j, j < n → Legal Z.row (iter Z.row d j)) (hov : ∀ j, 0 < j → j < n → decide ((iter Z.row d j).cs.length ≤ d.cs.length) = false)
    (hend : ((iter Z.row d n).q.halted = true ∧ res = "halted") ∨ ((iter Z.row d n).q.halted = false ∧ decide ((iter Z.row d n).cs.length ≤ d.cs.length) = true ∧ res = "step") ∨ ((iter Z.row d n).q.halted = false ∧ decide ((iter Z.row d n).cs.length ≤ d.cs.length) = false ∧ n = mo ∧ res = "most")) (hn : n0 + 8 * n ≤ 90000) :
    Tr G 16 (.ref 205) [.ref Z.x, .int (mo : Int)] (TabE 200 115 30 (lamQ "Debugger.step_over") :: Dg G Z d n0) fun v N' => (AV.str (Str.ofString res)).den v ∧ N' = TabE 200 115 30 (lamQ "Debugger.step_over") :: Dg G Z (iter Z.row d n) (n0 + 8 * n) := by
  refine fill_of G.X ?_; k_fill; intro _
  refine' Tr.enterC [Str.ofString "self", Str.ofString "most"] ?ho ?hcd ?hb ?ok ?_
  case ho => k_is
  case hcd => k_is
  case hb =>
    intro s vs X h
    cases h with | cons r h => cases h with | cons r h => cases h; exact BindsTo.of_eq rfl
  case ok => kernel_rfl
  intro fd
  show Wk _ [(Str.ofString "most", .int (mo : Int))] (Cel (fd.L + 1 + 1) none :: Cel (fd.L + 1) (some (.ref Z.x)) :: TabE 200 115 30 (lamQ "Debugger.step_over") :: Dg G Z d n0) _ _
  dsimp only [HD.B13_12, HD.C13_12, HD.qB13_12, HD.qC13_12]
  refine Wk.setCell (a := fd.L + 1 + 1) (j := 0) (Ev.use (k := .int (d.cs.length : Int)) (Ev.len (i := 5) (by walk_at "sl:bi") (Ev.dbCl (i := 4) (Ev.cel (i := 1) (a := fd.L + 1) rfl rfl (by kernel_rfl)) rfl rfl) rfl (by omega) rfl) fun v dv => ⟨_, dv, rfl, .vs [true] Cel.freeze (.vs [false, true] Cel.freeze ?_)⟩) rfl (by kernel_rfl) (by rfl)
  refine Wk.retS (Ex.dbCallX (f := 184) (i := 4) (Ev.celF (i := 1) (a := fd.L + 1) rfl rfl (by kernel_rfl)) rfl (fun _ => rfl) (.cons (Ev.use (k := .int (mo : Int)) (by walk_at "sl:ev") fun v1 d1 => .cons (Ex.lambda (j := 2) (Pt := 200) (cd := 204) (clos := [(Str.ofString "self", fd.L + 1), (Str.ofString "depth", fd.L + 1 + 1)]) rfl hB hC rfl (by with_unfolding_all rfl) rfl fun f c' => .nil (Sm.vs [true, true] (Ent.two (fun l z h x => x.1) fun l z h x => x.1) (Sm.vs [true, true] (Ent.two (fun l z h x => x.1.1) fun l z h x => x.1)
    (Sm.tr (t_led (ov := fun d' => decide (d'.cs.length ≤ d.cs.length)) (n := n) (mo := mo) (res := res) ?_ ?_ n1 n2 n3 hgo hov hend hn) (by decide) [true, false, true, true, true] rfl (.cons rfl (.cons d1 (.cons rfl .nil))) fun v N1 ⟨dv, e⟩ => ?_)))) rfl) rfl) (by kernel_rfl))
  · refine fun d' n' hl => Tr.enterL [] (fun _ _ _ x => x.2) (fun vs pm ctv h => by cases h; rfl) (by kernel_rfl) fun dd => ?_
    exact Ev.use (k := .bool _) (Ev.cmp (k1 := .int (d'.cs.length : Int)) (k2 := .int (d.cs.length : Int)) (Ev.len (i := 3) (by walk_at "sl:bi") (Ev.dbCl (i := 2) (Ev.cellH (i := 0) (a := fd.L + 1) rfl (fun l z h zh ⟨⟨_, _, w, g, dw⟩, _⟩ => ⟨w, g.keeps zh, dw⟩) rfl (by kernel_rfl)) rfl rfl) rfl (by omega) rfl) (Ev.cellH (i := 0) (a := fd.L + 1 + 1) rfl (fun l z h zh ⟨⟨⟨_, w, g, dw⟩, _⟩, _⟩ => ⟨w, g.keeps zh, dw⟩) rfl (by kernel_rfl)) rfl fun v1 v2 s Q ⟨_, e1⟩ ⟨_, e2⟩ y => by subst e1 e2; exact PyProof.Rows.le_int y) fun v dv => ⟨dv.trans (congrArg Value.bool (decide_eq_decide.mpr Int.ofNat_le)), rfl⟩
  · exact fun l z h zh x => LamF.fn zh x.2
  · subst e
    exact ⟨_, .vs [true] .drop, dv, rfl⟩
theorem t_finish {G : Gx} {Z : Dz} {d : DS} {n mo n0 : Nat} {res : String} (hB : BMain G.mg G.hb) (hC : CodeHd G.hb 211 207) (n1 : 1 ≤ n) (n2 : n ≤ mo) (n3 : mo ≤ 150) (hgo : ∀ j, j < n → Legal Z.row (iter Z.row d j)) (hov : ∀ j, 0 < j → j < n → finOv d (iter Z.row d j) = false)
    (hend : ((iter Z.row d n).q.halted = true ∧ res = "halted") ∨ ((iter Z.row d n).q.halted = false ∧ finOv d (iter Z.row d n) = true ∧ res = "step") ∨ ((iter Z.row d n).q.halted = false ∧ finOv d (iter Z.row d n) = false ∧ n = mo ∧ res = "most")) (hn : n0 + 8 * n ≤ 90000) :
    Tr G 16 (.ref 212) [.ref Z.x, .int (mo : Int)] (TabE 207 119 30 (lamQ "Debugger.finish") :: Dg G Z d n0) fun v N' => (AV.str (Str.ofString res)).den v ∧ N' = TabE 207 119 30 (lamQ "Debugger.finish") :: Dg G Z (iter Z.row d n) (n0 + 8 * n) := by
  refine fill_of G.X ?_; k_fill; intro _
  refine' Tr.enterC [Str.ofString "self", Str.ofString "most"] ?ho ?hcd ?hb ?ok ?_
  case ho => k_is
  case hcd => k_is
  case hb =>
    intro s vs X h
    cases h with | cons r h => cases h with | cons r h => cases h; exact BindsTo.of_eq rfl
  case ok => kernel_rfl
  intro fd
  show Wk _ [(Str.ofString "most", .int (mo : Int))] (Cel (fd.L + 1 + 1) none :: Cel (fd.L + 1) (some (.ref Z.x)) :: TabE 207 119 30 (lamQ "Debugger.finish") :: Dg G Z d n0) _ _
  dsimp only [HD.B13_13, HD.C13_13, HD.qB13_13, HD.qC13_13]
  refine Wk.setCell (a := fd.L + 1 + 1) (j := 0) (Ev.use (k := .int (d.q.ns.getD 4 0)) (Ev.regs (i := 3) (j := 4) (Ev.dbSt (i := 4) (Ev.cel (i := 1) (a := fd.L + 1) rfl rfl (by kernel_rfl)) rfl rfl) (Ev.glob (k := .int 4) rfl (by kernel_rfl) ⟨_, rfl⟩) rfl (by decide) rfl fun _ => rfl) fun v dv => ⟨_, dv, rfl, .vs [true] Cel.freeze (.vs [false, true] Cel.freeze ?_)⟩) rfl (by kernel_rfl) (by rfl)
  refine Wk.retS (Ex.dbCallX (f := 184) (i := 4) (Ev.celF (i := 1) (a := fd.L + 1) rfl rfl (by kernel_rfl)) rfl (fun _ => rfl) (.cons (Ev.use (k := .int (mo : Int)) (by walk_at "sl:ev") fun v1 d1 => .cons (Ex.lambda (j := 2) (Pt := 207) (cd := 211) (clos := [(Str.ofString "top", fd.L + 1 + 1), (Str.ofString "self", fd.L + 1)]) rfl hB hC rfl (by with_unfolding_all rfl) rfl fun f c' => .nil (Sm.vs [true, true] (Ent.two (fun l z h x => x.1) fun l z h x => x.1) (Sm.vs [true, true] (Ent.two (fun l z h x => x.1.1) fun l z h x => x.1)
    (Sm.tr (t_led (ov := finOv d) (n := n) (mo := mo) (res := res) ?_ ?_ n1 n2 n3 hgo hov hend hn) (by decide) [true, false, true, true, true] rfl (.cons rfl (.cons d1 (.cons rfl .nil))) fun v N1 ⟨dv, e⟩ => ?_)))) rfl) rfl) (by kernel_rfl))
  · refine fun d' n' hl => Tr.enterL [] (fun _ _ _ x => x.2) (fun vs pm ctv h => by cases h; rfl) (by kernel_rfl) fun dd => ?_
    exact Ev.use (k := .bool (finOv d d')) (Ev.andV (Ev.cmp (b := decide (Str.ofString d'.lat = Str.ofString "ret")) (k1 := .str (Str.ofString d'.lat)) (k2 := .str (Str.ofString "ret")) (Ev.dbLat (i := 2) (Ev.cellH (i := 0) (a := fd.L + 1) rfl (fun l z h zh ⟨⟨_, _, w, g, dw⟩, _⟩ => ⟨w, g.keeps zh, dw⟩) rfl (by kernel_rfl)) rfl rfl) Ev.str rfl fun v1 v2 s Q ⟨_, e1⟩ ⟨_, e2⟩ y => by subst e1 e2; exact eq_str y)
      (Ev.cmp (b := decide (d.q.ns.getD 4 0 < d'.q.ns.getD 4 0)) (k1 := .int (d'.q.ns.getD 4 0)) (k2 := .int (d.q.ns.getD 4 0)) (Ev.regs (i := 1) (j := 4) (Ev.dbSt (i := 2) (Ev.cellH (i := 0) (a := fd.L + 1) rfl (fun l z h zh ⟨⟨_, _, w, g, dw⟩, _⟩ => ⟨w, g.keeps zh, dw⟩) rfl (by kernel_rfl)) rfl rfl) (Ev.glob (k := .int 4) rfl (by kernel_rfl) ⟨_, rfl⟩) rfl (by decide) rfl fun _ => rfl) (Ev.cellH (i := 0) (a := fd.L + 1 + 1) rfl (fun l z h zh ⟨⟨⟨_, w, g, dw⟩, _⟩, _⟩ => ⟨w, g.keeps zh, dw⟩) rfl (by kernel_rfl)) rfl fun v1 v2 s Q ⟨_, e1⟩ ⟨_, e2⟩ y => by subst e1 e2; exact PyProof.Rows.gt_int y)) fun v dv => ⟨dv, rfl⟩
  · exact fun l z h zh x => LamF.fn zh x.2
  · subst e
    exact ⟨_, .vs [true] .drop, dv, rfl⟩
section
variable {G : Gx} {rn : Nat} {c : Fx G rn} {m : Lm} {N : List HP} {e : PySem.Expr} {p : Pos} {K : Value → List HP → Prop} {n : Int}
theorem Ex.list1 (h : Ev c m N e (.int n)) (hp : plainE e = true) (hk : ∀ a, K (.ref a) (Ls false eInt a [n] :: N)) : Ex c m N (.List [e] p) K :=
  Ex.list (.cons (h.use fun v d => .nil ⟨sizeLine_of (Nat.le_of_ble_eq_true rfl), Int, eInt, [n], NF.all fun z => .cons d .nil, hk⟩) hp)
end
theorem t_where {G : Gx} {Z : Dz} {d : DS} {n : Nat} (hd : d.cs.length ≤ 2) : Tr G 3 (.ref 217) [.ref Z.x] (Dg G Z d n) fun v N' => ∃ a, v = .ref a ∧ N' = Ls false eInt a (d.q.rip :: (d.cs.map (·.1)).reverse) :: Dg G Z d n := by
  refine fill_of G.X ?_; k_fill; intro _
  refine' Tr.enter [Str.ofString "self"] ?ho ?hcd ?hb ?ok ?_
  case ho => k_is
  case hcd => k_is
  case hb =>
    intro s vs X h
    cases h with | cons r h => cases h; exact BindsTo.of_eq rfl
  case ok => kernel_rfl
  intro fd
  show Wk _ [(Str.ofString "self", .ref Z.x)] _ _ _
  dsimp only [HD.B13_14, HD.C13_14, HD.qB13_14, HD.qC13_14]
  refine Wk.retS (Ex.bin (Ex.list1 (Ev.rip (i := 0) (Ev.dbSt (i := 1) (by walk_at "sl:ev") rfl rfl) rfl rfl) rfl fun l => Ex.compP (pe := _) (cl := []) (Ex.rev (i := 3) (a := Z.cl) (Ev.dbCl (i := 2) (by walk_at "sl:ev") rfl rfl) rfl (by omega) fun d2 => ⟨d2, 0, false, d.cs.reverse, rfl, rfl, by rw [List.length_reverse]; omega, .inr rfl, fun dd => Sm.cat (i := 2) (j := 0) rfl rfl (by simp only [List.length_singleton, List.length_map, List.length_reverse]; omega) fun d3 => ⟨_, .vs [false, true, true, true] .drops, d3, rfl, ?_⟩⟩) (by with_unfolding_all rfl) (by kernel_rfl) fun _ => rfl))
  rw [List.map_reverse]; rfl
theorem t_backtrace {G : Gx} {Z : Dz} {q : PS} {n mo : Nat} {cnt : Int} {lat : Str} (hmo : mo ≤ 10) : Tr G 6 (.ref 224) [.ref Z.x, .int (mo : Int)] [StE G Z q n, DbE G Z cnt lat] fun v N' => ∃ a, v = .ref a ∧ N' = [Ls false eInt a (q.rip :: btF q.f mo (q.ns.getD 5 0)), StE G Z q n, DbE G Z cnt lat] := by
  refine fill_of G.X ?_; k_fill; intro _
  refine' Tr.enter [Str.ofString "self", Str.ofString "most"] ?ho ?hcd ?hb ?ok ?_
  case ho => k_is
  case hcd => k_is
  case hb =>
    intro s vs X h
    cases h with | cons r h => cases h with | cons r h => cases h; exact BindsTo.of_eq rfl
  case ok => kernel_rfl
  intro fd
  show Wk _ [(Str.ofString "most", .int (mo : Int)), (Str.ofString "self", .ref Z.x)] _ _ _
  dsimp only [HD.B13_15, HD.C13_15, HD.qB13_15, HD.qC13_15]
  refine Wk.swap (names := [Str.ofString "found", Str.ofString "base"]) (Ex.tuple (.cons (Ex.list1 (Ev.rip (i := 0) (Ev.dbSt (i := 1) (by walk_at "sl:ev") rfl rfl) rfl rfl) rfl fun la => .cons ((Ev.regs (i := 1) (j := 5) (Ev.dbSt (i := 2) (by walk_at "sl:ev") rfl rfl) (Ev.glob (k := .int 5) rfl (by kernel_rfl) ⟨_, rfl⟩) rfl (by decide) rfl fun _ => rfl).use fun v2 d2 => .nil ⟨Nat.le_of_ble_eq_true rfl, fun ta => ⟨ta, _, [.ref la, .int (q.ns.getD 5 0)], rfl, NF.fact (i := 0) rfl, .cons rfl (.cons d2 .nil), rfl, .vs [true] .drop ?_⟩⟩) rfl) rfl)) (by rfl) (by rfl) (by kernel_rfl)
  refine Wk.while (fun k m' N' => ∃ ns b, m' = [(Str.ofString "found", .ref la), (Str.ofString "base", .int b), (Str.ofString "most", .int (mo : Int)), (Str.ofString "self", .ref Z.x)] ∧ N' = [Ls false eInt la ns, StE G Z q n, DbE G Z cnt lat] ∧ 1 ≤ ns.length ∧ ns.length ≤ mo + 1 ∧ k = mo + 1 - ns.length ∧ ns ++ btF q.f (mo + 1 - ns.length) b = q.rip :: btF q.f mo (q.ns.getD 5 0))
    (D := fun m' N' => m'.lookup (Str.ofString "found") = some (.ref la) ∧ N' = [Ls false eInt la (q.rip :: btF q.f mo (q.ns.getD 5 0)), StE G Z q n, DbE G Z cnt lat]) (n := mo) ⟨[q.rip], q.ns.getD 5 0, rfl, rfl, Nat.le_refl _, Nat.le_add_left _ _, rfl, rfl⟩ ?_ fun mi Ni ⟨hm, e⟩ => ?_
  · rintro k mi Ni ⟨ns, b, rfl, rfl, h1, h2, rfl, h3⟩
    by_cases hb : b = 0
    · subst hb
      rw [btF_zero, List.append_nil] at h3
      exact Tx.and (Tx.of (b := false) (Et.neI (by walk_at "sl:ev") (by walk_at "sl:ev") rfl rfl) ⟨rfl, by rw [h3]⟩)
    · refine Tx.and (Tx.of (b := true) (Et.neI (by walk_at "sl:ev") (by walk_at "sl:ev") (by simpa using hb) rfl) (Tx.and (Tx.of (b := decide ((ns.length : Int) ≤ mo)) (Et.leI (Ev.len (i := 0) (by walk_at "sl:bi") (by walk_at "sl:ev") rfl (by omega) rfl) (by walk_at "sl:ev") rfl rfl) ?_)))
      by_cases hl : ns.length ≤ mo
      · rw [decide_eq_true (Int.ofNat_le.mpr hl)]
        refine Tx.andN ?_
        refine Wk.append (R := eInt) (i := 0) (a := la) (by walk_at "sl:ev") rfl ((Ev.read (i := 1) (at_ := b + 8) (Ev.dbSt (i := 2) (by walk_at "sl:ev") rfl rfl) (.add (by walk_at "sl:ev") Ev.int) Ev.int rfl (by kernel_rfl)).use fun v dv => ⟨_, .rfl', 0, ns, rdN q.f (b + 8) 8, rfl, by omega, NF.all fun z => dv, ?_⟩) rfl rfl rfl rfl
        refine Wk.set (k := .int (rdN q.f b 8)) (Ev.read (i := 1) (at_ := b) (Ev.dbSt (i := 2) (by walk_at "sl:ev") rfl rfl) (by walk_at "sl:ev") Ev.int rfl (by kernel_rfl)) (by kernel_rfl) (by rfl) ?_
        refine Wk.set (k := .int (if rdN q.f b 8 > b then rdN q.f b 8 else 0)) (Ev.ite (b := decide (b < rdN q.f b 8)) (Et.gtI (by walk_at "sl:ev") (by walk_at "sl:ev") rfl rfl) (fun h => ?_) fun h => ?_) (by kernel_rfl) (by rfl) ?_
        · rw [if_pos (of_decide_eq_true h)]; walk_at "sl:ev"
        · rw [if_neg (of_decide_eq_false h)]; walk_at "sl:ev"
        · refine .nil ⟨_, _, ?_, ⟨ns ++ [rdN q.f (b + 8) 8], _, rfl, rfl, ?_, ?_, rfl, (btF_step hb hl rfl).trans h3⟩, rfl, rfl, rfl, rfl, trivial⟩ <;> rw [List.length_append, List.length_singleton] <;> omega
      · rw [decide_eq_false fun h => hl (Int.ofNat_le.mp h)]
        rw [show mo + 1 - ns.length = 0 by omega] at h3
        refine ⟨rfl, ?_⟩
        rw [← h3]; exact congrArg (fun l => [Ls false eInt la l, _, _]) (List.append_nil _).symm
  · subst e
    exact Wk.ret (Ev.ref (a := la) (Ev.loc hm (by kernel_rfl)) ⟨la, rfl, rfl⟩)
section
variable {G : Gx} {rn : Nat} {c : Fx G rn} {m m' : Lm} {N N' N1 : List HP} {e e0 e1 e2 o iter elt : PySem.Expr} {es args : List PySem.Expr} {x x2 nm : Str} {p p' pa pb pc pos : Pos} {K K' : Value → List HP → Prop} {P P' : Flow → Lm → List HP → Prop} {rest : List Stmt} {scope : Scope} {cl : List (Str × Addr)}
theorem Ex.compU (h1 : Ex c m N iter fun v N1 => ∃ (a : Addr) (i : Nat) (fz : Bool) (cs : List (Int × Int)), v = .ref a ∧ N1[i]? = some (Ls fz eCall a cs) ∧ cs.length ≤ 1000 ∧ ∀ d, K (.ref d) (Ls false eInt d (cs.map (·.1)) :: N1)) (hclos : closureFor scope c.env = pure cl) (ok : compOk scope x = true) (hs : ∀ x, foldedSetIterable iter c.env x = pure x) :
    Ex c m N (.ListComp (.Subscript (.Name x pa) (.Constant (.int 0) 0 pb) pc) [⟨.Name x p', iter, [], 0⟩] scope p) K := fun h tk S => by
  unfold compOk at ok
  simp only [Bool.and_eq_true, beq_iff_eq, List.all_eq_true, Bool.not_eq_true', Bool.or_eq_true, bne_iff_ne, beq_eq_false_iff_ne] at ok
  obtain ⟨⟨⟨hkind, hnm⟩, hx⟩, hdb⟩ := ok
  rw [eval_ListComp]
  refine wpAny_comprehension_free (use := none) rfl hs hclos hkind (fun y hy e => (hnm y hy).2.resolve_left fun z => z e) (Sm.go h1 S fun xv h1' tk1 N1 S1 y => ?_)
  obtain ⟨a, i, fz, cs, ev, hN, hl, hk⟩ := y
  subst ev
  obtain ⟨f, z, ls, ag, X⟩ := S1
  obtain ⟨vs, n, g, y⟩ := X.own.list hN
  obtain ⟨F, Rs, N0, hR⟩ := X.all
  have haL : a ≠ c.L := fun q => by
    obtain ⟨o, es, ep, ho, hd, _⟩ := X.F.ns
    rw [← q, g] at ho; cases ho; cases hd
  have hli : (c.at h1' tk1).heap.IsList a (List.toArray vs) := ⟨_, g, rfl, n, rfl⟩
  have hlt : a < h1'.objs.size := Heap.lt_size g
  obtain ⟨tl, hl1, hl2⟩ := calls_listed y
  have htl : ∀ q ∈ tl, q ∈ Rs := fun q hq => hR q.1 q.2 (fun e => by have := hl2 q hq; rw [e, X.Lz] at this; cases this) (X.own.zh _ _ (hl2 q hq))
  refine wpAny_pyIter_list hli ?_
  have up : ∀ b o, h1'.get? b = some o → (h1'.push { cls := .type "list_iterator", data := .fields #[.ref a, .int 0 0] }).get? b = some o := fun b o e => Heap.get?_push_of_some _ e
  have hsrc : LCg.SrcAt {} a vs.toArray Rs := .inr ⟨_, hR a _ haL g, rfl, n, rfl⟩
  refine LCg.block_U (h₀ := {}) (L := c.L) (m := f) (news := Rs) (s₂ := { c.at h1' tk1 with heap := h1'.push _ }) (Walks.list c.d.rm.hh h1'.objs.size a (Nat.ne_of_lt hlt) vs.toArray) (sizeLine_of (by rw [List.size_toArray, y.length]; omega)) (fun i h st => by obtain ⟨o, e, _⟩ := st.1; exact ⟨o, e⟩) LCg.list_st (fun y hy => (hnm y hy).1) hkind hx ⟨⟨_, Heap.get?_push_size _ rfl, rfl, rfl⟩, hli.push _⟩ (fun b hb => ?_)
    (F.keeps up) (N0.grown up) (Nat.ne_of_lt F.ns.lt) (next_is_new F) (fun p hp => Nat.ne_of_lt (Heap.lt_size (N0 p hp).1)) hsrc (Fin := fun ys news => IntsAre ys (cs.map (·.1)) ∧ news = Rs) ?_ ?_
  · show b < (h1'.push _).objs.size
    rw [Heap.size_push]
    rcases List.mem_cons.mp hb with rfl | hb
    · exact Nat.lt_succ_self _
    · rw [List.mem_singleton.mp hb]; exact Nat.lt_succ_of_lt hlt
  · exact comp_row0L (env := c.env) hsrc (fun _ => hkind) (fun _ => lookup_relabel_local hx) (beq_eq_false_iff_ne.mpr hdb) _ 0 vs cs tl [] [] hl1 rfl (by simp) htl .nil fun ys' hI => ⟨by simpa using hI, rfl⟩
  · intro D C h3 tk3 m' ys news' F' N' o1 hn hC₀ hD₀ hCL hDL hCD offC y9
    obtain ⟨hI, e⟩ := y9
    subst e
    refine ⟨m', hn, fun h'' hs'' => ⟨h'', tk3, _, rfl, ?_, hk D⟩⟩
    have keep : ∀ b o, b ≠ c.L → h1'.get? b = some o → h''.get? b = some o := fun b o hb e => hs''.extBut _ _ (offC _ (hR b o hb e)) (N' _ (.tail _ (hR b o hb e))).1
    have hDn : h1'.get? D = none := by
      cases e : h1'.get? D with
      | none => rfl
      | some o => exact absurd rfl (off_mem o1 _ (hR D o hDL e))
    have F2 := F'.change hs'' hCL hC₀
    refine .newL ag X ⟨F2.ns, fun b o e => keep b o (fun q => by have := X.F.above; exact absurd (q ▸ Heap.lt_size e) (Nat.not_lt.mpr this)) (X.F.keep b o e), X.F.above⟩ keep hDn ⟨rfl, ys, _, hs''.extBut _ _ (Ne.symm hCD) (N' _ (.head _)).1, intsE hI⟩
end
theorem t_stands {G : Gx} {Z : Dz} {wd bo bg mo : Addr} {wide : Int} {M : List Mom} {d : DS} {m : Mom} {i mny n : Nat} (S : Stands d m i) (hm : M[i]? = some m) (hi : i ≤ 300) (hmny : mny ≤ 10) (hfl : m.2.2.1.length ≤ 10) :
    Tr G 8 (.ref 1111) [.ref Z.x, .ref wd, .int (i : Int), .int (mny : Int)] (Wrld G wd bo bg wide mo :: Ls true eMom mo M :: Dg G Z d n) fun v N' => v = .bool true ∧ N' = Wrld G wd bo bg wide mo :: Ls true eMom mo M :: Dg G Z d n := by
  refine fill_of G.X ?_; k_fill; intro _
  refine' Tr.enter [Str.ofString "debugger", Str.ofString "world", Str.ofString "at", Str.ofString "many"] ?ho ?hcd ?hb ?ok ?_
  case ho => k_is
  case hcd => k_is
  case hb =>
    intro s vs X h
    cases h with | cons r h => cases h with | cons r h => cases h with | cons r h => cases h with | cons r h => cases h; exact BindsTo.of_eq rfl
  case ok => kernel_rfl
  intro fd
  show Wk _ [(Str.ofString "many", .int (mny : Int)), (Str.ofString "at", .int (i : Int)), (Str.ofString "world", .ref wd), (Str.ofString "debugger", .ref Z.x)] _ _ _
  dsimp only [HD.B109, HD.C109, HD.qB109, HD.qC109]
  have hdep := S.dep
  refine Wk.unpack (names := [Str.ofString "place", Str.ofString "opens", Str.ofString "framed", Str.ofString "waits"]) (Sm.post (K := fun v N' => N' = Fact eMom v m :: Wrld G wd bo bg wide mo :: Ls true eMom mo M :: Dg G Z d n) (Ex.item (i := 1) (j := i) (Ev.world (i := 0) (k := .ref mo) (by walk_at "sl:ev") rfl fun tw => ⟨_, rfl, rfl⟩) (by walk_at "sl:ev") rfl hm (by omega) (fun _ => rfl) fun v => rfl) fun v N' h e S1 => ?_) (.cons ⟨_, rfl⟩ (.cons ⟨_, rfl⟩ (.cons ⟨_, rfl⟩ (.cons ⟨_, rfl⟩ .nil)))) (by rfl) (by rfl) (by kernel_rfl)
  subst e
  obtain ⟨⟨a, t, oa, fa⟩, ev, S2⟩ := S1.open (j := 0) rfl open_mom
  refine ⟨_, Moment.tup (i := 0) rfl _ S2, a, [.int m.1 t, .ref oa, .ref fa, .bool m.2.2.2], [.int m.1, .ref oa, .ref fa, .bool m.2.2.2], ev, NF.fact (i := 0) rfl, .cons ⟨t, rfl⟩ (.cons rfl (.cons rfl (.cons rfl .nil))), rfl, ?_⟩
  clear S1 S2
  refine .vs [true] .drop (.shl (Moment.opens (i := 0) rfl) (.shl (Moment.framed (i := 1) rfl) (.vs [false, false, true] .drop (.shl (.add (Q' := Ls true eInt Z.brk []) (i := 5) rfl fun l z h zh ⟨B, x⟩ => ⟨rfl, [], x.2.2.2.1.2.2.elim fun n g => ⟨n, g, .nil⟩⟩) ?_))))
  show Wk _ _ (Ls true eInt Z.brk [] :: Ls true eInt fa m.2.2.1 :: Ls true eInt oa m.2.1 :: Wrld G wd bo bg wide mo :: Ls true eMom mo M :: Dg G Z d n) _ _
  refine Wk.skip (Tx.or (Tx.of (b := false) (Et.neI (Ev.rip (i := 5) (Ev.dbSt (i := 6) (by walk_at "sl:ev") rfl rfl) rfl rfl) (by walk_at "sl:ev") (by rw [S.rip]; simp) rfl) (Tx.or (Tx.of (b := false) (Et.neI (Ev.dbCnt (i := 6) (by walk_at "sl:ev") rfl rfl) (by walk_at "sl:ev") (by rw [S.cnt]; simp) rfl) (Tx.or (Tx.cmp (Ev.ref (a := Z.brk) (Ev.dbBrk (i := 6) (by walk_at "sl:ev") rfl rfl) <| Ex.nilL eInt fun b => Sm.cmpInts .NotEq (.inr rfl) (i := 1) (j := 0) (r := false) rfl rfl rfl ⟨_, rfl, Tx.orN ⟨rfl, .vs [true] .drop ?_⟩⟩) rfl))))))
  refine Wk.skip (Tx.or (Tx.cmp (Ex.dbCall0 (i := 6) (by walk_at "sl:ev") rfl (t_where (by rw [S.len]; exact hdep)) [false, false, false, false, false, true, true, true] rfl (fun _ => rfl) (by kernel_rfl) fun v N1 ⟨wa, e1, e2⟩ => ?_) rfl))
  subst e1 e2
  have e5 : d.q.rip :: (d.cs.map (·.1)).reverse = [m.1] ++ m.2.1 := by rw [S.rip, S.cs, List.reverse_reverse]; rfl
  refine Ex.bin (Ex.list1 (by walk_at "sl:ev") rfl fun l => Ev.ref (a := oa) (by walk_at "sl:ev") (Sm.cat (i := 0) (j := 3) rfl rfl (by simp only [List.length_singleton]; omega) fun d2 => Sm.cmpInts .NotEq (.inr rfl) (i := 7) (j := 0) (r := false) rfl rfl (by rw [decide_eq_true e5]; rfl) ⟨_, rfl, .shl (.vs [true, true, false, false, false, false, false, true] .drops) ?_⟩))
  refine Tx.or (Tx.cmp (Ex.compU (cl := []) ((Ev.dbCl (i := 6) (by walk_at "sl:ev") rfl rfl).ref ⟨Z.cl, 7, false, d.cs, rfl, rfl, by rw [S.len]; omega, fun dd => Ex.rev (i := 3) (a := oa) (by walk_at "sl:ev") rfl (by omega) fun r => Sm.cmpInts .NotEq (.inr rfl) (i := 1) (j := 0) (r := false) rfl rfl (by rw [decide_eq_true S.cs]; rfl) ⟨_, rfl, Tx.orN ⟨rfl, .vs [true, true] .drops ?_⟩⟩⟩) (by with_unfolding_all rfl) (by kernel_rfl) fun _ => rfl) rfl)
  refine Wk.retS (Ex.cmp (Ex.dbCall (i := 6) (by walk_at "sl:ev") rfl (.cons (by walk_at "sl:ev") .nil rfl) (t_backtrace hmny) [false, false, false, false, false, true, true] rfl (fun _ => rfl) (by kernel_rfl) fun v N1 ⟨ba, e1, e2⟩ => ?_) rfl)
  subst e1 e2
  have e10 : d.q.rip :: btF d.q.f mny (d.q.ns.getD 5 0) = ([m.1] ++ m.2.2.1).take (mny + 1) := by rw [S.rip, S.fr]; rfl
  refine Ex.take (n := mny + 1) (fz := false) (R := eInt) (Ex.bin (Ex.list1 (by walk_at "sl:ev") rfl fun l => Ev.ref (a := fa) (by walk_at "sl:ev") (Sm.cat (i := 0) (j := 2) rfl rfl (by simp only [List.length_singleton]; omega) fun d2 => ⟨d2, 0, _, rfl, rfl, by rw [List.length_append, List.length_singleton]; omega, Ev.cast (Ev.add (by walk_at "sl:ev") Ev.int) fun _ h => h, fun d3 => Sm.cmpInts .Eq (.inl rfl) (i := 8) (j := 0) (r := true) rfl rfl (by rw [decide_eq_true e10]; rfl) ⟨_, .vs [true, true, true, true, true, true, false, false, true] .drops, rfl, rfl⟩⟩)))
noncomputable def Dz.st0 (st rl mem : Addr) : Dz := ⟨0, st, rl, mem, 0, 0, 0, 0, 0, fun _ => none⟩
theorem Ex.callT0 {G : Gx} {rn : Nat} {c : Fx G rn} {m : Lm} {N N1 : List HP} {x : Str} {p p' : Pos} {K Q : Value → List HP → Prop} {n : Nat} {f : Value} (hf : Ev c m N (.Name x p') (.val f)) (T : Tr G n f [] N1 Q) (mk : List Bool) (hN : pickM mk N = N1) (ok : (decide (n ≤ rn) && keepIn G.K f) = true) (hk : ∀ v N1', Q v N1' → K v (mergeM mk N1' N)) : Ex c m N (.Call (.Name x p') [] [] p) K := fun h tk S => by
  simp only [Bool.and_eq_true, decide_eq_true_eq] at ok
  exact Call_ (Ev.go hf S fun v h' tk' S' d => by
    cases d
    obtain ⟨_, F, _⟩ := S'.fr
    exact callWith_K0 (s := c.at h' tk') (first := []) (G.X.keeps F.keep) ok.2 (Sm.tr T ok.1 mk hN .nil hk h' tk' S'))
noncomputable def HeldE (G : Gx) (d : Addr) : HP := ⟨fun l _ h => l = [d] ∧ (d == sysModules) = false ∧ ∃ o, h.get? d = some o ∧ Held G.prog G.w o 0 fun _ => 0, fun y _ kh => ⟨y.1, y.2.1, y.2.2.elim fun o g => ⟨o, kh d (y.1 ▸ .head _) _ g.1, g.2⟩⟩, fun y a ha => y.2.2.elim fun o g => by
  rw [y.1] at ha; exact List.mem_singleton.mp ha ▸ ⟨o, g.1⟩⟩
noncomputable def MemF (G : Gx) (a d : Addr) : HP := Fz (fun z => MemAt G.w z a d) fun _ _ x k => by
  obtain ⟨dx, tk, I⟩ := x
  exact ⟨dx, tk, inst_keep I k⟩
section
variable {G : Gx}
theorem t_Flags : Tr G 5 (.ref 346) [] [] fun v N' => (∃ a, v = .ref a) ∧ N' = [] := by
  refine fill_of G.X ?_; k_fill; intro _
  refine' Tr.make (dks := []) (ds := []) [Str.ofString "self"] ?hmk ?hi ?hf ?ho ?hcd ?hd ?hb ?ok ?_
  case hmk => k_is
  case hi => k_is
  case hf => k_is
  case ho => k_is
  case hcd => k_is
  case hd => exact .nil
  case hb =>
    intro s vs x X h
    cases h; exact BindsTo.of_eq rfl
  case ok => kernel_rfl
  intro d x
  dsimp only [HD.B28_0, HD.C28_0, HD.qB28_0, HD.qC28_0]
  show Wk _ [(Str.ofString "self", .ref x)] _ _ _
  refine Wk.setNew (j := 0) (C := 346) (Ev.use (k := .int 0) Ev.int fun v d => ⟨_, _, rfl, rfl, Nat.le_of_ble_eq_true rfl, d, ?_⟩) (fun N => by walk_at "sl:ev") (by kernel_rfl) (by rfl)
  refine Wk.setNew (j := 0) (C := 346) (Ev.use (k := .int 0) Ev.int fun v d => ⟨_, _, rfl, rfl, Nat.le_of_ble_eq_true rfl, d, ?_⟩) (fun N => by walk_at "sl:ev") (by kernel_rfl) (by rfl)
  refine Wk.setNew (j := 0) (C := 346) (Ev.use (k := .int 0) Ev.int fun v d => ⟨_, _, rfl, rfl, Nat.le_of_ble_eq_true rfl, d, ?_⟩) (fun N => by walk_at "sl:ev") (by kernel_rfl) (by rfl)
  refine Wk.setNew (j := 0) (C := 346) (Ev.use (k := .int 0) Ev.int fun v d => ⟨_, _, rfl, rfl, Nat.le_of_ble_eq_true rfl, d, ?_⟩) (fun N => by walk_at "sl:ev") (by kernel_rfl) (by rfl)
  refine Wk.setNew (j := 0) (C := 346) (Ev.use (k := .int 0) Ev.int fun v d => ⟨_, _, rfl, rfl, Nat.le_of_ble_eq_true rfl, d, ?_⟩) (fun N => by walk_at "sl:ev") (by kernel_rfl) (by rfl)
  refine Wk.setNew (j := 0) (C := 346) (Ev.use (k := .int 0) Ev.int fun v d => ⟨_, _, rfl, rfl, Nat.le_of_ble_eq_true rfl, d, ?_⟩) (fun N => by walk_at "sl:ev") (by kernel_rfl) (by rfl)
  refine Wk.setNew (j := 0) (C := 346) (Ev.use (k := .int 0) Ev.int fun v d => ⟨_, _, rfl, rfl, Nat.le_of_ble_eq_true rfl, d, ?_⟩) (fun N => by walk_at "sl:ev") (by kernel_rfl) (by rfl)
  exact Wk.vs [true] .drop (.nil ⟨rfl, ⟨x, rfl⟩, rfl⟩)
theorem t_Memory : Tr G 5 (.ref 552) [] [] fun v N' => ∃ a d, v = .ref a ∧ N' = [HeldE G d, MemF G a d] := by
  refine fill_of G.X ?_; k_fill; intro _
  refine' Tr.make (dks := []) (ds := []) [Str.ofString "self"] ?hmk ?hi ?hf ?ho ?hcd ?hd ?hb ?ok ?_
  case hmk => k_is
  case hi => k_is
  case hf => k_is
  case ho => k_is
  case hcd => k_is
  case hd => exact .nil
  case hb =>
    intro s vs x X h
    cases h; exact BindsTo.of_eq rfl
  case ok => kernel_rfl
  intro d x
  dsimp only [HD.B46_0, HD.C46_0, HD.qB46_0, HD.qC46_0]
  show Wk _ [(Str.ofString "self", .ref x)] _ _ _
  refine Wk.setNew (j := 1) (C := 552) (Ex.dictE fun hd => ⟨_, .ref hd, rfl, rfl, Nat.le_of_ble_eq_true rfl, rfl, ?_⟩) (fun N => by walk_at "sl:ev") (by kernel_rfl) (by rfl)
  refine Wk.vs (N1' := [HeldE G hd]) [true] (.imp fun l z h y => ?_) (Wk.vs [false, true] (NewO.fz (es := [(Str.ofString "held", .ref hd)]) (Q := MemF G x hd) fun z d des y I h => ?_) (.nil ⟨rfl, x, hd, rfl, rfl⟩))
  · obtain ⟨e, lo, o, g, k⟩ := y
    exact ⟨e, lo, o, g, [], [], k, .nil, Nat.le_refl _, fun _ => rfl, fun _ => by decide⟩
  · obtain ⟨t1, v1, _, rfl, d1, y⟩ := entD_inv y
    cases y
    cases d1
    exact ⟨rfl, _, _, I⟩
theorem st_des {P : Params} {des : List DictEntry} {rl xl fl mem sg : Addr} (y : All2 (EntD P) des [(Str.ofString "iset", .none), (Str.ofString "regs", .ref rl), (Str.ofString "xmm", .ref xl), (Str.ofString "flags", .ref fl), (Str.ofString "memory", .ref mem), (Str.ofString "rip", .int 0), (Str.ofString "begin", .int 0), (Str.ofString "segments", .ref sg), (Str.ofString "is_halted", .bool false)]) : ∃ k tr bg, dictOf des des.length = stD P k rl xl fl mem sg (.int 0 tr) bg (.bool false) := by
  obtain ⟨f, e, d⟩ := entD_get y
  obtain ⟨tr, d5⟩ := (d 5 _ rfl : ∃ t, (f 5).val = .int 0 t)
  refine ⟨fun i => tokOf (f i).key, tr, (f 6).val, ?_⟩
  rw [e]
  show dictOf [⟨_, _, (f 0).val⟩, ⟨_, _, (f 1).val⟩, ⟨_, _, (f 2).val⟩, ⟨_, _, (f 3).val⟩, ⟨_, _, (f 4).val⟩, ⟨_, _, (f 5).val⟩, ⟨_, _, (f 6).val⟩, ⟨_, _, (f 7).val⟩, ⟨_, _, (f 8).val⟩] 9 = _
  rw [show (f 0).val = .none from d 0 _ rfl, show (f 1).val = .ref rl from d 1 _ rfl, show (f 2).val = .ref xl from d 2 _ rfl, show (f 3).val = .ref fl from d 3 _ rfl, show (f 4).val = .ref mem from d 4 _ rfl, d5, show (f 7).val = .ref sg from d 7 _ rfl, show (f 8).val = .bool false from d 8 _ rfl]
theorem state_mk {st rl xl fl mem sg hd : Addr} {z h : Heap} {l : List Addr} (nd : l.Nodup) (hm : MemAt G.w z mem hd) (y : (HP.star (NewO G 669 st [(Str.ofString "iset", .none), (Str.ofString "regs", .ref rl), (Str.ofString "xmm", .ref xl), (Str.ofString "flags", .ref fl), (Str.ofString "memory", .ref mem), (Str.ofString "rip", .int 0), (Str.ofString "begin", .int 0), (Str.ofString "segments", .ref sg), (Str.ofString "is_halted", .bool false)]) (.star (Ls false eAV rl ((List.replicate 16 (0 : Int)).map .int)) (HeldE G hd))).ok l z h) : (StE G (.st0 st rl mem) ⟨List.replicate 16 0, fun _ => 0, 0, false⟩ 0).ok l z h := by
  obtain ⟨l1, l2, rfl, ⟨b, y, rfl, g4, g5⟩, l3, l4, rfl, ⟨rfl, vs, nl, g3, y3⟩, rfl, lo, o, g1, hh⟩ := y
  obtain ⟨k, tr, bg, e⟩ := st_des y
  rw [e] at g5
  have hi := intsAre (all2_ints y3)
  generalize hns : List.replicate 16 (0 : Int) = ns at *
  have hl : ns.length = 16 := by rw [← hns]; rfl
  exact ⟨⟨k, st, b.1, rl, xl, fl, mem, hd, sg, vs, ns, nl, o, 0, fun _ => 0, 0, tr, bg, false⟩, ⟨rfl, rfl, rfl⟩, rfl, Nat.le_refl _, rfl, List.forall_mem_cons.mpr ⟨g4, List.forall_mem_cons.mpr ⟨g5, List.forall_mem_cons.mpr ⟨g3, List.forall_mem_cons.mpr ⟨g1, fun _ h => nomatch h⟩⟩⟩⟩, z, fun _ _ e => e, hi, hl, hh, nd, hm, lo⟩
theorem t_State : Tr G 8 (.ref 669) [.none] [] fun v N' => ∃ st rl mem, v = .ref st ∧ N' = [StE G (.st0 st rl mem) ⟨List.replicate 16 0, fun _ => 0, 0, false⟩ 0] := by
  refine fill_of G.X ?_; k_fill; intro _
  refine' Tr.make (dks := []) (ds := []) [Str.ofString "self", Str.ofString "iset"] ?hmk ?hi ?hf ?ho ?hcd ?hd ?hb ?ok ?_
  case hmk => k_is
  case hi => k_is
  case hf => k_is
  case ho => k_is
  case hcd => k_is
  case hd => exact .nil
  case hb =>
    intro s vs x X h
    cases h with | cons r h => cases h; exact BindsTo.of_eq rfl
  case ok => kernel_rfl
  intro d x
  dsimp only [HD.B49_0, HD.C49_0, HD.qB49_0, HD.qC49_0]
  show Wk _ [(Str.ofString "iset", .none), (Str.ofString "self", .ref x)] _ _ _
  refine Wk.setNew (j := 0) (C := 669) (Ev.use (k := .none) (by walk_at "sl:ev") fun v d => ⟨_, _, rfl, rfl, Nat.le_of_ble_eq_true rfl, d, ?_⟩) (fun N => by walk_at "sl:ev") (by kernel_rfl) (by rfl)
  refine Wk.setNew (j := 2) (C := 669) (Ex.bin (Ex.listK (ks := [.int 0]) (.cons Ev.int .nil rfl) (Nat.le_of_ble_eq_true rfl) fun a => Ev.int.use fun v2 d2 => ?_)) (fun N => by walk_at "sl:ev") (by kernel_rfl) (by rfl)
  obtain ⟨_, e⟩ := d2
  subst e
  refine Sm.mulL (i := 0) (q := 16) rfl (by decide) (by decide) fun rl => ⟨_, .ref rl, rfl, rfl, Nat.le_of_ble_eq_true rfl, rfl, Wk.vs [false, true] .drop ?_⟩
  refine Wk.setNew (j := 3) (C := 669) (Ex.bin (Ex.listK (ks := [.int 0]) (.cons Ev.int .nil rfl) (Nat.le_of_ble_eq_true rfl) fun a => Ev.int.use fun v2 d2 => ?_)) (fun N => by walk_at "sl:ev") (by kernel_rfl) (by rfl)
  obtain ⟨_, e⟩ := d2
  subst e
  refine Sm.mulL (i := 0) (q := 16) rfl (by decide) (by decide) fun xl => ⟨_, .ref xl, rfl, rfl, Nat.le_of_ble_eq_true rfl, rfl, Wk.vs [true, true] .drops ?_⟩
  refine Wk.setNew (j := 1) (C := 669) (Ex.callT0 (by walk_at "sl:fn") t_Flags [] rfl (by kernel_rfl) fun v N1 y => ?_) (fun N => by walk_at "sl:ev") (by kernel_rfl) (by rfl)
  obtain ⟨⟨fl, ev⟩, e⟩ := y
  subst ev e
  refine ⟨_, .ref fl, rfl, rfl, Nat.le_of_ble_eq_true rfl, rfl, ?_⟩
  refine Wk.setNew (j := 3) (C := 669) (Ex.callT0 (by walk_at "sl:fn") t_Memory [] rfl (by kernel_rfl) fun v N1 y => ?_) (fun N => by walk_at "sl:ev") (by kernel_rfl) (by rfl)
  obtain ⟨mem, hd, ev, e⟩ := y
  subst ev e
  refine ⟨_, .ref mem, rfl, rfl, Nat.le_of_ble_eq_true rfl, rfl, ?_⟩
  refine Wk.setNew (j := 3) (C := 669) (Ev.use (k := .int 0) Ev.int fun v d => ⟨_, _, rfl, rfl, Nat.le_of_ble_eq_true rfl, d, ?_⟩) (fun N => by walk_at "sl:ev") (by kernel_rfl) (by rfl)
  refine Wk.setNew (j := 3) (C := 669) (Ev.use (k := .int 0) Ev.int fun v d => ⟨_, _, rfl, rfl, Nat.le_of_ble_eq_true rfl, d, ?_⟩) (fun N => by walk_at "sl:ev") (by kernel_rfl) (by rfl)
  refine Wk.setNew (j := 4) (C := 669) (Ex.dictS (fun sg => .cons (Ev.use (k := .int 0) Ev.int fun v1 d1 => .cons (Ev.use (k := .int 0) Ev.int fun v2 d2 => .nil fun t2 t1 => ?_)) ) rfl) (fun N => by walk_at "sl:ev") (by kernel_rfl) (by rfl)
  refine ⟨0, [(Str.ofString "fs", .int 0), (Str.ofString "gs", .int 0)], rfl, ?_, .cons ⟨rfl, d1⟩ (.cons ⟨rfl, d2⟩ .nil), rfl, _, .ref sg, rfl, rfl, Nat.le_of_ble_eq_true rfl, rfl, Wk.vs [true] .drop ?_⟩
  · show [Str.ofString "fs", Str.ofString "gs"].Nodup
    decide
  refine Wk.setNew (j := 3) (C := 669) (Ev.use (k := .bool false) Ev.bool fun v d => ⟨_, _, rfl, rfl, Nat.le_of_ble_eq_true rfl, d, ?_⟩) (fun N => by walk_at "sl:ev") (by kernel_rfl) (by rfl)
  refine .vs [true, false, true] .starR (.vs [true, false, true] .starR (.conv (Q' := StE G (.st0 x rl mem) ⟨List.replicate 16 0, fun _ => 0, 0, false⟩ 0) 0 rfl (fun z ls h l O nd y => ?_) (.vs [false, true] .drop (.nil ⟨rfl, x, rl, mem, rfl, rfl⟩))))
  obtain ⟨_, hm, _⟩ := O.ok.get (i := 1) rfl
  exact state_mk nd hm.2 y
end
theorem mem_rowsOf {its : List Item} {r : String × Int} (h : r ∈ rowsOf its) : ∃ it ∈ its, r ∈ it.rows := by
  unfold rowsOf at h
  exact List.mem_flatMap.mp h
theorem mem_bodyOf {k : Nat} {its : List Item} {r : String × Int} (h : r ∈ bodyOf k its) : r = ("push", 5) ∨ r = ("mov", 0) ∨ (∃ it ∈ its, r ∈ it.rows) ∨ r = ("pop", 5) ∨ r = (if k = 0 then "hlt" else "ret", 0) := by
  unfold bodyOf at h
  simp only [List.mem_append, List.mem_cons, List.not_mem_nil, or_false] at h
  rcases h with ((h | h) | h) | h | h
  · exact .inl h
  · exact .inr (.inl h)
  · exact .inr (.inr (.inl (mem_rowsOf h)))
  · exact .inr (.inr (.inr (.inl h)))
  · exact .inr (.inr (.inr (.inr h)))
theorem body_calls {k : Nat} {its : List Item} (ok : ItemsOk k its) {r : String × Int} (h : r ∈ bodyOf k its) (hc : r.1 = "call") : (k : Int) < r.2 ∧ r.2 ≤ 2 := by
  rcases mem_bodyOf h with rfl | rfl | ⟨it, hi, hr⟩ | rfl | rfl
  · exact absurd hc (by decide)
  · exact absurd hc (by decide)
  · have h2 := ok.2 it hi
    cases it with
    | call k2 =>
      obtain ⟨a, b⟩ : k < k2 ∧ k2 ≤ 2 := h2
      simp only [Item.rows, List.mem_cons, List.not_mem_nil, or_false] at hr
      subst hr
      dsimp only
      omega
    | pp =>
      simp only [Item.rows, List.mem_cons, List.not_mem_nil, or_false] at hr
      rcases hr with rfl | rfl <;> exact absurd hc (by decide)
    | nop =>
      simp only [Item.rows, List.mem_cons, List.not_mem_nil, or_false] at hr
      subst hr
      exact absurd hc (by decide)
  · exact absurd hc (by decide)
  · dsimp only at hc
    split at hc <;> exact absurd hc (by decide)
theorem body_rows {k : Nat} {its : List Item} (ok : ItemsOk k its) {r : String × Int} (h : r ∈ bodyOf k its) : RowOk 3 r := by
  rcases mem_bodyOf h with rfl | rfl | ⟨it, hi, hr⟩ | rfl | rfl
  · exact .inl ⟨.inl rfl, by decide⟩
  · exact .inr (.inl rfl)
  · have h2 := ok.2 it hi
    cases it with
    | call k2 =>
      obtain ⟨a, b⟩ : k < k2 ∧ k2 ≤ 2 := h2
      simp only [Item.rows, List.mem_cons, List.not_mem_nil, or_false] at hr
      subst hr
      exact .inr (.inr (.inl ⟨rfl, by dsimp only; omega, by dsimp only; omega⟩))
    | pp =>
      simp only [Item.rows, List.mem_cons, List.not_mem_nil, or_false] at hr
      rcases hr with rfl | rfl
      · exact .inl ⟨.inl rfl, by decide⟩
      · exact .inl ⟨.inr rfl, by decide⟩
    | nop =>
      simp only [Item.rows, List.mem_cons, List.not_mem_nil, or_false] at hr
      subst hr
      exact .inr (.inr (.inr (.inl rfl)))
  · exact .inl ⟨.inr rfl, by decide⟩
  · by_cases c : k = 0
    · rw [if_pos c]; exact .inr (.inr (.inr (.inr (.inl rfl))))
    · rw [if_neg c]; exact .inr (.inr (.inr (.inr (.inr rfl))))
noncomputable abbrev bods (i0 i1 i2 : List Item) : List (List (String × Int)) := [bodyOf 0 i0, bodyOf 1 i1, bodyOf 2 i2]
theorem bods_at {i0 i1 i2 : List Item} (o0 : ItemsOk 0 i0) (o1 : ItemsOk 1 i1) (o2 : ItemsOk 2 i2) : ∀ k, k < 3 → ∃ its, (bods i0 i1 i2)[k]? = some (bodyOf k its) ∧ ItemsOk k its := by
  intro k hk
  match k, hk with
  | 0, _ => exact ⟨i0, rfl, o0⟩
  | 1, _ => exact ⟨i1, rfl, o1⟩
  | 2, _ => exact ⟨i2, rfl, o2⟩
theorem bods_get {i0 i1 i2 : List Item} {k : Nat} {b : List (String × Int)} (h : (bods i0 i1 i2)[k]? = some b) (o0 : ItemsOk 0 i0) (o1 : ItemsOk 1 i1) (o2 : ItemsOk 2 i2) : ∃ its, b = bodyOf k its ∧ ItemsOk k its := by
  have hk : k < 3 := (List.getElem?_eq_some_iff.mp h).1
  obtain ⟨its, e, ok⟩ := bods_at o0 o1 o2 k hk
  exact ⟨its, Option.some.inj (h.symm.trans e), ok⟩
theorem bods_mem {i0 i1 i2 : List Item} {b : List (String × Int)} (h : b ∈ bods i0 i1 i2) (o0 : ItemsOk 0 i0) (o1 : ItemsOk 1 i1) (o2 : ItemsOk 2 i2) : ∃ k its, b = bodyOf k its ∧ ItemsOk k its := by
  obtain ⟨k, hk⟩ := List.getElem?_of_mem h
  exact ⟨k, bods_get hk o0 o1 o2⟩
theorem body_len10 {k : Nat} {its : List Item} (ok : ItemsOk k its) : (bodyOf k its).length ≤ 10 ∧ 4 ≤ (bodyOf k its).length := by
  have := rowsOf_len its
  have := ok.1
  rw [bodyOf]; simp only [List.length_append, List.length_cons, List.length_nil]; omega
theorem nest_len0 {bs : List (List (String × Int))} {bgs : Nat → Int} {wide : Int} (hbs : ∀ k, k < 3 → ∃ its, bs[k]? = some (bodyOf k its) ∧ ItemsOk k its) : (nest bs bgs wide 3 0 [] []).length ≤ 119 := by
  obtain ⟨its, hb, hok⟩ := hbs 0 (by decide)
  have hlM := body_len (rec_ := nest bs bgs wide 2) (wide := wide) (b := bgs 0) (len := (bodyOf 0 its).length) (ops := []) (frs := []) hok (c := 38) (by decide) fun k2 ops frs a b => by
    have := nest_len (bgs := bgs) (wide := wide) hbs 2 k2 ops frs (by omega) b
    split at this <;> omega
  rw [nest_seq hb, if_pos rfl, List.length_append]
  simp only [List.length_cons, List.length_nil]; omega
theorem framed_len (len j : Nat) (ops frs : List Int) : (framedOf len j ops frs).length ≤ frs.length + 1 := by
  unfold framedOf
  split
  · rw [List.length_append]; have := ownOf_len ops; omega
  · omega
theorem nest_small {bs : List (List (String × Int))} {bgs : Nat → Int} {wide : Int} : ∀ (f k : Nat) (ops frs : List Int) (m : Mom), m ∈ nest bs bgs wide f k ops frs → m.2.1.length ≤ ops.length + f ∧ m.2.2.1.length ≤ frs.length + f
  | 0, _, _, _, _, h => nomatch h
  | f + 1, k, ops, frs, m, h => by
    rw [nest] at h
    rcases List.mem_append.mp h with h | h
    · obtain ⟨j, _, h⟩ := List.mem_flatMap.mp h
      unfold momsAt at h
      rcases List.mem_cons.mp h with rfl | h
      · have := framed_len (bs.getD k []).length j ops frs
        exact ⟨by dsimp only; omega, by dsimp only; omega⟩
      · split at h
        · have h1 := nest_small f _ _ _ m h
          have := framed_len (bs.getD k []).length j ops frs
          simp only [List.length_cons] at h1
          exact ⟨by omega, by omega⟩
        · cases h
    · split at h
      · rw [List.mem_singleton.mp h]; exact ⟨by dsimp only; omega, by dsimp only; omega⟩
      · cases h
noncomputable def rowAt (bgs : Nat → Int) (begin wide : Int) (all : List (String × Int)) (p : Int) : Option (Ins × Int) :=
  ((List.range all.length).find? fun N : Nat => decide (begin + wide * (N : Int) = p)).bind fun N => (all[N]?).map fun r => (rowIns bgs wide p r, wide)
theorem rowAt_of {bgs : Nat → Int} {begin wide : Int} {all : List (String × Int)} {N : Nat} {r : String × Int} (hw : 1 ≤ wide) (h : all[N]? = some r) : rowAt bgs begin wide all (begin + wide * (N : Int)) = some (rowIns bgs wide (begin + wide * (N : Int)) r, wide) := by
  have hN := (List.getElem?_eq_some_iff.mp h).1
  have e : (List.range all.length).find? (fun M : Nat => decide (begin + wide * (M : Int) = begin + wide * (N : Int))) = some N := by
    rw [List.find?_range_eq_some]
    refine ⟨by simp, List.mem_range.mpr hN, fun M hM => ?_⟩
    simp only [Bool.not_eq_true', decide_eq_false_iff_not]
    intro e
    have h1 : wide * (M : Int) = wide * (N : Int) := by omega
    have h2 : (M : Int) = N := Int.eq_of_mul_eq_mul_left (by omega) h1
    omega
  unfold rowAt
  rw [e]
  simp only [Option.bind_some, h, Option.map_some]
theorem rowAt_some {bgs : Nat → Int} {begin wide : Int} {all : List (String × Int)} {p : Int} {ins : Ins} {wd : Int} (h : rowAt bgs begin wide all p = some (ins, wd)) : ∃ (N : Nat) (r : String × Int), all[N]? = some r ∧ p = begin + wide * (N : Int) ∧ ins = rowIns bgs wide p r ∧ wd = wide := by
  unfold rowAt at h
  obtain ⟨N, hN, h⟩ := Option.bind_eq_some_iff.mp h
  have hp := List.find?_some hN
  obtain ⟨r, hr, e⟩ := Option.map_eq_some_iff.mp h
  simp only [Prod.mk.injEq] at e
  exact ⟨N, r, hr, (of_decide_eq_true hp).symm, e.1.symm, e.2.symm⟩
theorem prg_of {i0 i1 i2 : List Item} {begin wide : Int} (o0 : ItemsOk 0 i0) (o1 : ItemsOk 1 i1) (o2 : ItemsOk 2 i2) (hw : 1 ≤ wide) (hw6 : wide ≤ 6) (hb0 : 0 ≤ begin) (hb1 : begin < 2000000000000) (bgs : Nat → Int) (h0 : bgs 0 = begin) (h1 : bgs 1 = begin + wide * ((bodyOf 0 i0).length : Int)) (h2 : bgs 2 = begin + wide * ((bodyOf 0 i0).length + (bodyOf 1 i1).length : Int)) :
    Prg (rowAt bgs begin wide (bods i0 i1 i2).flatten) (bods i0 i1 i2) bgs wide := by
  have l0 := body_len10 o0
  have l1 := body_len10 o1
  have l2 := body_len10 o2
  have hbg : ∀ k, k < 3 → bgs k = begin + wide * ((((bods i0 i1 i2).take k).flatten.length : Nat) : Int) := by
    intro k hk
    match k, hk with
    | 0, _ => rw [h0]; simp
    | 1, _ => rw [h1]; simp [bods]
    | 2, _ => rw [h2]; simp [bods]
  refine ⟨fun k body j r hb hr => ?_, fun k body j hb hj => ?_⟩
  · have hk : k < 3 := (List.getElem?_eq_some_iff.mp hb).1
    have e : bgs k + wide * (j : Int) = begin + wide * (((((bods i0 i1 i2).take k).flatten.length + j : Nat)) : Int) := by
      rw [hbg k hk, Int.natCast_add, Int.mul_add]; omega
    rw [e]
    exact rowAt_of hw (flat_at _ k j hb hr)
  · have hk : k < 3 := (List.getElem?_eq_some_iff.mp hb).1
    obtain ⟨its, rfl, ok⟩ := bods_get hb o0 o1 o2
    have lk := body_len10 ok
    have hT : ((bods i0 i1 i2).take k).flatten.length ≤ 20 := by
      match k, hk with
      | 0, _ => simp
      | 1, _ => simp [bods]; omega
      | 2, _ => simp [bods]; omega
    rw [hbg k hk]
    have b1 : 0 ≤ wide * ((((bods i0 i1 i2).take k).flatten.length : Nat) : Int) := Int.mul_nonneg (by omega) (by omega)
    have b2 : wide * ((((bods i0 i1 i2).take k).flatten.length : Nat) : Int) ≤ 6 * 20 := Int.mul_le_mul hw6 (by omega) (by omega) (by omega)
    have b3 : 0 ≤ wide * (j : Int) := Int.mul_nonneg (by omega) (by omega)
    have b4 : wide * (j : Int) ≤ 6 * 10 := Int.mul_le_mul hw6 (by omega) (by omega) (by omega)
    omega
noncomputable abbrev nsOf (i0 i1 : List Item) (beg wide : Int) : List Int := [beg, beg + wide * ((bodyOf 0 i0).length : Int), beg + wide * ((bodyOf 0 i0).length + (bodyOf 1 i1).length : Int)]
theorem ns_at {i0 i1 i2 : List Item} {beg wide : Int} : ∀ i, i < (bods i0 i1 i2).length → (nsOf i0 i1 beg wide).getD i 0 = beg + wide * ((((bods i0 i1 i2).take i).flatten.length : Nat) : Int) := by
  intro i hi
  have hi : i < 3 := hi
  match i, hi with
  | 0, _ => simp [nsOf]
  | 1, _ => simp [nsOf, bods]
  | 2, _ => simp [nsOf, bods]
theorem bods_size {i0 i1 i2 : List Item} (o0 : ItemsOk 0 i0) (o1 : ItemsOk 1 i1) (o2 : ItemsOk 2 i2) : (bods i0 i1 i2).flatten.length ≤ 60 := by
  have := body_len10 o0
  have := body_len10 o1
  have := body_len10 o2
  simp [bods]; omega
noncomputable def PrgF (G : Gx) (bgs : Nat → Int) (begin wide : Int) (all : List (String × Int)) (fd : Addr) : HP :=
  ⟨fun l z _ => l = [] ∧ ∃ kvs o, z.get? fd = some o ∧ o.IsDictOf (intKind G.prog G.w) kvs ∧ Laid G.w z kvs bgs begin wide all all.length ∧ (fd == sysModules) = false,
    fun ⟨e, kvs, o, g, d, y, lo⟩ kz _ => ⟨e, kvs, o, kz _ _ g, d, y.keeps kz, lo⟩, fun ⟨e, _⟩ a ha => by rw [e] at ha; cases ha⟩
theorem PrgD.freeze {G : Gx} {bgs : Nat → Int} {begin wide : Int} {all : List (String × Int)} {fd : Addr} : Ent [PrgD G bgs begin wide all fd all.length] [PrgF G bgs begin wide all fd] := .freeze fun l z h z' ⟨e, kvs, o, g, d, y, lo⟩ kz kh => ⟨rfl, kvs, o, kh _ (e ▸ .head _) _ g, d, y.keeps kz, lo⟩
section
variable {G : Gx} {rn : Nat} {c : Fx G rn} {m : Lm} {N N1 : List HP} {e e1 e2 o : PySem.Expr} {p pa : Pos} {K : Value → List HP → Prop} {P : Flow → Lm → List HP → Prop} {rest : List Stmt} {j n : Nat} {Z : Dz} {q : PS} {bgs : Nat → Int} {begin wide : Int} {all : List (String × Int)} {fd dl fo : Addr} {ins : Ins} {wd : Int}
noncomputable def AtF (G : Gx) (fd fo : Addr) (k : Int) : HP := Fz (fun z => (fd == sysModules) = false ∧ ∃ f, z.MapOf (intKind G.prog G.w) fd f ∧ f k = some (.ref fo)) fun _ _ x kz => by
  obtain ⟨lo, f, ⟨o, es, n, g, r⟩, hf⟩ := x
  exact ⟨lo, f, ⟨o, es, n, kz _ _ g, r⟩, hf⟩
theorem prg_row {k : Int} {l : List Addr} {z h : Heap} (hr : rowAt bgs begin wide all k = some (ins, wd)) (x : (PrgF G bgs begin wide all fd).ok l z h) : ∃ b : Addr × Addr, True ∧ ∀ F ∈ [DecF G b.1 b.2 wd, InsE G b.2 ins, AtF G fd b.1 k], F.ok [] z h := by
  obtain ⟨_, kvs, o, gp, hd, L, lo⟩ := x
  obtain ⟨i, r, hr1, hp, rfl, rfl⟩ := rowAt_some hr
  obtain ⟨fo, j, hv, hdec, hins⟩ := L.2 i r (List.getElem?_eq_some_iff.mp hr1).1 hr1
  exact ⟨(fo, j), trivial, List.forall_mem_cons.mpr ⟨⟨rfl, hdec⟩, List.forall_mem_cons.mpr ⟨⟨rfl, hp ▸ hins⟩, List.forall_mem_cons.mpr ⟨⟨rfl, lo, _, (Heap.dictOf_iff.mpr ⟨o, gp, hd⟩).mapOf, hp ▸ hv⟩, nofun⟩⟩⟩⟩
theorem StE.len4 {l : List Addr} {z h : Heap} (x : (StE G Z q n).ok l z h) : 4 < q.ns.length := by
  obtain ⟨S, _, e0, _, _, _, z0, _, O⟩ := x
  subst e0
  show 4 < S.ns.length
  rw [O.len]; decide
theorem Sa.atF {h : Heap} {k : Int} (S : Sa c m N h) (hN : N[j]? = some (AtF G fd fo k)) : (fd == sysModules) = false ∧ ∃ f, h.MapOf (intKind G.prog G.w) fd f ∧ f k = some (.ref fo) := by
  obtain ⟨z, l, zh, _, lo, f, ⟨o, es, n', g, r⟩, hf⟩ := S.get hN
  exact ⟨lo, f, ⟨o, es, n', zh _ _ g, r⟩, hf⟩
theorem Et.notAt {k : Int} (h1 : Ev c m N e1 (.int k)) (h2 : Ev c m N e2 (.ref fd)) (hN : N[j]? = some (AtF G fd fo k)) (hm : behindInMarks .NotIn e2 = false) : Et c m N (.Compare e1 [.NotIn] [e2] p) false := Tx.cmp (h1.use fun v1 d1 => h2.ref fun h tk S => by
  obtain ⟨_, e⟩ := d1
  subst e
  obtain ⟨lo, f, hf, hk⟩ := S.atF hN
  exact wpAny_notIn_of (s := c.at h tk) (intKind_is _ _ _ _) lo hf ⟨h, _, _, rfl, S, false, by rw [hk]; rfl, rfl, rfl⟩) hm
theorem Ev.atF {k : Int} (h1 : Ev c m N e1 (.ref fd)) (h2 : Ev c m N e2 (.int k)) (hN : N[j]? = some (AtF G fd fo k)) (hs : ∀ u, subscripted e2 false (.ref fd) (.int k u) = operate [.ref fd, .int k u] (getItem (.ref fd) (.int k u))) : Ev c m N (.Subscript e1 e2 p) (.ref fo) := fun h tk S => Subscript_ (Ev.goR h1 S fun h' tk' S' => Ev.go h2 S' fun v2 h3 tk2 S2 d => by
  obtain ⟨_, e⟩ := d
  subst e
  obtain ⟨lo, f, hf, hk⟩ := S2.atF hN
  exact tail_any (s := c.at h3 tk2) hf.typeIs slot_dict_getitem.lookup (wpAny_getItem_of (intKind_is _ _ _ _) hf hk ⟨h3, _, _, rfl, S2, rfl, rfl⟩) (hs _))
theorem t_row (hh : q.halted = false) (hr : rowAt bgs begin wide all q.rip = some (ins, wd)) (hn : n ≤ 90000) :
    Tr G 12 (.ref 701) [.ref Z.st, .ref fd, .ref dl] [Ls false eAV dl [.ref 1064], PrgF G bgs begin wide all fd, StE G Z q n] fun v N' => N' = [Fact (eDec G.w) v (ins, wd), StE G Z (exec ins { q with rip := (q.rip + wd) % 18446744073709551616 }) (n + 8)] := by
  refine fill_of G.X ?_; k_fill; intro _
  refine' Tr.enter [Str.ofString "state", Str.ofString "program", Str.ofString "deeds"] ?ho ?hcd ?hb ?ok ?_
  case ho => k_is
  case hcd => k_is
  case hb =>
    intro s vs X h
    cases h with | cons r h => cases h with | cons r h => cases h with | cons r h => cases h; exact BindsTo.of_eq rfl
  case ok => kernel_rfl
  intro d
  show Wk _ [(Str.ofString "deeds", .ref dl), (Str.ofString "program", .ref fd), (Str.ofString "state", .ref Z.st)] _ _ _
  dsimp only [HD.B53, HD.C53, HD.qB53, HD.qC53]
  refine Wk.open (β := Unit) (φ := fun _ => 4 < q.ns.length) (Q' := fun _ => StE G Z q n) 2 rfl (fun l z h x => ⟨(), StE.len4 x, x⟩) fun _ hl => ?_
  refine Wk.also (β := Addr × Addr) (φ := fun _ => True) (Fs := fun b => [DecF G b.1 b.2 wd, InsE G b.2 ins, AtF G fd b.1 q.rip]) 1 rfl (fun l z h x => prg_row hr x) fun b _ => ?_
  refine Wk.expr (Ex.callT (ks := [.ref Z.st]) (by walk_at "sl:fn") (.cons (by walk_at "sl:ev") .nil rfl) (t_need hh) [false, false, true] rfl (by kernel_rfl) fun u N1 e => ?_) (by rfl) (by rfl)
  subst e
  refine Wk.ifK (b := false) (Et.notAt (j := 5) (fo := b.1) (Ev.rip (i := 2) (by walk_at "sl:ev") rfl rfl) (by walk_at "sl:ev") rfl rfl) (.nil ?_)
  refine Wk.set (k := .ref b.1) (Ev.atF (j := 5) (fd := fd) (by walk_at "sl:ev") (Ev.rip (i := 2) (by walk_at "sl:ev") rfl rfl) rfl fun u => by with_unfolding_all rfl) (by kernel_rfl) (by rfl) ?_
  refine Wk.vs [true] Ls.freeze (Wk.expr (Ex.callT (ks := [.ref Z.st, .ref b.1, .ref dl]) (by walk_at "sl:fn") (.cons (by walk_at "sl:ev") (.cons (by walk_at "sl:ev") (.cons (by walk_at "sl:ev") .nil rfl) rfl) rfl) (t_proceed (i := b.2) hn hl) [true, false, true, true, true] rfl (by kernel_rfl) fun u N1 e => ?_) (by rfl) (by rfl))
  subst e
  refine Wk.retS (Ev.ref (a := b.1) (by walk_at "sl:ev") ⟨_, .trans (fun h S => Fact.new (R := eDec G.w) (v := .ref b.1) (y := (ins, wd)) (fun z ls h O => ?_) S) (Sh.vs [false, true, true, false, true, true, true] .drops), rfl⟩)
  obtain ⟨_, d1, _⟩ := O.ok.get (i := 3) rfl
  obtain ⟨_, d2, _⟩ := O.ok.get (i := 4) rfl
  exact ⟨b.1, b.2, rfl, d1.2, d2.2⟩
end
noncomputable def AdvG (G : Gx) (Z : Dz) : HP := ⟨fun l z _ => l = [] ∧ FnAt Z.adv z ∧ AdvZ G Z z, fun x k _ => ⟨x.1, fnAt_keep x.2.1 k, x.2.2.keeps k⟩, fun x a ha => by rw [x.1] at ha; cases ha⟩
theorem adv_of {G : Gx} {Z : Dz} {LH : HP} (T : ∀ q n ins wd, q.halted = false → Z.row q.rip = some (ins, wd) → n ≤ 90000 → Tr G 13 (.ref Z.adv) [.ref Z.st] [LH, StE G Z q n] fun v N' => N' = [Fact (eDec G.w) v (ins, wd), StE G Z (exec ins { q with rip := (q.rip + wd) % 18446744073709551616 }) (n + 8)]) (hF : ∀ l z h, LH.ok l z h → l = [] ∧ FnAt Z.adv z ∧ ∀ h', LH.ok [] z h') : Ent [LH] [AdvG G Z] := fun z ls h O => by
  obtain ⟨l, rfl, x⟩ := O.one
  obtain ⟨rfl, fn, hx⟩ := hF _ _ _ x
  refine ⟨z, [[]], ⟨O.zh, .cons ⟨rfl, fn, fun q n ins wd h1 h2 h3 A s z' ls vs rm zz hz hs O' ha => ?_⟩ .nil, List.nodup_nil, fun _ q => nomatch q⟩, .rfl'⟩
  exact T q n ins wd h1 h2 h3 A s z' ([] :: ls) vs rm hz hs ⟨O'.zh, .cons (LH.mono (hx s.heap) zz fun a ha => nomatch ha) O'.ok, O'.nd, O'.off⟩ ha
noncomputable def TabF (G : Gx) (a : Addr) : HP := Fz (fun z => TabAt (intKind G.prog G.w) PyData.int z a []) fun _ _ x k => TabAt.keep x k
theorem dbg_des {P : Params} {des : List DictEntry} {st adv pts wts cl brk : Addr} (y : All2 (EntD P) des [(Str.ofString "state", .ref st), (Str.ofString "advance", .ref adv), (Str.ofString "points", .ref pts), (Str.ofString "watches", .ref wts), (Str.ofString "calls", .ref cl), (Str.ofString "broken", .ref brk), (Str.ofString "count", .int 0), (Str.ofString "latest", .str ""), (Str.ofString "what", .str "")]) : ∃ k tc tl wh, dictOf des des.length = dbD P k st adv pts wts cl brk (.int 0 tc) (.str (Str.ofString "") tl) wh := by
  obtain ⟨f, e, d⟩ := entD_get y
  obtain ⟨tc, d6⟩ := (d 6 _ rfl : ∃ t, (f 6).val = .int 0 t)
  obtain ⟨tl, d7⟩ := (d 7 _ rfl : ∃ t, (f 7).val = .str (Str.ofString "") t)
  refine ⟨fun i => tokOf (f i).key, tc, tl, (f 8).val, ?_⟩
  rw [e]
  show dictOf [⟨_, _, (f 0).val⟩, ⟨_, _, (f 1).val⟩, ⟨_, _, (f 2).val⟩, ⟨_, _, (f 3).val⟩, ⟨_, _, (f 4).val⟩, ⟨_, _, (f 5).val⟩, ⟨_, _, (f 6).val⟩, ⟨_, _, (f 7).val⟩, ⟨_, _, (f 8).val⟩] 9 = _
  rw [show (f 0).val = .ref st from d 0 _ rfl, show (f 1).val = .ref adv from d 1 _ rfl, show (f 2).val = .ref pts from d 2 _ rfl, show (f 3).val = .ref wts from d 3 _ rfl, show (f 4).val = .ref cl from d 4 _ rfl, show (f 5).val = .ref brk from d 5 _ rfl, d6, d7]
theorem dbg_mk {G : Gx} {Z : Dz} {x cl brk wts pts : Addr} {z h : Heap} {l : List Addr} {N : List HP} {ls : List (List Addr)} (O : Own z ls N h) (h0 : N[0]? = some (Ls true eInt brk [])) (h2 : N[2]? = some (Ls true eInt wts [])) (h3 : N[3]? = some (TabF G pts)) (h5 : N[5]? = some (AdvG G Z)) (y : (NewO G 234 x [(Str.ofString "state", .ref Z.st), (Str.ofString "advance", .ref Z.adv), (Str.ofString "points", .ref pts), (Str.ofString "watches", .ref wts), (Str.ofString "calls", .ref cl), (Str.ofString "broken", .ref brk), (Str.ofString "count", .int 0), (Str.ofString "latest", .str ""), (Str.ofString "what", .str "")]).ok l z h) : (DbE G ⟨x, Z.st, Z.rl, Z.mem, cl, Z.adv, brk, wts, pts, Z.row⟩ 0 (Str.ofString "")).ok l z h := by
  obtain ⟨b, y, e, g4, g5⟩ := y
  obtain ⟨k, tc, tl, wh, e5⟩ := dbg_des y
  rw [e5] at g5
  obtain ⟨_, ⟨_, vs1, n1, g1, y1⟩, _⟩ := O.ok.get h0
  obtain ⟨_, ⟨_, vs3, n3, g3, y3⟩, _⟩ := O.ok.get h2
  obtain ⟨_, hT, _⟩ := O.ok.get h3
  obtain ⟨_, hA, _⟩ := O.ok.get h5
  cases y1
  cases y3
  exact ⟨⟨b.1, k, tc, tl, wh⟩, e, g4, g5, ⟨hT.2, ⟨_, g3⟩, _, g1⟩, hA.2.1, hA.2.2⟩
theorem t_Dbg {G : Gx} {Z : Dz} : Tr G 8 (.ref 234) [.ref Z.st, .ref Z.adv] [AdvG G Z] fun v N' => ∃ x cl brk wts pts, v = .ref x ∧ N' = [DbE G ⟨x, Z.st, Z.rl, Z.mem, cl, Z.adv, brk, wts, pts, Z.row⟩ 0 (Str.ofString ""), Ls false eCall cl []] := by
  refine fill_of G.X ?_; k_fill; intro _
  refine' Tr.make (dks := []) (ds := []) [Str.ofString "self", Str.ofString "state", Str.ofString "advance"] ?hmk ?hi ?hf ?ho ?hcd ?hd ?hb ?ok ?_
  case hmk => k_is
  case hi => k_is
  case hf => k_is
  case ho => k_is
  case hcd => k_is
  case hd => exact .nil
  case hb =>
    intro s vs x X h
    cases h with | cons r h => cases h with | cons r h => cases h; exact BindsTo.of_eq rfl
  case ok => kernel_rfl
  intro d x
  dsimp only [HD.B13_0, HD.C13_0, HD.qB13_0, HD.qC13_0]
  show Wk _ [(Str.ofString "advance", .ref Z.adv), (Str.ofString "state", .ref Z.st), (Str.ofString "self", .ref x)] _ _ _
  refine Wk.setNew (j := 0) (C := 234) (Ev.use (k := .ref Z.st) (by walk_at "sl:ev") fun v d => ⟨_, _, rfl, rfl, Nat.le_of_ble_eq_true rfl, d, ?_⟩) (fun N => by walk_at "sl:ev") (by kernel_rfl) (by rfl)
  refine Wk.setNew (j := 0) (C := 234) (Ev.use (k := .ref Z.adv) (by walk_at "sl:ev") fun v d => ⟨_, _, rfl, rfl, Nat.le_of_ble_eq_true rfl, d, ?_⟩) (fun N => by walk_at "sl:ev") (by kernel_rfl) (by rfl)
  refine Wk.setNew (j := 1) (C := 234) (Ex.dictE fun pts => ⟨_, .ref pts, rfl, rfl, Nat.le_of_ble_eq_true rfl, rfl, Wk.vs (N1' := [TabF G pts]) [true] (.freeze fun l z h z' y kz kh => ?_) ?_⟩) (fun N => by walk_at "sl:ev") (by kernel_rfl) (by rfl)
  · obtain ⟨e, lo, o, g, k⟩ := y
    exact ⟨rfl, TabAt.ofObj lo (kh _ (e ▸ .head _) _ g) k .nil⟩
  refine Wk.setNew (j := 2) (C := 234) (Ex.nilL eInt fun wts => ⟨_, .ref wts, rfl, rfl, Nat.le_of_ble_eq_true rfl, rfl, Wk.vs [true] Ls.freeze ?_⟩) (fun N => by walk_at "sl:ev") (by kernel_rfl) (by rfl)
  refine Wk.setNew (j := 3) (C := 234) (Ex.nilL eCall fun cl => ⟨_, .ref cl, rfl, rfl, Nat.le_of_ble_eq_true rfl, rfl, ?_⟩) (fun N => by walk_at "sl:ev") (by kernel_rfl) (by rfl)
  refine Wk.setNew (j := 4) (C := 234) (Ex.nilL eInt fun brk => ⟨_, .ref brk, rfl, rfl, Nat.le_of_ble_eq_true rfl, rfl, Wk.vs [true] Ls.freeze ?_⟩) (fun N => by walk_at "sl:ev") (by kernel_rfl) (by rfl)
  refine Wk.setNew (j := 4) (C := 234) (Ev.use (k := .int 0) Ev.int fun v d => ⟨_, _, rfl, rfl, Nat.le_of_ble_eq_true rfl, d, ?_⟩) (fun N => by walk_at "sl:ev") (by kernel_rfl) (by rfl)
  refine Wk.setNew (j := 4) (C := 234) (Ev.use (k := .str "") Ev.str fun v d => ⟨_, _, rfl, rfl, Nat.le_of_ble_eq_true rfl, d, ?_⟩) (fun N => by walk_at "sl:ev") (by kernel_rfl) (by rfl)
  refine Wk.setNew (j := 4) (C := 234) (Ev.use (k := .str "") Ev.str fun v d => ⟨_, _, rfl, rfl, Nat.le_of_ble_eq_true rfl, d, ?_⟩) (fun N => by walk_at "sl:ev") (by kernel_rfl) (by rfl)
  refine .conv (Q' := DbE G ⟨x, Z.st, Z.rl, Z.mem, cl, Z.adv, brk, wts, pts, Z.row⟩ 0 (Str.ofString "")) 4 rfl (fun z ls h l O nd y => dbg_mk O rfl rfl rfl rfl y) (.vs [true, false, true, true, false, true] .drops (.vs [true, true] .swap (.nil ⟨rfl, x, cl, brk, wts, pts, rfl, rfl⟩)))
theorem t_lam {G : Gx} {Z : Dz} {f c' pc fd : Addr} {qual : Str} {scope : Scope} {bgs : Nat → Int} {begin wide : Int} {all : List (String × Int)} {p1 p2 p3 p4 p5 p6 pp : Pos} (hf : f = Z.adv) (hrow : Z.row = rowAt bgs begin wide all) (hsc : scope = { kind := .function, names := [(Str.ofString "some", .local), (Str.ofString "program", .free), (Str.ofString "step_row", .globalImplicit), (Str.ofString "transfer_deed", .globalImplicit)], isGenerator := false, isCoroutine := false }) :
    Ent [.two (.two (CelF pc (.ref fd)) (PrgF G bgs begin wide all fd)) (LamF G f c' qual { posonlyargs := [], args := [{ arg := Str.ofString "some", annotation := none, pos := pp }], vararg := none, kwonlyargs := [], kw_defaults := [], kwarg := none, defaults := [] } (.Call (.Name (Str.ofString "step_row") p1) [.Name (Str.ofString "some") p2, .Name (Str.ofString "program") p3, .List [.Name (Str.ofString "transfer_deed") p4] p5] [] p6) scope [(Str.ofString "program", pc)])] [AdvG G Z] := by
  subst hsc
  refine adv_of (fun q n ins wd hh hr hn => ?_) fun l z h ⟨⟨x1, x2⟩, x3⟩ => ⟨x1.1, hf ▸ (LamF.fn (fun _ _ e => e) x3 : FnAt f z), fun h' => ⟨⟨⟨rfl, x1.2⟩, rfl, x2.2⟩, rfl, x3.2⟩⟩
  rw [hrow] at hr
  subst hf
  refine Tr.enterL [Str.ofString "some"] (fun _ _ _ x => x.2) (fun vs pm ctv h => by cases h with | cons r h => cases h; cases r; rfl) (by kernel_rfl) fun dd => ?_
  show Ex _ [(Str.ofString "some", .ref Z.st)] _ _ _
  refine Ex.sh (Ex.call (by walk_at "sl:fn") (by kernel_rfl) (.cons (Ev.use (k := .ref Z.st) (by walk_at "sl:ev") fun v1 d1 => .cons (Ev.use (k := .ref fd) (Ev.cellH (i := 0) (a := pc) rfl (fun l z h zh ⟨⟨⟨_, w, g, dw⟩, _⟩, _⟩ => ⟨w, g.keeps zh, dw⟩) rfl (by kernel_rfl)) fun v2 d2 => Xs.shl (.add (Q' := PrgF G bgs begin wide all fd) (i := 0) rfl fun l z h zh ⟨⟨_, x⟩, _⟩ => ⟨rfl, x.2⟩) (.cons (Ex.listK (ks := [.ref 1064]) (.cons (Ev.glob (k := .ref 1064) rfl (by kernel_rfl) rfl) .nil rfl) (Nat.le_of_ble_eq_true rfl) fun dl => .nil (Sm.tr (t_row hh hr hn) (Nat.le_refl _) [true, true, false, true] rfl (.cons d1 (.cons d2 (.cons rfl .nil))) fun v N1 e => by subst e; exact ⟨_, .vs [false, false, true] .drop, rfl⟩)) rfl)) rfl) rfl) rfl)
section
variable {G : Gx} {rn : Nat} {c : Fx G rn} {m m' : Lm} {N N' N1 : List HP} {e e0 e1 e2 o : PySem.Expr} {es : List PySem.Expr} {k k1 k2 : AV} {ks : List AV} {x x2 : Str} {p p' pos : Pos} {K K' : Value → List HP → Prop} {P P' : Flow → Lm → List HP → Prop} {rest : List Stmt} {a b d : Addr} {i j n : Nat} {α : Type} {R : ER α} {xs : List α} {fz : Bool} {keys : List (Option PySem.Expr)} {values : List PySem.Expr}
theorem Sm.listOf (hN : N[i]? = some (Ls fz R b xs)) (hl : xs.length ≤ 1000000) (hk : ∀ a, K (.ref a) (Ls false R a xs :: N)) : Sm c m N (PySem.call (.type "list") [.ref b]) K := fun h tk S => by
  obtain ⟨f, z, ls, ag, X⟩ := S
  obtain ⟨vs, n, g, y⟩ := X.own.list hN
  exact call_list_seq (s := c.at h tk) (hsz := sizeLine_of (by rw [List.size_toArray, y.length]; exact hl)) b (.inl rfl) g rfl rfl fun h' c' hk' hD => ⟨h', tk, _, rfl, .newL (P := Ls false R h.objs.size xs) (a := h.objs.size) ag X (fr_off X.F hk') (fun b o _ e => hk' b o e) (Heap.get?_none_of_le (Nat.le_refl _)) ⟨rfl, vs, c', hD, y⟩, hk _⟩
theorem Sm.sum {xs : List Int} (hN : N[i]? = some (Ls fz eInt a xs)) : Sm c m N (PySem.call (.builtin "sum") [.ref a]) (Is (.int xs.sum) N) := fun h tk S => by
  obtain ⟨f, z, ls, ag, X⟩ := S
  obtain ⟨vs, n, g, y⟩ := X.own.list hN
  obtain ⟨F, Rs, N0, hR⟩ := X.all
  refine LSm.sum_ints (s := c.at h tk) F N0 c.d.rm.hh ⟨_, g, rfl, n, rfl⟩ (intsAre y) fun h' tk' t' F' N' => ⟨h', tk', N, rfl, ?_, rfl, t', rfl⟩
  have keep : ∀ b o, b ≠ c.L → h.get? b = some o → h'.get? b = some o := fun b o hb e => (N' _ (hR b o hb e)).1
  exact .idleL ag X ⟨F'.ns, fun b o e => keep b o (fun q => by have := X.F.above; exact absurd (q ▸ Heap.lt_size e) (Nat.not_lt.mpr this)) (X.F.keep b o e), X.F.above⟩ keep
theorem Ev.shl40 : Ev c m N (.BinOp (.Constant (.int 1) 0 p) .LShift (.Constant (.int 40) 0 p') pos) (.int 1099511627776) := Ev.bin (k1 := .int 1) (k2 := .int 40) Ev.int Ev.int fun v1 v2 s Q ⟨_, e1⟩ ⟨_, e2⟩ y => by subst e1 e2; exact lshift_int (by decide) (by decide) (y _ _ ⟨_, rfl⟩)
noncomputable def Stores (c : Fx G rn) : Lm → List HP → List (Str × Value) → (Lm → List HP → Prop) → Prop
  | m, N, [], K => K m N
  | m, N, (x, v) :: r, K => (∃ k, k.den v ∧ localOk c.st x = true ∧ Stores c ((x, k) :: m) N r K) ∨
      ∃ k k0 a j, k.den v ∧ N[j]? = some (Cel a k0) ∧ (c.st.cl c.L).lookup x = some a ∧ (c.st.cs.kind == .function && (envX c.st.cn c.st.cs 0 c.st.a c.st.cd []).kindOf x == some .cell) = true ∧ Stores c m (N.set j (Cel a (some k))) r K
theorem Stores.run {ts : List (Value → Sem Unit)} {names : List Str} (ht : All2 (fun t x => ∀ v s (Q : Unit → Shared → Prop), wpAny (model G.prog G.w) c.A (storeName c.env x v) Q No s → wpAny (model G.prog G.w) c.A (t v) Q No s) ts names) : ∀ {vs : List Value} {m : Lm} {N : List HP} {K : Lm → List HP → Prop} {h : Heap} {tk : Nat} {Q : Unit → Shared → Prop}, names.length = vs.length → Stores c m N (names.zip vs) K → Sa c m N h → (∀ h' tk' m' N', Sa c m' N' h' → K m' N' → Q () (c.at h' tk')) → wpAny (model G.prog G.w) c.A (assignInOrder ts vs) Q No (c.at h tk) := by
  induction ht with
  | nil =>
    intro vs m N K h tk Q hl y S q
    cases vs with
    | nil => exact assignInOrder_nil (q h tk m N S y)
    | cons => cases hl
  | @cons t x ts names r _ ih =>
    intro vs m N K h tk Q hl y S q
    cases vs with
    | nil => cases hl
    | cons v vs =>
      rcases y with ⟨k, d, ok, y⟩ | ⟨k, k0, a, j, d, hj, hc, ok, y⟩
      · exact assignInOrder_cons (r _ _ _ (Sn.store S d ok fun h' tk' S' _ => ih (Nat.succ.inj hl) y S' q))
      · simp only [Bool.and_eq_true, beq_iff_eq] at ok
        obtain ⟨z, l, zh, el, v0, g, _⟩ := S.get hj
        exact assignInOrder_cons (r _ _ _ (wpAny_storeName_cell (s := c.at h tk) (env := c.env) ok.1 ok.2 hc g fun h'' g' hs' => ih (Nat.succ.inj hl) y (S.put hj fun l z zh off ⟨el, _⟩ => ⟨fun b ob hb e => (hs'.2 b fun q => hb (by rw [el, q]; exact .head _)).trans e, el, _, g', v, rfl, d⟩) q))
theorem Wk.unpackC {elts : List PySem.Expr} {kk : Nat} {tpos pos : Pos} {names : List Str} (hx : Ex c m N e fun v N' => ∃ a vs, v = .ref a ∧ NF N' (fun z => eTup.r z (.ref a) vs) ∧ names.length = vs.length ∧ Stores c m N' (names.zip vs) fun m'' N'' => Wk c m'' N'' rest P)
    (he : All2 (fun e x => ∃ p, e = PySem.Expr.Name x p) elts names) (hs : swapsWithSole [.Tuple elts kk tpos] e pos.line c.env = pure false) (hw : swappedStores [.Tuple elts kk tpos] e c.env = pure none) : Wk c m N (.Assign [.Tuple elts kk tpos] e pos :: rest) P := fun h tk S => by
  refine wpAny_execs_cons (Assign_Tuple (Sm.go hx S fun v h' tk' N' S' y => ?_) hs hw)
  obtain ⟨a, vs, ev, hf, hl, y⟩ := y
  subst ev
  obtain ⟨f, z, ls, ag, X⟩ := id S'
  obtain ⟨a', n, ea, g⟩ := hf z ls h' X.own
  cases ea
  have hT : IsTup (c.at h' tk').heap a vs.toArray := ⟨_, X.own.zh _ _ g, rfl, n, rfl⟩
  have ha := each_names (c := c) he
  refine assign_Tuple_tuple c.d.rm.hh hT (by rw [ha.2.1, hl, List.size_toArray]) ha.2.2 fun h2 hx2 => ?_
  have S2 := S'.idle (h' := h2) fun b o e => hx2 b o (Nat.ne_of_lt (Heap.lt_size e)) e
  exact Stores.run ha.1 hl y S2 fun h3 tk3 m3 N3 S3 y3 => y3 h3 tk3 S3
end
theorem Ent.world {G : Gx} {wd bo bg mo : Addr} {wide : Int} : Ent [DctS G wd [(Str.ofString "bodies", .ref bo), (Str.ofString "begins", .ref bg), (Str.ofString "step", .int wide), (Str.ofString "moments", .ref mo)]] [Wrld G wd bo bg wide mo] := .freeze fun l z h z' ⟨e, lo, o, vs, g, hd, y⟩ kz kh => by
  have hd' : ∃ t, vs = [(Str.ofString "bodies", .ref bo), (Str.ofString "begins", .ref bg), (Str.ofString "step", .int wide t), (Str.ofString "moments", .ref mo)] := by
    obtain ⟨_, _, rfl, rfl, y6⟩ := pairs_inv y
    obtain ⟨_, _, rfl, rfl, y7⟩ := pairs_inv y6
    obtain ⟨_, _, rfl, ⟨t, rfl⟩, y8⟩ := pairs_inv y7
    obtain ⟨_, _, rfl, rfl, y9⟩ := pairs_inv y8
    cases y9
    exact ⟨t, rfl⟩
  obtain ⟨t, rfl⟩ := hd'
  exact ⟨rfl, o, t, kh _ (e ▸ .head _) _ g, hd⟩
section
variable {G : Gx} {rn : Nat} {c : Fx G rn} {m m' : Lm} {N N' N1 : List HP} {e e0 e1 e2 o : PySem.Expr} {es : List PySem.Expr} {k k1 k2 : AV} {ks : List AV} {x x2 : Str} {p p' pos : Pos} {K K' : Value → List HP → Prop} {P P' : Flow → Lm → List HP → Prop} {rest : List Stmt} {i j : Int}
theorem Ex.addE (h1 : Ev c m N e1 (.int i)) (h2 : Ex c m N e2 fun v N' => ∃ j : Int, (AV.int j).den v ∧ ∀ w, (AV.int (i + j)).den w → K w N') : Ex c m N (.BinOp e1 .Add e2 p) K :=
  Ex.bin (h1.use fun v1 ⟨t, e1⟩ => h2.mono fun v2 N2 ⟨j, ⟨u, e2⟩, hk⟩ h tk S => by subst e1 e2; exact PyProof.Rows.add_int ⟨h, _, N2, rfl, S, hk _ ⟨_, rfl⟩⟩)
theorem Ex.modE (hj : j ≠ 0) (h1 : Ex c m N e1 fun v N' => ∃ i : Int, (AV.int i).den v ∧ Ev c m N' e2 (.int j) ∧ ∀ w, (AV.int (i.fmod j)).den w → K w N') : Ex c m N (.BinOp e1 .Mod e2 p) K :=
  Ex.bin (h1.mono fun v1 N1 ⟨i, ⟨t, e1⟩, h2, hk⟩ => h2.use fun v2 ⟨u, e2⟩ h tk S => by subst e1 e2; exact PyProof.Rows.mod_int hj ⟨h, _, N1, rfl, S, hk _ ⟨_, rfl⟩⟩)
theorem Sm.intI {v : Value} (d : (AV.int i).den v) : Sm c m N (PySem.call (.type "int") [v]) (Is (.int i) N) := fun h tk S => by
  obtain ⟨t, rfl⟩ := d
  exact call_int_int ⟨h, tk, N, rfl, S, rfl, t, rfl⟩
theorem Ex.minE (hf : Ev c m N (.Name x p') (.val (Value.builtin "min"))) (h1 : Ex c m N e1 fun v N' => ∃ i : Int, (AV.int i).den v ∧ ∃ j : Int, Ev c m N' e2 (.int j) ∧ ∀ w, (AV.int (if j < i then j else i)).den w → K w N') (hp : (plainE e1 && plainE e2) = true) : Ex c m N (.Call (.Name x p') [e1, e2] [] p) K := by
  rw [Bool.and_eq_true] at hp
  refine Ex.callB hf (Xs.cons (h1.mono fun v N1 ⟨i, ⟨t, e1⟩, j, h2, hk⟩ => .cons (h2.use fun w d2 => .nil fun h tk S => ?_) hp.2) hp.1) (by simp [hp.1, hp.2])
  obtain ⟨u, rfl⟩ := d2
  subst e1
  refine min_two_ints (s := c.at h tk) c.d.rm.hh fun h' tk' hk' => ?_
  refine ⟨h', tk', N1, rfl, S.idle hk', hk _ ?_⟩
  split
  · exact ⟨_, rfl⟩
  · exact ⟨_, rfl⟩
theorem Wk.brk (h : P .brk m N) : Wk c m N (.Break p :: rest) P := fun hh tk S => wpAny_execs_cons (wpAny_Break ⟨hh, tk, m, N, rfl, S, h⟩)
end
noncomputable abbrev tabs : List HP := [TabE 186 108 30 (lamQ "Debugger.go"), TabE 200 115 30 (lamQ "Debugger.step_over"), TabE 207 119 30 (lamQ "Debugger.finish"), TabE 1120 860 31 (lamQ "law")]
theorem behind_ex {M : List Mom} {i : Nat} {most : Int} (hi : i + 1 < M.length) : ∃ g, Behind M i most g := by
  have key : ∀ d g0, g0 + d + 1 = M.length → i < g0 → (∀ j m, i < j → j < g0 → M[j]? = some m → ¬ (m.2.1.length : Int) ≤ most) → ∃ g, Behind M i most g := by
    intro d
    induction d with
    | zero => exact fun g0 e hl no => ⟨g0, hl, by omega, no, .inl (by omega)⟩
    | succ d ih =>
      intro g0 e hl no
      have h1 : M[g0]? = some M[g0] := List.getElem?_eq_getElem (by omega)
      by_cases c : (M[g0].2.1.length : Int) ≤ most
      · exact ⟨g0, hl, by omega, no, .inr ⟨_, h1, c⟩⟩
      · refine ih (g0 + 1) (by omega) (by omega) fun j m h2 h3 h4 => ?_
        by_cases e2 : j = g0
        · subst e2; rw [h1] at h4; cases h4; exact c
        · exact no j m h2 (by omega) h4
  exact key (M.length - (i + 1) - 1) (i + 1) (by omega) (by omega) fun j m h2 h3 _ => by omega
theorem behind_un {M : List Mom} {i g g' : Nat} {most : Int} (B : Behind M i most g) (B' : Behind M i most g') : g = g' := by
  have key : ∀ {g g' : Nat}, Behind M i most g → Behind M i most g' → ¬ g < g' := fun {g g'} B B' h => by
    rcases B.yes with e | ⟨m, e, hm⟩
    · have := B'.le; omega
    · exact B'.no g m B.lt h e hm
  have := key B B'
  have := key B' B
  omega
theorem Ent.perm {N N' : List HP} (p : N.Perm N') : Ent N N' := fun z ls h O => by
  obtain ⟨ls', q, O'⟩ := O.perm p
  exact ⟨z, ls', O', fun _ _ e => e, fun b o e _ => e, fun a x => x.imp id fun x => .inl (perm_flat q.symm a x)⟩
theorem Tx.post {G : Gx} {rn : Nat} {c : Fx G rn} {m : Lm} {N : List HP} {e : PySem.Expr} {K K' : Bool → List HP → Prop} (h : Tx c m N e K) (hk : ∀ b N' h, K b N' → Sa c m N' h → ∃ N'', Sa c m N'' h ∧ K' b N'') : Tx c m N e K' := fun h1 tk S => wpAny_mono (h h1 tk S) (fun v s' ⟨h', tk', N', e, S', y⟩ => by
  obtain ⟨N'', S'', y''⟩ := hk v N' h' y S'
  exact ⟨h', tk', N'', e, S'', y''⟩) fun _ _ y => y
theorem t_stepD {G : Gx} {Z : Dz} {d : DS} {n : Nat} (hL : Legal Z.row d) (hn : n ≤ 90000) : Tr G 14 (.ref 177) [.ref Z.x] (Dg G Z d n) fun v N' => (AV.str (Str.ofString (if (dnext Z.row d).q.halted then "halted" else "step"))).den v ∧ N' = Dg G Z (dnext Z.row d) (n + 8) := by
  obtain ⟨hh, hcl, ins, wd, hr, hret⟩ := hL
  have hd : dnext Z.row d = ⟨exec ins { d.q with rip := (d.q.rip + wd) % 18446744073709551616 }, nextCs ins d.cs (exec ins { d.q with rip := (d.q.rip + wd) % 18446744073709551616 }), d.cnt + 1, ins.name⟩ := by unfold dnext; rw [hr]
  rw [hd]
  exact t_step rfl hh hr hn hcl hret
noncomputable abbrev lawN (G : Gx) (Z : Dz) (wd bo bg : Addr) (wide : Int) (mo : Addr) (M : List Mom) (d : DS) (n : Nat) (b : Addr) (k : Nat) : List HP := tabs ++ (Wrld G wd bo bg wide mo :: Ls true eMom mo M :: (Dg G Z d n ++ [Bag G b k]))
noncomputable abbrev lawM (Z : Dz) (M : List Mom) (wd b : Addr) (a : Nat) : Lm := [(Str.ofString "at", .int (a : Int)), (Str.ofString "debugger", .ref Z.x), (Str.ofString "last", .int ((M.length : Int) - 1)), (Str.ofString "world", .ref wd), (Str.ofString "bag", .ref b)]
noncomputable abbrev lawE {G : Gx} (fd : Fd G 19) : Fx G 19 := ⟨⟨Str.ofString "law", HD.C111, 1125, HD.r 1124, fun L => cellsFrom (L + 1) HD.C111.names []⟩, fd⟩
noncomputable def toldS (M : List Mom) (g : Nat) : String := if g + 1 = M.length then "halted" else "step"
noncomputable def DeedP (G : Gx) (Z : Dz) (It : HP) (wd bo bg : Addr) (wide : Int) (mo : Addr) (M : List Mom) (d0 : DS) (b : Addr) (k a many : Nat) (f : Flow) (m' : Lm) (N' : List HP) : Prop := f = .next ∧ ∃ g : Nat, g < M.length ∧ SubL ((Str.ofString "told", .str (Str.ofString (toldS M g))) :: (Str.ofString "goal", .int (g : Int)) :: (Str.ofString "many", .int (many : Int)) :: lawM Z M wd b a) m' ∧ N' = It :: lawN G Z wd bo bg wide mo M (iter Z.row d0 g) (8 + 8 * g) b k
theorem law_loop {G : Gx} (fd : Fd G 19) {Z : Dz} {wd bo bg mo b : Addr} {wide : Int} {M : List Mom} {d0 : DS} {a0 : Nat} (hB : BMain G.mg G.hb) (hC2 : CodeHd G.hb 204 200) (hC3 : CodeHd G.hb 211 207) (W : Whole Z.row d0 M) (h0 : d0.cnt = 0) (hsm : ∀ (j : Nat) m, M[j]? = some m → m.2.1.length ≤ 10 ∧ m.2.2.1.length ≤ 10) (ha : a0 < M.length) :
    Wk (lawE fd) (lawM Z M wd b a0) (lawN G Z wd bo bg wide mo M (iter Z.row d0 a0) (8 + 8 * a0) b 15) (HD.B111.drop 12) (Leave fun v N' => v = .bool true ∧ ∃ N0, N' = tabs ++ N0) := by
  refine fill_of G.X ?_; k_fill; intro _
  have hl2 := W.len2
  dsimp only [HD.B111, HD.qB111, List.drop]
  refine Wk.forX (D := fun m N => ∃ N0, N = tabs ++ N0) (by walk_at "sl:bi") (Ev.use (k := .int 4) Ev.int fun v dv => ⟨4, dv, by decide, fun j m N => ∃ a, a < M.length ∧ m = lawM Z M wd b a ∧ N = lawN G Z wd bo bg wide mo M (iter Z.row d0 a) (8 + 8 * a) b (15 + 2 * j), ⟨a0, ha, rfl, rfl⟩, ?_, fun m N ⟨a, _, _, e⟩ => ⟨_, e⟩⟩) (fun m N ⟨N0, e⟩ => Wk.ret (Ev.bool.use fun v dv => ⟨dv, N0, e⟩)) (by kernel_rfl)
  rintro j mi Ni It hj ⟨a, ha, rfl, rfl⟩
  obtain ⟨mm, hmm⟩ : ∃ mm, M[a]? = some mm := ⟨_, List.getElem?_eq_getElem ha⟩
  have hs := hsm _ _ hmm
  refine Wk.swap (names := [Str.ofString "way", Str.ofString "many", Str.ofString "depth"]) (Ex.tuple (.cons (Ex.callT (f := .ref 1078) (by walk_at "sl:fn") (.cons (by walk_at "sl:ev") (.cons Ev.int .nil rfl) rfl) (t_below (b := b) (k := 15 + 2 * j) (by omega) (.inr (.inr (.inr (.inl rfl))))) [false, false, false, false, false, false, false, false, false, false, true] rfl (by kernel_rfl) fun v1 N1 ⟨way, hway, d1, e1⟩ => ?_) rfl)) (by rfl) (by rfl) (by kernel_rfl)
  subst e1
  refine .cons (Ex.callT (f := .ref 1078) (by walk_at "sl:fn") (.cons (by walk_at "sl:ev") (.cons Ev.int .nil rfl) rfl) (t_below (b := b) (k := 15 + 2 * j + 1) (by omega) (.inr (.inr (.inr (.inr (.inr rfl)))))) [false, false, false, false, false, false, false, false, false, false, true] rfl (by kernel_rfl) fun v2 N1 ⟨many, hmany, d2, e2⟩ => ?_) rfl
  subst e2
  refine .cons ((Ev.momLen (i := 6) (j := a) (by walk_at "sl:bi") (Ev.world (i := 5) (k := .ref mo) (by walk_at "sl:ev") rfl fun tw => ⟨_, rfl, rfl⟩) (by walk_at "sl:ev") rfl hmm (by omega) (by omega) fun _ _ _ => rfl).use fun v3 d3 => .nil ⟨Nat.le_of_ble_eq_true rfl, fun ta => ⟨ta, _, [.int (way : Int), .int (many : Int), .int (mm.2.1.length : Int)], rfl, NF.fact (i := 0) rfl, .cons d1 (.cons d2 (.cons d3 .nil)), rfl, .vs [true] .drop ?_⟩⟩) rfl
  show Wk _ ((Str.ofString "way", .int (way : Int)) :: (Str.ofString "many", .int (many : Int)) :: (Str.ofString "depth", .int (mm.2.1.length : Int)) :: (Str.ofString "turn", .int (j : Int)) :: lawM Z M wd b a) (It :: lawN G Z wd bo bg wide mo M (iter Z.row d0 a) (8 + 8 * a) b (15 + 2 * (j + 1))) _ _
  by_cases hlast : a + 1 = M.length
  · exact .into (Tx.of (b := true) (Et.eqI (by walk_at "sl:ev") (by walk_at "sl:ev") (decide_eq_true (by omega)) rfl) ⟨rfl, .brk ⟨nofun, _, rfl, _, rfl⟩⟩)
  have ha1 : a + 1 < M.length := by omega
  refine .skip (Tx.of (b := false) (Et.eqI (by walk_at "sl:ev") (by walk_at "sl:ev") (decide_eq_false (by omega)) rfl) ⟨rfl, ?_⟩)
  refine Wk.ite (P' := DeedP G Z It wd bo bg wide mo M d0 b (15 + 2 * (j + 1)) a many) (Tx.mono (K := fun t N' => N' = It :: lawN G Z wd bo bg wide mo M (iter Z.row d0 a) (8 + 8 * a) b (15 + 2 * (j + 1)) ∧ (t = false → way = 1 ∨ way = 2 ∧ mm.2.2.2 = false)) ?_ fun t N' ⟨e, ht⟩ => ?_) (fun m' N' ⟨_, g, hg, sub, e⟩ => ?_) fun f m' N' hf y => absurd y.1 hf
  · refine Tx.or (Tx.of (b := decide (way = 0)) (Et.eqI (by walk_at "sl:ev") (by walk_at "sl:ev") (decide_eq_decide.mpr (by omega)) rfl) ?_)
    by_cases w0 : way = 0
    · rw [decide_eq_true w0]; exact ⟨rfl, nofun⟩
    rw [decide_eq_false w0]
    by_cases w2 : way = 2
    · refine Tx.or (Tx.and (Tx.of (b := true) (Et.eqI (by walk_at "sl:ev") (by walk_at "sl:ev") (decide_eq_true (by omega)) rfl) (Tx.and (Tx.post (Tx.val (KB := fun t N' => t = mm.2.2.2 ∧ ∃ a1 t1 oa fa, N' = Moment a1 t1 oa fa mm :: It :: lawN G Z wd bo bg wide mo M (iter Z.row d0 a) (8 + 8 * a) b (15 + 2 * (j + 1))) (Ex.momAt (q := 3) (i := 6) (j := a) (Ev.world (i := 5) (k := .ref mo) (by walk_at "sl:ev") rfl fun tw => ⟨_, rfl, rfl⟩) (by walk_at "sl:ev") rfl hmm (by omega) (by decide) (fun _ _ _ => rfl) fun a1 t1 oa fa v hv => by cases hv; exact ⟨_, rfl, rfl, a1, t1, oa, fa, rfl⟩) rfl) fun t N' h ⟨e1, a1, t1, oa, fa, e2⟩ S => ⟨_, (e2 ▸ S).unfact, ?_⟩))))
      subst e1
      cases hwt : mm.2.2.2 with
      | true => exact Tx.andN ⟨rfl, nofun⟩
      | false => exact Tx.orN ⟨rfl, fun _ => .inr ⟨w2, rfl⟩⟩
    · exact Tx.or (Tx.and (Tx.of (b := false) (Et.eqI (by walk_at "sl:ev") (by walk_at "sl:ev") (decide_eq_false (by omega)) rfl) (Tx.orN ⟨rfl, fun _ => .inl (by omega)⟩)))
  · subst e
    cases t with
    | true =>
      refine Wk.swap (names := [Str.ofString "told", Str.ofString "goal"]) (Ex.tuple (.cons (Ex.dbCall0 (i := 8) (by walk_at "sl:ev") rfl (t_stepD (W.legal ha1) (by omega)) [false, false, false, false, false, false, false, true, true, true] rfl (fun _ => rfl) (by kernel_rfl) fun v N1 ⟨dv, e⟩ => ?_) rfl)) (by rfl) (by rfl) (by kernel_rfl)
      have hh := W.halted ha1
      change (dnext Z.row (iter Z.row d0 a)).q.halted = _ at hh
      rw [hh] at dv
      subst e
      refine .cons ((Ev.add (by walk_at "sl:ev") Ev.int).use fun v2 d2 => .nil ⟨Nat.le_of_ble_eq_true rfl, fun ta => ⟨ta, _, [.str (Str.ofString (toldS M (a + 1))), .int ((a + 1 : Nat) : Int)], rfl, NF.fact (i := 0) rfl, .cons (by simpa [toldS] using dv) (.cons d2 .nil), rfl, .vs [true] .drop (.nil ⟨rfl, a + 1, ha1, ⟨rfl, rfl, rfl, rfl, rfl, rfl, rfl, rfl, trivial⟩, rfl⟩)⟩⟩) rfl
    | false =>
      rcases ht rfl with w1 | ⟨w2, hwt⟩
      · refine Wk.ite (P' := DeedP G Z It wd bo bg wide mo M d0 b (15 + 2 * (j + 1)) a many) (Tx.of (b := true) (Et.eqI (by walk_at "sl:ev") (by walk_at "sl:ev") (decide_eq_true (by omega)) rfl) ?_) (fun _ _ y => .nil y) fun _ _ _ _ y => y
        obtain ⟨g, B⟩ := behind_ex (most := (mm.2.1.length : Int)) ha1
        have Dd := W.over hmm B
        have hlt := B.lt
        refine Wk.swap (names := [Str.ofString "told", Str.ofString "goal"]) (Ex.tuple (.cons (Ex.dbCall (ks := [.int ((150 : Nat) : Int)]) (i := 8) (by walk_at "sl:ev") rfl (.cons (Ev.cast Ev.int fun _ h => h) .nil rfl) (t_step_over hB hC2 Dd.n1 Dd.n2 (Nat.le_refl _) (Nat.le_succ_of_le (W.legal ha1).2.1) Dd.go Dd.no (Dd.fin.imp id .inl) (by have := Dd.n2; omega)) [false, false, true, false, false, false, false, true, true, true] rfl (fun _ => rfl) (by kernel_rfl) fun v N1 ⟨dv, e⟩ => ?_) rfl)) (by rfl) (by rfl) (by kernel_rfl)
        rw [Dd.at_, show 8 + 8 * a + 8 * (g - a) = 8 + 8 * g by omega] at e
        subst e
        refine .cons (Ex.callT (f := .ref 1118) (by walk_at "sl:fn") (.cons (by walk_at "sl:ev") (.cons (by walk_at "sl:ev") (.cons (by walk_at "sl:ev") .nil rfl) rfl) rfl) (t_behind ha1 (by omega) fun j m h => (hsm j m h).1) [false, false, false, false, false, true, true] rfl (by kernel_rfl) fun v2 N1 ⟨g', d2, B', e⟩ => .nil ⟨Nat.le_of_ble_eq_true rfl, fun ta => ⟨ta, _, [.str (Str.ofString (toldS M g)), .int (g : Int)], rfl, NF.fact (i := 0) rfl, .cons dv (.cons (behind_un B B' ▸ d2) .nil), rfl, .vs [true] .drop (e ▸ .nil ⟨rfl, g, B.le, ⟨rfl, rfl, rfl, rfl, rfl, rfl, rfl, rfl, trivial⟩, rfl⟩)⟩⟩) rfl
      · refine Wk.ite (P' := DeedP G Z It wd bo bg wide mo M d0 b (15 + 2 * (j + 1)) a many) (Tx.of (b := false) (Et.eqI (by walk_at "sl:ev") (by walk_at "sl:ev") (decide_eq_false (by omega)) rfl) ?_) (fun _ _ y => .nil y) fun _ _ _ _ y => y
        obtain ⟨g, B⟩ := behind_ex (most := (mm.2.1.length : Int) - 1) ha1
        have Dd := W.finish hmm hwt B
        have hlt := B.lt
        refine Wk.swap (names := [Str.ofString "told", Str.ofString "goal"]) (Ex.tuple (.cons (Ex.dbCall (ks := [.int ((150 : Nat) : Int)]) (i := 8) (by walk_at "sl:ev") rfl (.cons (Ev.cast Ev.int fun _ h => h) .nil rfl) (t_finish hB hC3 Dd.n1 Dd.n2 (Nat.le_refl _) Dd.go Dd.no (Dd.fin.imp id .inl) (by have := Dd.n2; omega)) [false, false, false, true, false, false, false, true, true, true] rfl (fun _ => rfl) (by kernel_rfl) fun v N1 ⟨dv, e⟩ => ?_) rfl)) (by rfl) (by rfl) (by kernel_rfl)
        rw [Dd.at_, show 8 + 8 * a + 8 * (g - a) = 8 + 8 * g by omega] at e
        subst e
        refine .cons (Ex.callT (f := .ref 1118) (by walk_at "sl:fn") (.cons (by walk_at "sl:ev") (.cons (by walk_at "sl:ev") (.cons (by walk_at "sl:ev") .nil rfl) rfl) rfl) (t_behind ha1 (by omega) fun j m h => (hsm j m h).1) [false, false, false, false, false, true, true] rfl (by kernel_rfl) fun v2 N1 ⟨g', d2, B', e⟩ => .nil ⟨Nat.le_of_ble_eq_true rfl, fun ta => ⟨ta, _, [.str (Str.ofString (toldS M g)), .int (g : Int)], rfl, NF.fact (i := 0) rfl, .cons dv (.cons (behind_un B B' ▸ d2) .nil), rfl, .vs [true] .drop (e ▸ .nil ⟨rfl, g, B.le, ⟨rfl, rfl, rfl, rfl, rfl, rfl, rfl, rfl, trivial⟩, rfl⟩)⟩⟩) rfl
  · subst e
    obtain ⟨mg, hmg⟩ : ∃ mg, M[g]? = some mg := ⟨_, List.getElem?_eq_getElem hg⟩
    refine .sub sub (.skip (Tx.or (Tx.of (b := false) (Et.neS (y := Str.ofString (toldS M g)) (z := Str.ofString (toldS M g)) (by walk_at "sl:ev") (Ev.ite (b := decide (g + 1 = M.length)) (Et.eqI (by walk_at "sl:ev") (by walk_at "sl:ev") (decide_eq_decide.mpr (by omega)) rfl) (fun h => ?_) fun h => ?_) (by simp) rfl) (Tx.or (Tx.not (Tx.val (Ex.callT (f := .ref 1111) (by walk_at "sl:fn") (.cons (by walk_at "sl:ev") (.cons (by walk_at "sl:ev") (.cons (by walk_at "sl:ev") (.cons (by walk_at "sl:ev") .nil rfl) rfl) rfl) rfl) (t_stands (mny := many) (W.stands h0 hmg) hmg (by omega) (by omega) (hsm _ _ hmg).2) [false, false, false, false, false, true, true, true, true, true] rfl (by kernel_rfl) fun v N1 ⟨e1, e2⟩ => ⟨true, e1, ?_⟩) rfl))))))
    · rw [toldS, if_pos (of_decide_eq_true h)]; exact Ev.str
    · rw [toldS, if_neg (of_decide_eq_false h)]; exact Ev.str
    · subst e2
      exact Tx.orN ⟨rfl, Wk.set (k := .int (g : Int)) (by walk_at "sl:ev") (by kernel_rfl) (by rfl) (.nil ⟨_, rfl, _, ⟨g, hg, rfl, rfl⟩, rfl, rfl, rfl, rfl, rfl, trivial⟩)⟩
theorem Sm.neS {G : Gx} {rn : Nat} {c : Fx G rn} {m : Lm} {N : List HP} {y z : Str} {v1 v2 : Value} (d1 : (AV.str y).den v1) (d2 : (AV.str z).den v2) : Sm c m N (compareOp .NotEq v1 v2) fun v N' => v = .bool (y != z) ∧ N' = N := fun h tk S => by
  obtain ⟨t, rfl⟩ := d1
  obtain ⟨u, rfl⟩ := d2
  exact PyProof.Rows.ne_str ⟨h, tk, N, rfl, S, rfl, rfl⟩
theorem law_rest {G : Gx} (fd : Fd G 19) {st rl mem wd bo bg mo pd b sc : Addr} {beg wide : Int} {i0 i1 i2 : List Item} {M : List Mom} (hB : BMain G.mg G.hb) (hC1 : CodeHd G.hb 190 186) (hC2 : CodeHd G.hb 204 200) (hC3 : CodeHd G.hb 211 207) (hC4 : CodeHd G.hb 1124 1120)
    (ok0 : ItemsOk 0 i0) (ok1 : ItemsOk 1 i1) (ok2 : ItemsOk 2 i2) (hw1 : 1 ≤ wide) (hw6 : wide ≤ 6) (hb0 : 0 ≤ beg) (hb1 : beg < 2000000000000) (hM : M = nest (bods i0 i1 i2) (fun i => (nsOf i0 i1 beg wide).getD i 0) wide 3 0 [] []) :
    Wk (lawE fd) [(Str.ofString "state", .ref st), (Str.ofString "last", .int ((M.length : Int) - 1)), (Str.ofString "world", .ref wd), (Str.ofString "bodies", .ref bo), (Str.ofString "begin", .int beg), (Str.ofString "wide", .int wide), (Str.ofString "bag", .ref b), (Str.ofString "script", .ref sc)]
      (StE G (.st0 st rl mem) ⟨List.replicate 16 0, fun _ => 0, 0, false⟩ 0 :: Wrld G wd bo bg wide mo :: Ls true eMom mo M :: PrgF G (fun k => (nsOf i0 i1 beg wide).getD k 0) beg wide (bods i0 i1 i2).flatten pd :: Bag G b 14 :: CelF (fd.L + 1) (.ref pd) :: tabs) (HD.B111.drop 6) (Leave fun v N' => v = .bool true ∧ ∃ N0, N' = tabs ++ N0) := by
  refine fill_of G.X ?_; k_fill; intro _
  show Wk _ _ _ (HD.B111[6] :: HD.B111[7] :: HD.B111[8] :: HD.B111[9] :: HD.B111[10] :: HD.B111[11] :: HD.B111.drop 12) _
  generalize hrest : HD.B111.drop 12 = rest
  dsimp only [HD.B111, HD.qB111, List.getElem_cons_succ, List.getElem_cons_zero]
  refine Wk.expr (Ex.meth (C := 669) (f := 591) (a := st) (Q := StE G (.st0 st rl mem) _ _) (Ev.use (k := .ref st) (by walk_at "sl:ev") fun v d => Is.mk d) (i := 0) rfl (fun l z h zh x => by
    obtain ⟨S, _, _, _, I, _⟩ := StE.inst x
    exact ⟨_, _, _, I, rfl⟩) (.cons (Ex.callT (f := .ref 462) (by walk_at "sl:fn") (.cons Ev.int (.cons Ev.int .nil rfl) rfl) (t_gpr (num := 4) (by decide) (by decide)) [] rfl (by kernel_rfl) fun v1 N1 e1 => .cons (Ev.int.use fun v2 d2 => ?_) rfl) rfl) (by kernel_rfl)) (by rfl) (by rfl)
  subst e1
  refine .nil (Sm.open (φ := fun a => v1 = .ref a) (Q' := fun a => RegF G a 4) 0 rfl (fun l z h x => ?_) fun ra er => ?_)
  · obtain ⟨e, a, ev, r⟩ := x
    exact ⟨a, ev, e, r⟩
  subst er
  refine Sm.vs [true, true] .swap (Sm.tr (t_put (Z := .st0 st rl mem) (r := 4) (by decide)) (by decide) [true, true] rfl (.cons rfl (.cons rfl (.cons d2 .nil))) fun v N1 e => ?_)
  subst e
  refine Wk.vs [false, true] .drop ?_
  refine Wk.expr (Ex.write (Z := .st0 st rl mem) (i := 0) (Ev.use (k := .ref st) (by walk_at "sl:ev") fun v d => Is.mk d) Ev.int Ev.int (Ev.glob (k := .int 1193046) rfl (by kernel_rfl) ⟨_, rfl⟩) rfl (by decide) (fun u => ?_) (by kernel_rfl)) (by rfl) (by rfl)
  refine Wk.setRip (Z := .st0 st rl mem) (j := 0) (Ev.use (k := .int beg) (by walk_at "sl:ev") fun v d => ⟨_, _, beg, rfl, d, ?_⟩) (fun N => Ev.use (k := .ref st) (by walk_at "sl:ev") fun v d => Is.mk d) (by rfl)
  refine Wk.assign (Ex.call (f := .ref 234) (by walk_at "sl:fn") (by kernel_rfl) (.cons (Ev.use (k := .ref st) (by walk_at "sl:ev") fun v1 d1 => .cons (Ex.lambda (j := 9) (Pt := 1120) (cd := 1124) (clos := [(Str.ofString "program", fd.L + 1)]) rfl hB hC4 rfl (by with_unfolding_all rfl) rfl fun f c' => .nil (Sm.vs [false, false, false, true, false, true] .swap (Sm.vs [false, false, false, true, false, true] (Ent.two (fun l z h x => x.1) fun l z h x => x.1) (Sm.vs [false, false, false, true, false, false, false, false, true] (Ent.two (fun l z h x => x.1.1) fun l z h x => x.1)
    (Sm.vs [false, false, false, true] (t_lam (Z := ⟨0, st, rl, mem, 0, f, 0, 0, 0, rowAt (fun k => (nsOf i0 i1 beg wide).getD k 0) beg wide (bods i0 i1 i2).flatten⟩) rfl rfl rfl) (Sm.tr (t_Dbg (Z := ⟨0, st, rl, mem, 0, f, 0, 0, 0, rowAt (fun k => (nsOf i0 i1 beg wide).getD k 0) beg wide (bods i0 i1 i2).flatten⟩)) (by decide) [false, false, false, true] rfl (.cons d1 (.cons rfl .nil)) fun v N1 ⟨x, cl, brk, wts, pts, ev, eN⟩ => ⟨.ref x, ev, ?_⟩)))))) rfl) rfl) rfl) (by kernel_rfl) (by rfl)
  subst eN
  obtain ⟨Z, hZ⟩ : ∃ Z : Dz, Z = ⟨x, st, rl, mem, cl, f, brk, wts, pts, rowAt (fun k => (nsOf i0 i1 beg wide).getD k 0) beg wide (bods i0 i1 i2).flatten⟩ := ⟨_, rfl⟩
  obtain ⟨d0, hd0⟩ : ∃ d0 : DS, d0 = ⟨⟨(List.replicate 16 0).set 4 (32768 % 18446744073709551616), wrN (fun _ => 0) 32768 1193046 8, beg, false⟩, [], 0, ""⟩ := ⟨_, rfl⟩
  have W : Whole Z.row d0 M := by
    rw [hM, hZ, hd0]
    exact whole (prg_of (begin := beg) (wide := wide) ok0 ok1 ok2 hw1 hw6 hb0 hb1 _ rfl rfl rfl) (bods_at ok0 ok1 ok2) rfl rfl rfl ⟨rfl, rfl, rfl⟩ (rdN_wrN (by decide) (by decide) (by decide) (by decide)) (show Str.ofString "" ≠ Str.ofString "ret" by decide)
  have hsm : ∀ (j : Nat) m, M[j]? = some m → m.2.1.length ≤ 10 ∧ m.2.2.1.length ≤ 10 := fun j m h => by
    have := nest_small 3 0 [] [] m (hM ▸ List.mem_of_getElem? h)
    simp only [List.length_nil] at this
    omega
  have hc0 : d0.cnt = 0 := by rw [hd0]
  refine .vs [true, true, true, true, true, true, true, true, true, true] (N1' := lawN G Z wd bo bg wide mo M d0 8 b 14) ?_ ?_
  · rw [hZ, hd0]
    exact Ent.perm ((List.perm_append_comm (l₁ := [_, _, _, _, _, _]) (l₂ := tabs)).trans (List.Perm.append_left tabs ((List.Perm.swap _ _ _).trans ((List.Perm.swap _ _ _).cons _))))
  show Wk _ [(Str.ofString "debugger", .ref x), (Str.ofString "state", .ref st), (Str.ofString "last", .int ((M.length : Int) - 1)), (Str.ofString "world", .ref wd), (Str.ofString "bodies", .ref bo), (Str.ofString "begin", .int beg), (Str.ofString "wide", .int wide), (Str.ofString "bag", .ref b), (Str.ofString "script", .ref sc)] (lawN G Z wd bo bg wide mo M d0 8 b 14) _ _
  have hx : x = Z.x := by rw [hZ]
  rw [hx]
  clear hZ hd0 hM hx
  have hl5 := W.len
  have hl2 := W.len2
  refine Wk.assign (Ex.minE (by walk_at "sl:bi") (Ex.callT (f := .ref 1078) (by walk_at "sl:fn") (.cons (by walk_at "sl:ev") (.cons Ev.int .nil rfl) rfl) (t_below (b := b) (k := 14) (by decide) (.inr (.inr (.inr (.inr (.inl rfl)))))) [false, false, false, false, false, false, false, false, false, true] rfl (by kernel_rfl) fun v1 N1 ⟨n1, hn1, d1, e1⟩ => ⟨n1, d1, (M.length : Int) - 1 - 1, ?_, ?_⟩) rfl) (by kernel_rfl) (by rfl)
  · subst e1
    walk_at "sl:ev"
  subst e1
  obtain ⟨a, ha, ha1⟩ : ∃ a : Nat, (if (M.length : Int) - 1 - 1 < (n1 : Int) then (M.length : Int) - 1 - 1 else (n1 : Int)) = (a : Int) ∧ a + 1 < M.length := by
    by_cases h : (M.length : Int) - 1 - 1 < (n1 : Int)
    · exact ⟨M.length - 2, by rw [if_pos h]; omega, by omega⟩
    · exact ⟨n1, by rw [if_neg h], by omega⟩
  rw [ha]
  intro w1 dw
  refine ⟨.int (a : Int), dw, ?_⟩
  clear ha hn1 d1
  obtain ⟨mm, hmm⟩ : ∃ mm, M[a]? = some mm := ⟨_, List.getElem?_eq_getElem (by omega)⟩
  refine .skip (Tx.or (Tx.mono (K := fun t N' => t = false ∧ N' = lawN G Z wd bo bg wide mo M (iter Z.row d0 a) (8 + 8 * a) b 15) ?_ fun t N' ⟨e1, e2⟩ => ?_))
  · by_cases h0 : a = 0
    · subst h0
      exact Tx.and (Tx.of (b := false) (Et.gtI (by walk_at "sl:ev") (by walk_at "sl:ev") rfl rfl) ⟨rfl, rfl⟩)
    · refine Tx.and (Tx.of (b := true) (Et.gtI (by walk_at "sl:ev") (by walk_at "sl:ev") (decide_eq_true (by omega)) rfl) (Tx.and (Tx.cmp (Ex.dbCall (i := 7) (by walk_at "sl:ev") rfl (.cons (by walk_at "sl:ev") .nil rfl) (t_go hB hC1 (mo := a) (by omega) (by omega) (fun j hj => W.legal (by omega)) (by rw [W.halted (by omega), decide_eq_false (by omega)]) (by omega)) [true, false, false, false, false, false, true, true, true] rfl (fun _ => rfl) (by kernel_rfl) fun v N1 ⟨dv, e⟩ => ?_) rfl)))
      subst e
      exact Ev.str.use fun v2 d2 => (Sm.neS dv d2).mono fun v3 N3 ⟨e1, e2⟩ => ⟨false, e1, rfl, e2⟩
  · subst e1 e2
    refine Tx.or (Tx.not (Tx.val (Ex.callT (f := .ref 1111) (ks := [.ref Z.x, .ref wd, .int (a : Int), .int ((3 : Nat) : Int)]) (by walk_at "sl:fn") (.cons (by walk_at "sl:ev") (.cons (by walk_at "sl:ev") (.cons (by walk_at "sl:ev") (.cons (Ev.cast Ev.int fun _ h => h) .nil rfl) rfl) rfl) rfl) (t_stands (mny := 3) (W.stands hc0 hmm) hmm (by omega) (by decide) (hsm _ _ hmm).2) [false, false, false, false, true, true, true, true, true] rfl (by kernel_rfl) fun v N1 ⟨e1, e2⟩ => ⟨true, e1, ?_⟩) rfl))
    subst e2
    rw [← hrest]
    exact Tx.orN ⟨rfl, .sub (m0 := lawM Z M wd b a) ⟨rfl, rfl, rfl, rfl, rfl, trivial⟩ (law_loop fd hB hC2 hC3 W hc0 hsm (by omega))⟩
noncomputable def LsI (a : Addr) (ns : List Int) : HP := ⟨fun l z _ => l = [] ∧ ∃ vs, z.IsList a (List.toArray vs) ∧ All2 (eInt.r z) vs ns, fun ⟨e, vs, ⟨o, g, r⟩, y⟩ kz _ => ⟨e, vs, ⟨o, kz _ _ g, r⟩, y.mono fun _ _ q => eInt.mono q kz⟩, fun ⟨e, _⟩ b hb => by rw [e] at hb; cases hb⟩
theorem LsI.isL {a : Addr} {ns : List Int} : ∀ l z h, z.StaysIn h → (LsI a ns).ok l z h → ∃ ws, h.IsList a (List.toArray ws) ∧ All2 (eInt.r z) ws ns := fun l z h zh ⟨_, vs, ⟨o, g, r⟩, y⟩ => ⟨vs, ⟨o, zh _ _ g, r⟩, y⟩
theorem t_law {G : Gx} {sc : Addr} {sns : List Int} (hB : BMain G.mg G.hb) (hC1 : CodeHd G.hb 190 186) (hC2 : CodeHd G.hb 204 200) (hC3 : CodeHd G.hb 211 207) (hC4 : CodeHd G.hb 1124 1120) (hsl : sns.length ≤ 63) :
    Tr G 20 (.ref 1125) [.ref sc] (tabs ++ [LsI sc sns]) fun v N' => v = .bool true ∧ ∃ N0, N' = tabs ++ N0 := by
  refine fill_of G.X ?_; k_fill; intro _
  refine' Tr.enterC [Str.ofString "script"] ?ho ?hcd ?hb ?ok ?_
  case ho => k_is
  case hcd => k_is
  case hb =>
    intro s vs X h
    cases h with | cons r h => cases h; exact BindsTo.of_eq rfl
  case ok => kernel_rfl
  intro fd
  show Wk _ [(Str.ofString "script", .ref sc)] (Cel (fd.L + 1) none :: tabs ++ [LsI sc sns]) _ _
  dsimp only [HD.B111, HD.qB111]
  have ht40 : (sns.take 40).length ≤ 40 := by rw [List.length_take]; omega
  refine Wk.assign (Ex.dictS (fun b => .cons (Ex.callY (by walk_at "sl:bi") (.cons (Ex.takeQ (n := 40) (R := eInt) (Ev.ref (a := sc) (by walk_at "sl:ev") ⟨sc, 6, sns, _, rfl, rfl, LsI.isL, by omega, Ev.int, fun d2 => .nil (Sm.listOf (i := 0) rfl (by omega) fun cl => ?_)⟩)) rfl) rfl)) (by kernel_rfl)) (by kernel_rfl) (by rfl)
  refine .cons (Ev.int.use fun v2 d2' => .cons (Ex.modE (by decide) (Ex.callY (by walk_at "sl:bi") (.cons (Ex.callB (by walk_at "sl:bi") (.cons (Ex.takeQ (n := 40) (R := eInt) (Ev.ref (a := sc) (by walk_at "sl:ev") ⟨sc, 8, sns, _, rfl, rfl, LsI.isL, by omega, Ev.int, fun d3 => .nil ((Sm.sum (i := 0) rfl).mono fun v3 N3 ⟨eN, d3'⟩ => .nil ((Sm.intI d3').mono fun v4 N4 ⟨eN4, d4⟩ => ⟨_, d4, Ev.int, fun v5 d5 => ?_⟩))⟩)) rfl) rfl) rfl) rfl)))
  subst eN eN4
  obtain ⟨sm, hsm⟩ : ∃ sm : Nat, (sns.take 40).sum.fmod 1000003 = sm := Int.eq_ofNat_of_zero_le (fmod_lo _ (by decide))
  have hsm2 : (sm : Int) < 1000003 := hsm ▸ fmod_hi _ (by decide)
  rw [hsm] at d5
  refine .nil fun u1 u2 u3 => ⟨3, [(Str.ofString "cells", .ref cl), (Str.ofString "count", .int 0), (Str.ofString "sum", .int sm)], rfl, ?_, .cons ⟨rfl, rfl⟩ (.cons ⟨rfl, d2'⟩ (.cons ⟨rfl, d5⟩ .nil)), rfl, .ref b, rfl, ?_⟩
  · exact (by decide : [Str.ofString "cells", Str.ofString "count", Str.ofString "sum"].Nodup)
  refine .vs [true, false, true] .drops (.vs [true, true] .swap (.vs [true, true] (Bag.mk (ct := 0) (sm := sm) ⟨Nat.le_refl 0, by omega, ht40⟩) ?_))
  show Wk _ [(Str.ofString "bag", .ref b), (Str.ofString "script", .ref sc)] (Bag G b 0 :: Cel (fd.L + 1) none :: tabs ++ [LsI sc sns]) _ _
  clear ht40
  refine .vs [false, false, false, false, false, false, true] .drops ?_
  refine Wk.swap (names := [Str.ofString "begin", Str.ofString "wide"]) (Ex.tuple (.cons (Ex.addE Ev.int (Ex.callT (f := .ref 1078) (by walk_at "sl:fn") (.cons (by walk_at "sl:ev") (.cons Ev.shl40 .nil rfl) rfl) (t_below (b := b) (k := 0) (by decide) (.inl rfl)) [true] rfl (by kernel_rfl) fun v1 N1 ⟨n1, hn1, dv1, e1⟩ => ⟨_, dv1, fun w1 dw1 => ?_⟩)) rfl)) (by rfl) (by rfl) (by kernel_rfl)
  subst e1
  refine .cons (Ex.addE Ev.int (Ex.callT (f := .ref 1078) (by walk_at "sl:fn") (.cons (by walk_at "sl:ev") (.cons Ev.int .nil rfl) rfl) (t_below (b := b) (k := 1) (by decide) (.inr (.inl rfl))) [true] rfl (by kernel_rfl) fun v2 N1 ⟨n2, hn2, dv2, e2⟩ => ⟨_, dv2, fun w2 dw2 => ?_⟩)) rfl
  subst e2
  refine .nil ⟨Nat.le_of_ble_eq_true rfl, fun ta => ⟨ta, _, [.int (8192 + (n1 : Int)), .int (1 + (n2 : Int))], rfl, NF.fact (i := 0) rfl, .cons dw1 (.cons dw2 .nil), rfl, .vs [true] .drop ?_⟩⟩
  obtain ⟨beg, hbeg⟩ : ∃ beg : Int, beg = 8192 + (n1 : Int) := ⟨_, rfl⟩
  obtain ⟨wide, hwide⟩ : ∃ wide : Int, wide = 1 + (n2 : Int) := ⟨_, rfl⟩
  rw [← hbeg, ← hwide]
  have hw1 : 1 ≤ wide := by omega
  have hw6 : wide ≤ 6 := by omega
  have hb0 : 0 ≤ beg := by omega
  have hb1 : beg < 2000000000000 := by omega
  refine Wk.assign (Ex.callT (f := .ref 1085) (by walk_at "sl:fn") (.cons (by walk_at "sl:ev") .nil rfl) (t_bodies (b := b) (k := 2) (by decide)) [true] rfl (by kernel_rfl) fun v N1 ⟨bo, l, ev, lok, ll, e⟩ => ⟨.ref bo, ev, ?_⟩) (by kernel_rfl) (by rfl)
  subst e
  obtain ⟨i0, i1, i2, rfl⟩ : ∃ i0 i1 i2, l = [i0, i1, i2] := by
    match l, ll with
    | [a, b, c], _ => exact ⟨a, b, c, rfl⟩
  obtain ⟨ok0, ok1, ok2, _⟩ := lok
  show Wk _ [(Str.ofString "bodies", .ref bo), (Str.ofString "begin", .int beg), (Str.ofString "wide", .int wide), (Str.ofString "bag", .ref b), (Str.ofString "script", .ref sc)] (Ls true eBody bo (bods i0 i1 i2) :: Bag G b 14 :: Cel (fd.L + 1) none :: tabs) _ _
  have hbs := bods_at ok0 ok1 ok2
  have e0 := body_len10 ok0
  have e1 := body_len10 ok1
  refine Wk.assign (Ex.dictS (fun wd => .cons (Ev.use (k := .ref bo) (by walk_at "sl:ev") fun v1 d1 => .cons (Ex.callT (f := .ref 1092) (by walk_at "sl:fn") (.cons (by walk_at "sl:ev") (.cons (by walk_at "sl:ev") (.cons (by walk_at "sl:ev") .nil rfl) rfl) rfl) (t_begins (b2 := bodyOf 2 i2) (bo := bo) e0.1 e1.1 hw1 hw6 hb0 hb1) [false, true] rfl (by kernel_rfl) fun v2 N1 ⟨bg, ev2, eN⟩ => .cons (Ev.use (k := .int wide) (by walk_at "sl:ev") fun v3 d3 => .cons (Ex.nilL eMom fun mo => ?_))))) (by kernel_rfl)) (by kernel_rfl) (by rfl)
  subst ev2 eN
  refine .nil fun u1 u2 u3 u4 => ⟨1, [(Str.ofString "bodies", .ref bo), (Str.ofString "begins", .ref bg), (Str.ofString "step", .int wide), (Str.ofString "moments", .ref mo)], rfl, (by decide : [Str.ofString "bodies", Str.ofString "begins", Str.ofString "step", Str.ofString "moments"].Nodup), .cons ⟨rfl, d1⟩ (.cons ⟨rfl, rfl⟩ (.cons ⟨rfl, d3⟩ (.cons ⟨rfl, rfl⟩ .nil))), rfl, .ref wd, rfl, .vs [false, true] Ent.world (.vs [true, true] .swap (.vs [false, false, true, true] .swap ?_))⟩
  show Wk _ [(Str.ofString "world", .ref wd), (Str.ofString "bodies", .ref bo), (Str.ofString "begin", .int beg), (Str.ofString "wide", .int wide), (Str.ofString "bag", .ref b), (Str.ofString "script", .ref sc)] (Wrld G wd bo bg wide mo :: Ls false eMom mo [] :: Ls true eBody bo (bods i0 i1 i2) :: Ls true eInt bg (nsOf i0 i1 beg wide) :: Bag G b 14 :: Cel (fd.L + 1) none :: tabs) _ _
  have hnl := nest_len0 (bgs := fun i => (nsOf i0 i1 beg wide).getD i 0) (wide := wide) hbs
  refine Wk.expr (Ex.call (f := .ref 1106) (by walk_at "sl:fn") (by kernel_rfl) (.cons (Ev.use (k := .ref wd) (by walk_at "sl:ev") fun w1 q1 => .cons (Ev.use (k := .int ((0 : Nat) : Int)) (Ev.cast Ev.int fun _ h => h) fun w2 q2 => .cons (Ex.nilL eInt fun oa => Xs.shl (.vs [true] Ls.freeze) (.cons (Ex.nilL eInt fun fa => Xs.shl (Sh.trans (.vs [true] Ls.freeze) (.vs [true, true] .swap)) (.nil (Sm.tr (t_nest (bs := bods i0 i1 i2) (ns := nsOf i0 i1 beg wide) rfl rfl ?_ ?_ ?_ hw1 hw6 3 0 oa fa [] [] [] (by decide) (by decide) ?_ (by decide) (by decide)) (by decide) [true, true, true, true, true, true] rfl (.cons q1 (.cons q2 (.cons rfl (.cons rfl .nil)))) fun v N1 ⟨_, e⟩ => e ▸ .vs [true, true] .drops (.vs [false, true] Ls.freeze ?_)))) rfl)) rfl) rfl) rfl) rfl) (by rfl) (by rfl)
  · intro b hb
    obtain ⟨k, its, rfl, ok⟩ := bods_mem hb ok0 ok1 ok2
    exact (body_len10 ok).1
  · intro k b hb r hr hc
    obtain ⟨its, rfl, ok⟩ := bods_get hb ok0 ok1 ok2
    exact body_calls ok hr hc
  · intro b hb r hr
    obtain ⟨k, its, rfl, ok⟩ := bods_mem hb ok0 ok1 ok2
    exact body_rows ok hr
  · simp only [List.length_nil]; omega
  obtain ⟨M, hM⟩ : ∃ M, M = nest (bods i0 i1 i2) (fun i => (nsOf i0 i1 beg wide).getD i 0) wide 3 0 [] [] := ⟨_, rfl⟩
  rw [← hM] at hnl
  rw [← hM]
  show Wk _ [(Str.ofString "world", .ref wd), (Str.ofString "bodies", .ref bo), (Str.ofString "begin", .int beg), (Str.ofString "wide", .int wide), (Str.ofString "bag", .ref b), (Str.ofString "script", .ref sc)] (Wrld G wd bo bg wide mo :: Ls true eMom mo M :: Ls true eBody bo (bods i0 i1 i2) :: Ls true eInt bg (nsOf i0 i1 beg wide) :: Bag G b 14 :: Cel (fd.L + 1) none :: tabs) _ _
  refine Wk.unpackC (names := [Str.ofString "last", Str.ofString "program", Str.ofString "state"]) (Ex.tuple (.cons ((Ev.sub (Ev.len (i := 1) (by walk_at "sl:bi") (Ev.world (i := 0) (k := .ref mo) (by walk_at "sl:ev") rfl fun tw => ⟨_, rfl, rfl⟩) rfl (by omega) rfl) Ev.int).use fun v1 d1 => .cons (Ex.callT (f := .ref 1099) (by walk_at "sl:fn") (.cons (by walk_at "sl:ev") (.cons (Ev.world (i := 0) (k := .ref bg) (by walk_at "sl:ev") rfl fun tw => ⟨_, rfl, rfl⟩) (.cons (by walk_at "sl:ev") .nil rfl) rfl) rfl) (t_program (bo := bo) (bg := bg) (bs := bods i0 i1 i2) (ns := nsOf i0 i1 beg wide) (begin := beg) (wide := wide) ns_at rfl (by exact Nat.le_refl 3) ?_ (bods_size ok0 ok1 ok2) hw1 hw6) [false, false, true, true] rfl (by kernel_rfl) fun v2 N1 ⟨pd, ev2, eN⟩ => .cons (Ex.callT (f := .ref 669) (by walk_at "sl:fn") (.cons Ev.none .nil rfl) t_State [] rfl (by kernel_rfl) fun v3 N1' ⟨st, rl, mem, ev3, eN'⟩ => .nil ⟨Nat.le_of_ble_eq_true rfl, fun ta => ⟨ta, _, rfl, NF.fact (i := 0) rfl, rfl, ?_⟩⟩) rfl) rfl) rfl)) (.cons ⟨_, rfl⟩ (.cons ⟨_, rfl⟩ (.cons ⟨_, rfl⟩ .nil))) (by rfl) (by rfl)
  · intro b hb r hr
    obtain ⟨k, its, rfl, ok⟩ := bods_mem hb ok0 ok1 ok2
    exact body_rows ok hr
  subst ev2 eN ev3 eN'
  refine .inl ⟨.int ((M.length : Int) - 1), d1, by kernel_rfl, .inr ⟨.ref pd, none, fd.L + 1, 8, rfl, rfl, rfl, by kernel_rfl, .inl ⟨.ref st, rfl, by kernel_rfl, ?_⟩⟩⟩
  exact .vs [true] .drop (.vs [false, false, false, true] PrgD.freeze (.vs [false, false, false, false, true, true] .drops (.vs [false, false, false, false, false, true] Cel.freeze (law_rest fd hB hC1 hC2 hC3 hC4 ok0 ok1 ok2 hw1 hw6 hb0 hb1 hM))))
theorem all2_ofInts {z : Heap} {vs : List Value} {ns : List Int} (h : IntsAre vs ns) : All2 (eInt.r z) vs ns := intsAre' h
theorem c_law {prog : Program} {w : World} {A : Around} {s : Shared} {hb : Heap} {p : Program} {loose : List Str} {mg mb : Str → Option Value} {Q E : Value → Shared → Prop} {sc : Addr} {svs : List Value} {sns : List Int} (st : hb.StaysIn s.heap) (X : (HD.KK w.params).In hb) (T : TopRead p loose mg mb hb) (rm : Room 20 A) (hB : BMain mg hb) (hsz : hb.objs.size ≤ s.heap.objs.size)
    (hsc : hb.IsList sc (List.toArray svs)) (hsi : IntsAre svs sns) (hsl : sns.length ≤ 63)
    (ht1 : s.heap.get? 186 = some (tabObj #[])) (ht2 : s.heap.get? 200 = some (tabObj #[])) (ht3 : s.heap.get? 207 = some (tabObj #[])) (ht4 : s.heap.get? 1120 = some (tabObj #[])) (hg1 : hb.get? 186 = none) (hg2 : hb.get? 200 = none) (hg3 : hb.get? 207 = none) (hg4 : hb.get? 1120 = none)
    (hC1 : CodeHd hb 190 186) (hC2 : CodeHd hb 204 200) (hC3 : CodeHd hb 211 207) (hC4 : CodeHd hb 1124 1120)
    (hQ : ∀ h' tk', hb.StaysIn h' → GrownAt 186 h' → GrownAt 200 h' → GrownAt 207 h' → GrownAt 1120 h' → Q (.bool true) { s with heap := h', toks := tk' }) :
    wpAny (model prog w) A (call (.ref 1125) [.ref sc]) Q E s := by
  refine wpAny_mono (t_law (G := ⟨prog, w, p, loose, mg, mb, hb, X, T⟩) hB hC1 hC2 hC3 hC4 hsl A s hb [[186], [200], [207], [1120], []] [.ref sc] rm (fun _ _ e => e) hsz ⟨st, .cons ⟨rfl, #[], ht1, .inl rfl⟩ (.cons ⟨rfl, #[], ht2, .inl rfl⟩ (.cons ⟨rfl, #[], ht3, .inl rfl⟩ (.cons ⟨rfl, #[], ht4, .inl rfl⟩ (.cons ⟨rfl, svs, hsc, all2_ofInts hsi⟩ .nil)))), by decide, fun a ha => ?_⟩ (.cons rfl .nil)) (fun v s' ⟨h', tk', z', ls', N', e, O, M, ev, N0, eN⟩ => ?_) fun _ _ y => y.elim
  · simp only [List.flatten_cons, List.flatten_nil, List.append_nil, List.cons_append, List.nil_append, List.mem_cons, List.not_mem_nil, or_false] at ha
    rcases ha with rfl | rfl | rfl | rfl <;> assumption
  · subst e ev eN
    have g : ∀ {P : Addr} {l c : Nat} {q : Str} {i : Nat}, (tabs ++ N0)[i]? = some (TabE P l c q) → GrownAt P h' := fun hi => by
      obtain ⟨_, ⟨_, ps, g, _⟩, _⟩ := O.ok.get hi
      exact ⟨ps, g⟩
    exact hQ h' tk' (fun b o e => O.zh b o (M.zz b o e)) (g (i := 0) rfl) (g (i := 1) rfl) (g (i := 2) rfl) (g (i := 3) rfl)
end Mine
end
section
open PySem PySem.W PySem.Calls PyProof.Rows
namespace HD
theorem good_true {cw : ClaimW} {cl : Str → Option Addr} {mean : ExcName → Option Value} {args : List WData} {s₁ s' : Shared} {tabs : List (Addr × Addr)} (hT : TabsAt tabs s₁.heap) (hk : (ghostOf s₁.heap tabs).StaysIn s'.heap) (hg : ∀ q ∈ tabs, GrownAt q.2 s'.heap) (hr : ∀ x, cw.raises args x = false) (hp : cw.post args (.bool true) args = true) (ho : s'.os = s₁.os) (hb : s'.gens = #[]) :
    GoodWG cw cl mean args s₁ (.ok (.ret (.bool true))) s' := by
  have key : ∀ b o, s₁.heap.get? b = some o → s'.heap.get? b = some o ∨ (isCodeTable s₁.heap b ∧ o = tabObj #[] ∧ ∃ ps, s'.heap.get? b = some (tabObj ps)) := fun b o e => by
    by_cases hm : b ∈ tabs.map (·.2)
    · obtain ⟨q, hq, rfl⟩ := List.mem_map.mp hm
      have h1 := hT q hq
      exact .inr ⟨(h1.1.tab h1.2).isCodeTable, Option.some.inj (e.symm.trans h1.2), hg q hq⟩
    · exact .inl (hk b o (ghost_ne e hm))
  refine ⟨.inl ⟨_, .bool true, [], rfl, hr, ?_, hp, ?_⟩, ⟨fun b o e => ?_, fun b o e => ?_⟩, ho, .of_eq hb⟩
  · exact .bool true
  · exact fun _ => ⟨List.nodup_nil, fun _ h => nomatch h⟩
  · rcases key b o e with h | ⟨h1, rfl, ps, h2⟩
    · exact .inl h
    · exact .inr (.inl ⟨h1, rfl, #[], ps, rfl, by simpa using h2⟩)
  · rcases key b o e with h | ⟨_, _, ps, h2⟩
    · exact ⟨_, h⟩
    · exact ⟨_, h2⟩
noncomputable def tabs4 : List (Addr × Addr) := [(190, 186), (204, 200), (211, 207), (1124, 1120)]
set_option maxHeartbeats 8000000 in
theorem test_holds : PySem.Challenge.rw_pb0437_01.Holds := by
  refine PySem.W.holds_law h_said fun said => ?_
  refine PySem.W.holds_open (q := vw) (loose := loose) (Xt := fun s => xlAt vw [] s && recOk [] s) (XP := XL vw []) (Yf := HK.obs) (Ya := HK.val) (YP := HK.says) (N := 14800) h_left HK.of HK.keeps (fun s e => xl_of s (Bool.and_eq_true_iff.mp e).1) XL.keeps (by rfl) (by rfl) (by rfl) (fun s e => recFacts_of (Bool.and_eq_true_iff.mp e).2) (by rfl) said (by decide +kernel) ⟨rfl, rfl, rfl, rfl, rfl, by decide +kernel⟩ ?hw ?hc
  case hw => w_witness2
  intro w s₀ s₁ mg mb G Y fa o pm cd doc dV kV ho hd hcd hD hmg hg args vals as hpre hlay hrd hwl hlo
  have KX := km_in_of Y
  have hT8 := km_tabs_of Y
  have T := G.T
  have hT9 : TabsAt tabs4 s₁.heap := List.forall_mem_cons.mpr ⟨⟨codeHd_of_K (c := 190) (P := 186) KX (by kernel_rfl), hT8 186 (by k_mem)⟩, List.forall_mem_cons.mpr ⟨⟨codeHd_of_K (c := 204) (P := 200) KX (by kernel_rfl), hT8 200 (by k_mem)⟩, List.forall_mem_cons.mpr ⟨⟨codeHd_of_K (c := 211) (P := 207) KX (by kernel_rfl), hT8 207 (by k_mem)⟩, List.forall_mem_cons.mpr ⟨⟨codeHd_of_K (c := 1124) (P := 1120) KX (by kernel_rfl), hT8 1120 (by k_mem)⟩, fun _ h => nomatch h⟩⟩⟩⟩
  have hfa : fa = 1125 := by
    have e := mg_of KX T.g (n := Str.ofString "law") (v := .ref 1125) (by kernel_rfl)
    rw [show mg (Str.ofString "law") = some (.ref fa) from hmg] at e
    cases e; rfl
  subst hfa
  clear hd hcd hD hmg ho
  wrow_args hpre hlay hrd hwl hlo
  rename IntsAre _ _ => hI
  rename Heap.IsList _ _ _ => hL
  rename_i ns _ _ _ _ _ _ _ sc vs _ _ _ _ _ hcond _
  have hXg := ghost_K hT9 KX (by kernel_rfl)
  have hTg := ghost_top hT9 T
  have hz : ∀ P ∈ [(186 : Addr), 200, 207, 1120], (ghostOf s₁.heap tabs4).get? P = none := fun P hP => hideAll_none _ hP
  refine Mine.c_law (hb := ghostOf s₁.heap tabs4) (svs := vs) (sns := ns) (fun _ _ e => of_hideAll _ e) hXg (topRead_of hTg) ⟨rfl, by decide +kernel, by decide +kernel⟩ (hTg.bmain.elim fun bm h => h.elim fun ob h => ⟨bm, ob, h.1, h.2.1, h.2.2.1, h.2.2.2.1, h.2.2.2.2.1, h.2.2.2.2.2⟩) (Nat.le_of_eq (hideAll_size _ _)) ?hsc hI (by omega) (hT8 186 (by k_mem)) (hT8 200 (by k_mem)) (hT8 207 (by k_mem)) (hT8 1120 (by k_mem)) (hz 186 (by simp)) (hz 200 (by simp)) (hz 207 (by simp)) (hz 1120 (by simp)) ?c1 ?c2 ?c3 ?c4 ?hQ
  case hsc =>
    obtain ⟨o2, e, c, r⟩ := hL
    exact ⟨o2, ghost_get hT9 e (fun z => by rw [z] at c; cases c), c, r⟩
  case c1 => exact codeHd_of_K hXg (by kernel_rfl)
  case c2 => exact codeHd_of_K hXg (by kernel_rfl)
  case c3 => exact codeHd_of_K hXg (by kernel_rfl)
  case c4 => exact codeHd_of_K hXg (by kernel_rfl)
  case hQ =>
    intro h' tk' q1 q6 q2 q7 q0
    exact good_true (s' := { s₁ with heap := h', toks := tk' }) hT9 q1 (List.forall_mem_cons.mpr ⟨q6, List.forall_mem_cons.mpr ⟨q2, List.forall_mem_cons.mpr ⟨q7, List.forall_mem_cons.mpr ⟨q0, fun _ h => nomatch h⟩⟩⟩⟩) (fun _ => rfl) (by kernel_rfl) rfl hg
end HD
end
theorem PySem.Challenge.cw_pb0437_01_holds : PySem.Challenge.rw_pb0437_01.Holds := by
  exact HD.test_holds
