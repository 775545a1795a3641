import PyProof.Rows.All
import KE.IntTextLaws
import Wide.All
import OpenK.AllK
import Wide.FinOn
import KE.KStateDown
import HandS.ForMost
import HandS.ForExc
import HandS.Defaults
import HandS.Head0
import HandS.Head1
import HandS.Head2
import HandS.HeadEnd
import HandS.HeadHook1
import HandS.HeadHook2
import HandS.HeadHook3
import HandS.HeadHook4
import HandS.HeadNt
import KE.KExcSuper
import HandS.ExcInit
import HandS.ExcSuper
import KE.GoesRaise
import PyProof.ReprRoads
import KE.GoesMore
import KE.KExcIs
import KE.GoesEnum
import HandS.Walk
import HandS.Iter
import HandS.IsInst
import HandS.ExcIs
import HandS.ExcField
import HandS.Flow
import HandS.Strs
import HandS.More
import HandS.TupAny
import KE.KxText
import HandS.Wide
import PySem.Challenge.RW_countermarch_k10_whole_any_text_is_judge
set_option Elab.async false
set_option linter.all false
set_option maxRecDepth 100000
/-! K10Pure: the mirror of the reader, no Python: nodes, words, forms, the tree. -/
namespace K10
open PySem PySem.NumText

/-! ### nodes -/
inductive Node where
  | word (w : Str) (i : Int)
  | form (ps : List Node) (i : Int)

def Node.at : Node → Int
  | .word _ i => i
  | .form _ i => i
mutual
def Node.dat : Node → PyData
  | .word w i => .tuple [.str w, .int i]
  | .form ps i => .tuple [.list (dats ps), .int i]
def dats : List Node → List PyData
  | [] => []
  | n :: r => n.dat :: dats r
end
mutual
def Node.depth : Node → Nat
  | .word _ _ => 0
  | .form ps _ => 1 + depths ps
def depths : List Node → Nat
  | [] => 0
  | n :: r => max n.depth (depths r)
end
mutual
/-- the signs that it takes, but spaces and closing parentheses -/
def Node.wt : Node → Nat
  | .word w _ => w.length
  | .form ps _ => 1 + wts ps
def wts : List Node → Nat
  | [] => 0
  | n :: r => n.wt + wts r
end
mutual
/-- no empty word, no index below 0 -/
def Node.good : Node → Prop
  | .word w i => 0 < w.length ∧ 0 ≤ i
  | .form ps i => goods ps ∧ 0 ≤ i
def goods : List Node → Prop
  | [] => True
  | n :: r => n.good ∧ goods r
end

theorem dats_append : ∀ a b : List Node, dats (a ++ b) = dats a ++ dats b
  | [], b => rfl
  | n :: r, b => by rw [List.cons_append, dats, dats, dats_append r b]; rfl
theorem wts_append : ∀ a b : List Node, wts (a ++ b) = wts a + wts b
  | [], b => by rw [List.nil_append, wts, Nat.zero_add]
  | n :: r, b => by rw [List.cons_append, wts, wts, wts_append r b]; omega
theorem depths_append : ∀ a b : List Node, depths (a ++ b) = max (depths a) (depths b)
  | [], b => by rw [List.nil_append, depths, Nat.zero_max]
  | n :: r, b => by rw [List.cons_append, depths, depths, depths_append r b, Nat.max_assoc]
theorem goods_append : ∀ {a b : List Node}, goods a → goods b → goods (a ++ b)
  | [], b, _, h => h
  | n :: r, b, h, k => by
    rw [List.cons_append, goods]
    rw [goods] at h
    exact ⟨h.1, goods_append h.2 k⟩
theorem depth_mem : ∀ {ps : List Node} {n : Node}, n ∈ ps → n.depth ≤ depths ps
  | m :: r, n, h => by
    rw [depths]
    rcases List.mem_cons.mp h with rfl | h
    · exact Nat.le_max_left _ _
    · exact Nat.le_trans (depth_mem h) (Nat.le_max_right _ _)
theorem wt_mem : ∀ {ps : List Node} {n : Node}, n ∈ ps → n.wt ≤ wts ps
  | m :: r, n, h => by
    rw [wts]
    rcases List.mem_cons.mp h with rfl | h
    · exact Nat.le_add_right _ _
    · exact Nat.le_trans (wt_mem h) (Nat.le_add_left _ _)
theorem good_mem : ∀ {ps : List Node} {n : Node}, goods ps → n ∈ ps → n.good
  | m :: r, n, g, h => by
    rw [goods] at g
    rcases List.mem_cons.mp h with rfl | h
    · exact g.1
    · exact good_mem g.2 h
theorem wt_pos : ∀ {n : Node}, n.good → 0 < n.wt
  | .word w i, g => by rw [Node.good] at g; rw [Node.wt]; exact g.1
  | .form ps i, g => by rw [Node.wt]; omega
theorem len_le_wts : ∀ {ps : List Node}, goods ps → ps.length ≤ wts ps
  | [], _ => Nat.le_refl _
  | n :: r, g => by
    rw [goods] at g
    rw [wts, List.length_cons]
    have := wt_pos g.1
    have := len_le_wts g.2
    omega
theorem dats_length : ∀ ps : List Node, (dats ps).length = ps.length
  | [] => rfl
  | n :: r => by rw [dats, List.length_cons, List.length_cons, dats_length r]
theorem dats_get : ∀ {ps : List Node} {i : Nat} {n : Node}, ps[i]? = some n → (dats ps)[i]? = some n.dat
  | [], i, n, h => by simp at h
  | m :: r, 0, n, h => by simp at h; subst h; rw [dats]; rfl
  | m :: r, i + 1, n, h => by rw [dats]; simpa using dats_get (ps := r) (i := i) (n := n) (by simpa using h)
theorem dats_drop : ∀ (k : Nat) (ps : List Node), dats (ps.drop k) = (dats ps).drop k
  | 0, ps => by simp
  | k + 1, [] => by simp [dats]
  | k + 1, n :: r => by rw [dats, List.drop_succ_cons, List.drop_succ_cons, dats_drop k r]
theorem wts_drop : ∀ (k : Nat) (ps : List Node), wts (ps.drop k) ≤ wts ps
  | 0, ps => by simp
  | k + 1, [] => by simp [wts]
  | k + 1, n :: r => by rw [List.drop_succ_cons, wts]; exact Nat.le_trans (wts_drop k r) (Nat.le_add_left _ _)
theorem depths_drop : ∀ (k : Nat) (ps : List Node), depths (ps.drop k) ≤ depths ps
  | 0, ps => by simp
  | k + 1, [] => by simp [depths]
  | k + 1, n :: r => by rw [List.drop_succ_cons, depths]; exact Nat.le_trans (depths_drop k r) (Nat.le_max_right _ _)
theorem goods_drop : ∀ {ps : List Node} (k : Nat), goods ps → goods (ps.drop k)
  | ps, 0, g => by simpa using g
  | [], k + 1, g => by simpa using g
  | n :: r, k + 1, g => by rw [goods] at g; rw [List.drop_succ_cons]; exact goods_drop k g.2

/-! ### words -/
def lettersL : List Nat := (Str.ofString "abcdefghijklmnopqrstuvwxyz").cps.toList
def digitsL : List Nat := (Str.ofString "0123456789").cps.toList
def reserved : List Str := (["state", "param", "procedure", "beat", "set", "loop", "if", "call", "let", "at", "add", "sub", "mul", "div", "plus", "minus", "times", "rem", "less", "equal", "zero", "not"] : List String).map Str.ofString
def allDig (w : Str) : Bool := w.cps.toList.all fun c => decide (c ∈ digitsL)
def allNam (w : Str) : Bool := w.cps.toList.all fun c => decide (c ∈ lettersL) || decide (c ∈ digitsL)
def firstIs (w : Str) (l : List Nat) : Bool := match w.cps.toList with
  | c :: _ => decide (c ∈ l)
  | [] => false
def isName (w : Str) : Bool := decide (1 ≤ w.length) && decide (w.length ≤ 8) && !decide (w ∈ reserved) && firstIs w lettersL && allNam w
def isNum (w : Str) : Bool := decide (1 ≤ w.length) && decide (w.length ≤ 10) && allDig w && (decide (w = Str.ofString "0") || !firstIs w [48])
def numVal (w : Str) : Int := (digitsVal w.cps.toList : Nat)
def numIn (w : Str) (lo hi : Int) : Option Int := if isNum w = true ∧ lo ≤ numVal w ∧ numVal w ≤ hi then some (numVal w) else none

theorem mem_letters {c : Nat} : c ∈ lettersL ↔ 97 ≤ c ∧ c ≤ 122 := by
  have e : lettersL = (List.range 26).map (· + 97) := by decide +kernel
  rw [e, List.mem_map]
  constructor
  · rintro ⟨k, hk, rfl⟩
    have := List.mem_range.mp hk
    omega
  · intro h
    exact ⟨c - 97, List.mem_range.mpr (by omega), by omega⟩
theorem mem_digits {c : Nat} : c ∈ digitsL ↔ 48 ≤ c ∧ c ≤ 57 := by
  have e : digitsL = (List.range 10).map (· + 48) := by decide +kernel
  rw [e, List.mem_map]
  constructor
  · rintro ⟨k, hk, rfl⟩
    have := List.mem_range.mp hk
    omega
  · intro h
    exact ⟨c - 48, List.mem_range.mpr (by omega), by omega⟩
theorem isNum_digits {w : Str} (h : isNum w = true) : allDig w = true ∧ 1 ≤ w.length ∧ w.length ≤ 10 := by
  unfold isNum at h
  simp only [Bool.and_eq_true, decide_eq_true_eq] at h
  exact ⟨h.1.2, h.1.1.1, h.1.1.2⟩
theorem isNum_not_name {w : Str} (h : isNum w = true) : isName w = false := by
  obtain ⟨h1, h2, _⟩ := isNum_digits h
  unfold allDig at h1
  rw [List.all_eq_true] at h1
  have e : firstIs w lettersL = false := by
    unfold firstIs
    cases q : w.cps.toList with
    | nil => rfl
    | cons c r =>
      have z := h1 c (by rw [q]; exact List.mem_cons_self)
      have z1 := mem_digits.mp (of_decide_eq_true z)
      show decide (c ∈ lettersL) = false
      refine decide_eq_false fun y => ?_
      have := mem_letters.mp y
      omega
  unfold isName
  rw [e]
  simp
theorem numIn_some {w : Str} {lo hi n : Int} (h : numIn w lo hi = some n) : isNum w = true ∧ n = numVal w ∧ lo ≤ n ∧ n ≤ hi := by
  unfold numIn at h
  split at h
  · rename_i c
    cases h
    exact ⟨c.1, rfl, c.2.1, c.2.2⟩
  · cases h
theorem numVal_nonneg (w : Str) : 0 ≤ numVal w := Int.natCast_nonneg _
theorem isNum_text {w : Str} (h : isNum w = true) : intText? w = some (numVal w) ∧ w.length ≤ 640 := by
  obtain ⟨h1, h2, h3⟩ := isNum_digits h
  refine ⟨intText_digits ?_ ?_ (by omega), by omega⟩
  · intro c hc
    unfold allDig at h1
    rw [List.all_eq_true] at h1
    exact mem_digits.mp (of_decide_eq_true (h1 c hc))
  · intro e
    have : w.length = 0 := by
      show w.cps.size = 0
      rw [← Array.length_toList, e]
      rfl
    omega

/-! ### reading -/
abbrev Rd (α : Type) := Except Int α
def nameOf : Node → Rd Str
  | .word w i => if isName w = true then .ok w else .error i
  | .form _ i => .error i
def numOf (lo hi : Int) : Node → Rd Int
  | .word w i => match numIn w lo hi with
    | some n => .ok n
    | none => .error i
  | .form _ i => .error i
def firstIn (ws : List Str) : Node → Rd Str
  | .word _ i => .error i
  | .form [] i => .error i
  | .form (.word h j :: _) _ => if h ∈ ws then .ok h else .error j
  | .form (.form _ j :: _) _ => .error j
def partsIn (lo hi : Nat) : Node → Rd (List Node)
  | .word _ i => .error i
  | .form ps i => if lo ≤ ps.length ∧ ps.length ≤ hi then .ok ps else .error i
def rdAll (f : Node → Rd PyData) : List Node → Rd (List PyData)
  | [] => .ok []
  | n :: r => match f n with
    | .error e => .error e
    | .ok x => match rdAll f r with
      | .error e => .error e
      | .ok xs => .ok (x :: xs)
abbrev S (s : String) : Str := Str.ofString s
abbrev dS (s : Str) : PyData := .str s
def wIndex : List Str := [S "plus", S "minus", S "times", S "rem"]
def wExpr : List Str := [S "at", S "add", S "sub", S "mul", S "div"]
def wTest : List Str := [S "less", S "equal", S "zero", S "not"]
def wStmt : List Str := [S "set", S "loop", S "if", S "call", S "let"]
def wDecl : List Str := [S "state", S "param", S "procedure", S "beat"]
def nameD (n : Node) : Rd PyData := (nameOf n).map .str

def idxStep (rc : Node → Rd PyData) : Node → Rd PyData
  | .word w i => if w = S "beat" then .ok (.tuple [.str (S "beat")]) else match numIn w 0 1000 with
    | some n => .ok (.tuple [.str (S "integer"), .int n])
    | none => if isName w = true then .ok (.tuple [.str (S "index"), .str w]) else .error i
  | .form ps i => do
    let h ← firstIn wIndex (.form ps i)
    let ps ← partsIn 3 3 (.form ps i)
    match ps with
    | [_, a, b] => (if h = S "rem" then (do
        let x ← rc a
        let n ← numOf 1 1000 b
        .ok (.tuple [.str h, x, .int n]))
      else (do
        let x ← rc a
        let y ← rc b
        .ok (.tuple [.str h, x, y])))
    | _ => .error i
def rdIdx : Nat → Node → Rd PyData
  | 0, n => .error n.at
  | k + 1, n => idxStep (rdIdx k) n
def plcStep (idx : Node → Rd PyData) : Node → Rd (Str × PyData)
  | .word w i => if isName w = true then .ok (w, .none) else .error i
  | .form ps i => do
    let _ ← firstIn [S "at"] (.form ps i)
    let ps ← partsIn 3 3 (.form ps i)
    match ps with
    | [_, a, b] => do
      let n ← nameOf a
      let x ← idx b
      .ok (n, x)
    | _ => .error i
def exprStep (idx rc : Node → Rd PyData) : Node → Rd PyData
  | .word w i => match numIn w 0 2147483646 with
    | some n => .ok (.tuple [.str (S "number"), .int n])
    | none => if isName w = true then .ok (.tuple [.str (S "place"), .str w, .none]) else .error i
  | .form ps i => do
    let h ← firstIn wExpr (.form ps i)
    if h = S "at" then do
      let p ← plcStep idx (.form ps i)
      .ok (.tuple [.str (S "place"), .str p.1, p.2])
    else do
      let ps ← partsIn 3 3 (.form ps i)
      match ps with
      | [_, a, b] => do
        let x ← rc a
        let y ← rc b
        .ok (.tuple [.str h, x, y])
      | _ => .error i
def rdExpr : Nat → Node → Rd PyData
  | 0, n => .error n.at
  | k + 1, n => exprStep (rdIdx (k + 1)) (rdExpr k) n
def testStep (idx expr rc : Node → Rd PyData) (nd : Node) : Rd PyData := do
  let h ← firstIn wTest nd
  if h = S "less" ∨ h = S "equal" then do
    let ps ← partsIn 3 3 nd
    match ps with
    | [_, a, b] => do
      let x ← idx a
      let y ← idx b
      .ok (.tuple [.str h, x, y])
    | _ => .error nd.at
  else do
    let ps ← partsIn 2 2 nd
    match ps with
    | [_, a] => do
      let x ← (if h = S "zero" then expr a else rc a)
      .ok (.tuple [.str h, x])
    | _ => .error nd.at
def rdTest : Nat → Node → Rd PyData
  | 0, n => .error n.at
  | k + 1, n => testStep (rdIdx (k + 1)) (rdExpr (k + 1)) (rdTest k) n
def inf : Nat := 6000
def body (rc : Node → Rd PyData) (nd : Node) : Rd PyData := do
  let l ← partsIn 0 inf nd
  let xs ← rdAll rc l
  .ok (.tuple xs)
def stLo (h : Str) : Nat := if h = S "if" ∨ h = S "call" then 4 else 3
def stHi (h : Str) : Nat := if h = S "set" then 3 else if h = S "if" ∨ h = S "call" then 4 else inf
def stmtStep (idx expr test rc : Node → Rd PyData) (nd : Node) : Rd PyData := do
  let h ← firstIn wStmt nd
  let ps ← partsIn (stLo h) (stHi h) nd
  if h = S "set" then
    match ps with
    | [_, a, b] => do
      let p ← plcStep idx a
      let e ← expr b
      .ok (.tuple [.str h, .tuple [.str p.1, p.2], e])
    | _ => .error nd.at
  else if h = S "if" then
    match ps with
    | [_, t, a, b] => do
      let t ← test t
      let x ← body rc a
      let y ← body rc b
      .ok (.tuple [.str h, t, x, y])
    | _ => .error nd.at
  else if h = S "call" then
    match ps with
    | [_, n, a, b] => do
      let n ← nameOf n
      let x ← body idx a
      let y ← body nameD b
      .ok (.tuple [.str h, .str n, x, y])
    | _ => .error nd.at
  else
    match ps with
    | _ :: n :: c :: r => do
      let n ← nameOf n
      let x ← (if h = S "loop" then idx c else expr c)
      let y ← rdAll rc r
      .ok (.tuple [.str h, .str n, x, .tuple y])
    | _ => .error nd.at
def rdStmt : Nat → Node → Rd PyData
  | 0, n => .error n.at
  | k + 1, n => stmtStep (rdIdx (k + 1)) (rdExpr (k + 1)) (rdTest (k + 1)) (rdStmt k) n
def varOf : List Node → Rd PyData
  | [] => .error 0
  | [a] => do
    let n ← nameOf a
    .ok (.tuple [.str n, .int 0])
  | a :: b :: _ => do
    let n ← nameOf a
    let k ← numOf 1 8 b
    .ok (.tuple [.str n, .int k])
def refOf (nd : Node) : Rd PyData := do
  let ps ← partsIn 1 2 nd
  varOf ps
def procOf (stmt : Node → Rd PyData) (nd : Node) : Rd PyData := do
  let ps ← partsIn 4 inf nd
  match ps with
  | _ :: n :: a :: b :: r => do
    let n ← nameOf n
    let x ← body nameD a
    let y ← body refOf b
    let z ← rdAll stmt r
    .ok (.tuple [.str n, x, y, .tuple z])
  | _ => .error nd.at
/-- the words that may come at a stage -/
def mayCome (stage : Nat) : List Str := if stage < 3 then wDecl.drop stage else []
def declOf (stmt : Node → Rd PyData) (stage : Nat) (nd : Node) : Rd (Nat × PyData) := do
  let h ← firstIn (mayCome stage) nd
  if h = S "beat" then
    match nd with
    | .form (_ :: r) _ => do
      let x ← rdAll stmt r
      .ok (3, .tuple x)
    | _ => .error nd.at
  else if h = S "procedure" then do
    let x ← procOf stmt nd
    .ok (2, x)
  else do
    let ps ← partsIn 2 3 nd
    let x ← varOf (ps.drop 1)
    .ok (if h = S "state" then 0 else 1, x)
structure Gr where
  a : List PyData := []
  b : List PyData := []
  c : List PyData := []
  d : List PyData := []
def Gr.put (g : Gr) (k : Nat) (x : PyData) : Gr := match k with
  | 0 => { g with a := g.a ++ [x] }
  | 1 => { g with b := g.b ++ [x] }
  | 2 => { g with c := g.c ++ [x] }
  | _ => { g with d := g.d ++ [x] }
def declsOf (stmt : Node → Rd PyData) : Nat → Gr → List Node → Rd Gr
  | _, g, [] => .ok g
  | stage, g, nd :: r => match declOf stmt stage nd with
    | .error e => .error e
    | .ok (k, x) => declsOf stmt k (g.put k x) r
def treeOf (len : Int) (g : Gr) : Rd PyData := match g.d with
  | [] => .error len
  | x :: _ => .ok (.tuple [.tuple g.a, .tuple g.b, .tuple g.c, x])

/-! ### words of a text, forms -/
def isSep (c : Nat) : Bool := c == 32 || c == 10 || c == 40 || c == 41
def isPar (c : Nat) : Bool := c == 40 || c == 41
def legal (c : Nat) : Bool := c == 10 || (decide (32 ≤ c) && decide (c ≤ 126) && c != 37)
abbrev Tok1 := Str × Int
def wordTok (i : Int) (cur : List Nat) : List Tok1 := match cur with
  | [] => []
  | c :: r => [(⟨(c :: r).toArray⟩, i - ((c :: r).length : Nat))]
def lex (i : Int) (cur : List Nat) : List Nat → List Tok1
  | [] => wordTok i cur
  | c :: cs => if isSep c = true then wordTok i cur ++ ((if isPar c = true then [(⟨#[c]⟩, i)] else []) ++ lex (i + 1) [] cs) else lex (i + 1) (cur ++ [c]) cs
/-- the first sign that no text has -/
def badAt : Nat → List Nat → Option Nat
  | _, [] => none
  | i, c :: cs => if legal c = true then badAt (i + 1) cs else some i
/-- the forms that stand open: the innermost first; the last is the text itself -/
structure FS where
  top : List Node
  ix : Int
  up : List (List Node × Int)
def FS.push (f : FS) (t : Tok1) : Rd FS :=
  if t.1 = S "(" then (if f.up.length + 1 > 20 then .error t.2 else .ok ⟨[], t.2, (f.top, f.ix) :: f.up⟩)
  else match f.up with
    | [] => .error t.2
    | (p, j) :: r => if t.1 = S ")" then .ok ⟨p ++ [.form f.top f.ix], j, r⟩ else .ok { f with top := f.top ++ [.word t.1 t.2] }
def FS.run : FS → List Tok1 → Rd FS
  | f, [] => .ok f
  | f, t :: r => match f.push t with
    | .error e => .error e
    | .ok g => g.run r
def FS.fin (len : Int) (f : FS) : Rd (List Node) := match f.up with
  | [] => .ok f.top
  | _ :: _ => .error len
def fs0 : FS := ⟨[], 0, []⟩
def formsOf (cs : List Nat) : Rd (List Node) := match fs0.run (lex 0 [] cs) with
  | .error e => .error e
  | .ok f => f.fin (cs.length : Nat)
/-- the fuel: more than 20 forms stand in no form -/
def fuel : Nat := 22
def readNodes (len : Int) (ns : List Node) : Rd PyData := match declsOf (rdStmt fuel) 0 {} ns with
  | .error e => .error e
  | .ok g => treeOf len g
def readText (cs : List Nat) : Rd PyData := match formsOf cs with
  | .error e => .error e
  | .ok ns => readNodes (cs.length : Nat) ns

theorem run_append : ∀ (f : FS) (a b : List Tok1), f.run (a ++ b) = (match f.run a with
    | .error e => .error e
    | .ok g => g.run b)
  | f, [], b => rfl
  | f, t :: r, b => by
    rw [List.cons_append, FS.run, FS.run]
    cases f.push t with
    | error e => rfl
    | ok g => exact run_append g r b
end K10
set_option maxHeartbeats 0
/-! K10Base: the text by places, the defs, the head's facts. Printed by genhead.py. -/
namespace K10
open PySem PySem.Spec PyProof.Rows L2
/-! ### the text -/
def top (i : Nat) : Stmt := PySem.Challenge.pw_countermarch_k10_whole_any_text_is_judge.main.body.getD i (.Pass ⟨0, 0, 0, 0⟩)
abbrev sIsSign : Stmt := top 10
abbrev sSplit : Stmt := top 11
abbrev sReadForms : Stmt := top 12
abbrev sIsWord : Stmt := top 13
abbrev sWordOf : Stmt := top 14
abbrev sPartsOfForm : Stmt := top 15
abbrev sIsName : Stmt := top 22
abbrev sIsNumeral : Stmt := top 23
abbrev sNameOf : Stmt := top 29
abbrev sNumeralOf : Stmt := top 30
abbrev sHeadOf : Stmt := top 31
abbrev sCounted : Stmt := top 32
abbrev sReadIndex : Stmt := top 33
abbrev sReadPlace : Stmt := top 34
abbrev sReadExpression : Stmt := top 35
abbrev sReadTest : Stmt := top 36
abbrev sReadBody : Stmt := top 37
abbrev sReadCall : Stmt := top 38
abbrev sReadStatement : Stmt := top 39
abbrev sReadVariable : Stmt := top 40
abbrev sReadProcedure : Stmt := top 41
abbrev sReadDeclaration : Stmt := top 42
abbrev sReadTree : Stmt := top 43
abbrev sReadProgram : Stmt := top 45
abbrev sLawDraws : Stmt := top 47
abbrev sLawTake : Stmt := top 48
abbrev sLawNumber : Stmt := top 49
abbrev sLawIndex : Stmt := top 50
abbrev sLawPlace : Stmt := top 51
abbrev sLawExpression : Stmt := top 52
abbrev sLawTest : Stmt := top 53
abbrev sLawCall : Stmt := top 54
abbrev sLawBody : Stmt := top 55
abbrev sLawStatement : Stmt := top 56
abbrev sLawTree : Stmt := top 57
abbrev sLawIndexText : Stmt := top 58
abbrev sLawPlaceText : Stmt := top 59
abbrev sLawExpressionText : Stmt := top 60
abbrev sLawTestText : Stmt := top 61
abbrev sLawBodyText : Stmt := top 62
abbrev sLawStatementText : Stmt := top 63
abbrev sLawVariableText : Stmt := top 64
abbrev sLawWords : Stmt := top 65
abbrev sLawLine : Stmt := top 66
abbrev sLawName : Stmt := top 67
abbrev sLawValued : Stmt := top 68
abbrev sLawFail : Stmt := top 69
abbrev sLawForms : Stmt := top 70
abbrev sLawWord : Stmt := top 71
abbrev sLawNamed : Stmt := top 72
abbrev sLawList : Stmt := top 73
abbrev sLawFirst : Stmt := top 74
abbrev sLawReadIndex : Stmt := top 75
abbrev sLawReadPlace : Stmt := top 76
abbrev sLawReadExpression : Stmt := top 77
abbrev sLawReadTest : Stmt := top 78
abbrev sLawReadBody : Stmt := top 79
abbrev sLawReadStatement : Stmt := top 80
abbrev sLawReadVariable : Stmt := top 81
abbrev sLawReadProcedure : Stmt := top 82
abbrev sLawRead : Stmt := top 83
abbrev sLawChanged : Stmt := top 84
abbrev sLawText : Stmt := top 85
abbrev sLaw : Stmt := top 86
abbrev FnP (K : PySem.W.Frag) (x : Str) (st : Stmt) (f : Addr) (fd : FuncData) : Prop := FunD K x x (defArgs st) (defBody st) (defScope st) [] [] f fd
/-! ### the defs as data -/
def dIsSign : He.DefD := ⟨("is_sign", none), "is_sign", "is_sign", defArgs sIsSign, defBody sIsSign, defScope sIsSign, [], []⟩
def dSplit : He.DefD := ⟨("split", none), "split", "split", defArgs sSplit, defBody sSplit, defScope sSplit, [], []⟩
def dReadForms : He.DefD := ⟨("read_forms", none), "read_forms", "read_forms", defArgs sReadForms, defBody sReadForms, defScope sReadForms, [], []⟩
def dIsWord : He.DefD := ⟨("is_word", none), "is_word", "is_word", defArgs sIsWord, defBody sIsWord, defScope sIsWord, [], []⟩
def dWordOf : He.DefD := ⟨("word_of", none), "word_of", "word_of", defArgs sWordOf, defBody sWordOf, defScope sWordOf, [], []⟩
def dPartsOfForm : He.DefD := ⟨("parts_of_form", none), "parts_of_form", "parts_of_form", defArgs sPartsOfForm, defBody sPartsOfForm, defScope sPartsOfForm, [], []⟩
def dIsName : He.DefD := ⟨("is_name", none), "is_name", "is_name", defArgs sIsName, defBody sIsName, defScope sIsName, [], []⟩
def dIsNumeral : He.DefD := ⟨("is_numeral", none), "is_numeral", "is_numeral", defArgs sIsNumeral, defBody sIsNumeral, defScope sIsNumeral, [], []⟩
def dNameOf : He.DefD := ⟨("name_of", none), "name_of", "name_of", defArgs sNameOf, defBody sNameOf, defScope sNameOf, [], []⟩
def dNumeralOf : He.DefD := ⟨("numeral_of", none), "numeral_of", "numeral_of", defArgs sNumeralOf, defBody sNumeralOf, defScope sNumeralOf, [], []⟩
def dHeadOf : He.DefD := ⟨("head_of", none), "head_of", "head_of", defArgs sHeadOf, defBody sHeadOf, defScope sHeadOf, [], []⟩
def dCounted : He.DefD := ⟨("counted", none), "counted", "counted", defArgs sCounted, defBody sCounted, defScope sCounted, [], []⟩
def dReadIndex : He.DefD := ⟨("read_index", none), "read_index", "read_index", defArgs sReadIndex, defBody sReadIndex, defScope sReadIndex, [], []⟩
def dReadPlace : He.DefD := ⟨("read_place", none), "read_place", "read_place", defArgs sReadPlace, defBody sReadPlace, defScope sReadPlace, [], []⟩
def dReadExpression : He.DefD := ⟨("read_expression", none), "read_expression", "read_expression", defArgs sReadExpression, defBody sReadExpression, defScope sReadExpression, [], []⟩
def dReadTest : He.DefD := ⟨("read_test", none), "read_test", "read_test", defArgs sReadTest, defBody sReadTest, defScope sReadTest, [], []⟩
def dReadBody : He.DefD := ⟨("read_body", none), "read_body", "read_body", defArgs sReadBody, defBody sReadBody, defScope sReadBody, [], []⟩
def dReadCall : He.DefD := ⟨("read_call", none), "read_call", "read_call", defArgs sReadCall, defBody sReadCall, defScope sReadCall, [], []⟩
def dReadStatement : He.DefD := ⟨("read_statement", none), "read_statement", "read_statement", defArgs sReadStatement, defBody sReadStatement, defScope sReadStatement, [], []⟩
def dReadVariable : He.DefD := ⟨("read_variable", none), "read_variable", "read_variable", defArgs sReadVariable, defBody sReadVariable, defScope sReadVariable, [], []⟩
def dReadProcedure : He.DefD := ⟨("read_procedure", none), "read_procedure", "read_procedure", defArgs sReadProcedure, defBody sReadProcedure, defScope sReadProcedure, [], []⟩
def dReadDeclaration : He.DefD := ⟨("read_declaration", none), "read_declaration", "read_declaration", defArgs sReadDeclaration, defBody sReadDeclaration, defScope sReadDeclaration, [], []⟩
def dReadTree : He.DefD := ⟨("read_tree", none), "read_tree", "read_tree", defArgs sReadTree, defBody sReadTree, defScope sReadTree, [], []⟩
def dReadProgram : He.DefD := ⟨("read_program", none), "read_program", "read_program", defArgs sReadProgram, defBody sReadProgram, defScope sReadProgram, [], []⟩
def dLawDraws : He.DefD := ⟨("_law_draws", none), "_law_draws", "_law_draws", defArgs sLawDraws, defBody sLawDraws, defScope sLawDraws, [], []⟩
def dLawTake : He.DefD := ⟨("_law_take", none), "_law_take", "_law_take", defArgs sLawTake, defBody sLawTake, defScope sLawTake, [], []⟩
def dLawNumber : He.DefD := ⟨("_law_number", none), "_law_number", "_law_number", defArgs sLawNumber, defBody sLawNumber, defScope sLawNumber, [], []⟩
def dLawIndex : He.DefD := ⟨("_law_index", none), "_law_index", "_law_index", defArgs sLawIndex, defBody sLawIndex, defScope sLawIndex, [], []⟩
def dLawPlace : He.DefD := ⟨("_law_place", none), "_law_place", "_law_place", defArgs sLawPlace, defBody sLawPlace, defScope sLawPlace, [], []⟩
def dLawExpression : He.DefD := ⟨("_law_expression", none), "_law_expression", "_law_expression", defArgs sLawExpression, defBody sLawExpression, defScope sLawExpression, [], []⟩
def dLawTest : He.DefD := ⟨("_law_test", none), "_law_test", "_law_test", defArgs sLawTest, defBody sLawTest, defScope sLawTest, [], []⟩
def dLawCall : He.DefD := ⟨("_law_call", none), "_law_call", "_law_call", defArgs sLawCall, defBody sLawCall, defScope sLawCall, [], []⟩
def dLawBody : He.DefD := ⟨("_law_body", none), "_law_body", "_law_body", defArgs sLawBody, defBody sLawBody, defScope sLawBody, [], []⟩
def dLawStatement : He.DefD := ⟨("_law_statement", none), "_law_statement", "_law_statement", defArgs sLawStatement, defBody sLawStatement, defScope sLawStatement, [], []⟩
def dLawTree : He.DefD := ⟨("_law_tree", none), "_law_tree", "_law_tree", defArgs sLawTree, defBody sLawTree, defScope sLawTree, [], []⟩
def dLawIndexText : He.DefD := ⟨("_law_index_text", none), "_law_index_text", "_law_index_text", defArgs sLawIndexText, defBody sLawIndexText, defScope sLawIndexText, [], []⟩
def dLawPlaceText : He.DefD := ⟨("_law_place_text", none), "_law_place_text", "_law_place_text", defArgs sLawPlaceText, defBody sLawPlaceText, defScope sLawPlaceText, [], []⟩
def dLawExpressionText : He.DefD := ⟨("_law_expression_text", none), "_law_expression_text", "_law_expression_text", defArgs sLawExpressionText, defBody sLawExpressionText, defScope sLawExpressionText, [], []⟩
def dLawTestText : He.DefD := ⟨("_law_test_text", none), "_law_test_text", "_law_test_text", defArgs sLawTestText, defBody sLawTestText, defScope sLawTestText, [], []⟩
def dLawBodyText : He.DefD := ⟨("_law_body_text", none), "_law_body_text", "_law_body_text", defArgs sLawBodyText, defBody sLawBodyText, defScope sLawBodyText, [], []⟩
def dLawStatementText : He.DefD := ⟨("_law_statement_text", none), "_law_statement_text", "_law_statement_text", defArgs sLawStatementText, defBody sLawStatementText, defScope sLawStatementText, [], []⟩
def dLawVariableText : He.DefD := ⟨("_law_variable_text", none), "_law_variable_text", "_law_variable_text", defArgs sLawVariableText, defBody sLawVariableText, defScope sLawVariableText, [], []⟩
def dLawWords : He.DefD := ⟨("_law_words", none), "_law_words", "_law_words", defArgs sLawWords, defBody sLawWords, defScope sLawWords, [], []⟩
def dLawLine : He.DefD := ⟨("_law_line", none), "_law_line", "_law_line", defArgs sLawLine, defBody sLawLine, defScope sLawLine, [], []⟩
def dLawName : He.DefD := ⟨("_law_name", none), "_law_name", "_law_name", defArgs sLawName, defBody sLawName, defScope sLawName, [], []⟩
def dLawValued : He.DefD := ⟨("_law_valued", none), "_law_valued", "_law_valued", defArgs sLawValued, defBody sLawValued, defScope sLawValued, [], []⟩
def dLawFail : He.DefD := ⟨("_law_fail", none), "_law_fail", "_law_fail", defArgs sLawFail, defBody sLawFail, defScope sLawFail, [], []⟩
def dLawForms : He.DefD := ⟨("_law_forms", none), "_law_forms", "_law_forms", defArgs sLawForms, defBody sLawForms, defScope sLawForms, [], []⟩
def dLawWord : He.DefD := ⟨("_law_word", none), "_law_word", "_law_word", defArgs sLawWord, defBody sLawWord, defScope sLawWord, [], []⟩
def dLawNamed : He.DefD := ⟨("_law_named", none), "_law_named", "_law_named", defArgs sLawNamed, defBody sLawNamed, defScope sLawNamed, [], []⟩
def dLawList : He.DefD := ⟨("_law_list", none), "_law_list", "_law_list", defArgs sLawList, defBody sLawList, defScope sLawList, [], []⟩
def dLawFirst : He.DefD := ⟨("_law_first", none), "_law_first", "_law_first", defArgs sLawFirst, defBody sLawFirst, defScope sLawFirst, [], []⟩
def dLawReadIndex : He.DefD := ⟨("_law_read_index", none), "_law_read_index", "_law_read_index", defArgs sLawReadIndex, defBody sLawReadIndex, defScope sLawReadIndex, [], []⟩
def dLawReadPlace : He.DefD := ⟨("_law_read_place", none), "_law_read_place", "_law_read_place", defArgs sLawReadPlace, defBody sLawReadPlace, defScope sLawReadPlace, [], []⟩
def dLawReadExpression : He.DefD := ⟨("_law_read_expression", none), "_law_read_expression", "_law_read_expression", defArgs sLawReadExpression, defBody sLawReadExpression, defScope sLawReadExpression, [], []⟩
def dLawReadTest : He.DefD := ⟨("_law_read_test", none), "_law_read_test", "_law_read_test", defArgs sLawReadTest, defBody sLawReadTest, defScope sLawReadTest, [], []⟩
def dLawReadBody : He.DefD := ⟨("_law_read_body", none), "_law_read_body", "_law_read_body", defArgs sLawReadBody, defBody sLawReadBody, defScope sLawReadBody, [], []⟩
def dLawReadStatement : He.DefD := ⟨("_law_read_statement", none), "_law_read_statement", "_law_read_statement", defArgs sLawReadStatement, defBody sLawReadStatement, defScope sLawReadStatement, [], []⟩
def dLawReadVariable : He.DefD := ⟨("_law_read_variable", none), "_law_read_variable", "_law_read_variable", defArgs sLawReadVariable, defBody sLawReadVariable, defScope sLawReadVariable, [], []⟩
def dLawReadProcedure : He.DefD := ⟨("_law_read_procedure", none), "_law_read_procedure", "_law_read_procedure", defArgs sLawReadProcedure, defBody sLawReadProcedure, defScope sLawReadProcedure, [], []⟩
def dLawRead : He.DefD := ⟨("_law_read", none), "_law_read", "_law_read", defArgs sLawRead, defBody sLawRead, defScope sLawRead, [], []⟩
def dLawChanged : He.DefD := ⟨("_law_changed", none), "_law_changed", "_law_changed", defArgs sLawChanged, defBody sLawChanged, defScope sLawChanged, [], []⟩
def dLawText : He.DefD := ⟨("_law_text", none), "_law_text", "_law_text", defArgs sLawText, defBody sLawText, defScope sLawText, [], []⟩
def dLaw : He.DefD := ⟨("law", none), "law", "law", defArgs sLaw, defBody sLaw, defScope sLaw, [], []⟩
def fnA : List He.DefD := [dIsSign, dSplit, dReadForms, dIsWord, dWordOf, dPartsOfForm, dIsName, dIsNumeral, dNameOf, dNumeralOf, dHeadOf, dCounted, dReadIndex, dReadPlace, dReadExpression, dReadTest, dReadBody, dReadCall, dReadStatement, dReadVariable]
def fnB : List He.DefD := [dReadProcedure, dReadDeclaration, dReadTree, dReadProgram, dLawDraws, dLawTake, dLawNumber, dLawIndex, dLawPlace, dLawExpression, dLawTest, dLawCall, dLawBody, dLawStatement, dLawTree, dLawIndexText, dLawPlaceText, dLawExpressionText, dLawTestText, dLawBodyText]
def fnC : List He.DefD := [dLawStatementText, dLawVariableText, dLawWords, dLawLine, dLawName, dLawValued, dLawFail, dLawForms, dLawWord, dLawNamed, dLawList, dLawFirst, dLawReadIndex, dLawReadPlace, dLawReadExpression, dLawReadTest, dLawReadBody, dLawReadStatement, dLawReadVariable, dLawReadProcedure, dLawRead, dLawChanged, dLawText, dLaw]
def fn : List He.DefD := fnA ++ (fnB ++ fnC)
/-! ### the facts -/
def faA : List He.Fa := [.glo "is_sign", .glo "split", .glo "read_forms", .glo "is_word", .glo "word_of", .glo "parts_of_form", .glo "is_name", .glo "is_numeral", .glo "name_of", .glo "numeral_of", .glo "head_of", .glo "counted", .glo "read_index", .glo "read_place", .glo "read_expression", .glo "read_test", .glo "read_body", .glo "read_call", .glo "read_statement", .glo "read_variable"]
def faB : List He.Fa := [.glo "read_procedure", .glo "read_declaration", .glo "read_tree", .glo "read_program", .glo "_law_draws", .glo "_law_take", .glo "_law_number", .glo "_law_index", .glo "_law_place", .glo "_law_expression", .glo "_law_test", .glo "_law_call", .glo "_law_body", .glo "_law_statement", .glo "_law_tree", .glo "_law_index_text", .glo "_law_place_text", .glo "_law_expression_text", .glo "_law_test_text", .glo "_law_body_text"]
def faD : List He.Fa := [.glo "_law_statement_text", .glo "_law_variable_text", .glo "_law_words", .glo "_law_line", .glo "_law_name", .glo "_law_valued", .glo "_law_fail", .glo "_law_forms", .glo "_law_word", .glo "_law_named", .glo "_law_list", .glo "_law_first", .glo "_law_read_index", .glo "_law_read_place", .glo "_law_read_expression", .glo "_law_read_test", .glo "_law_read_body", .glo "_law_read_statement", .glo "_law_read_variable", .glo "_law_read_procedure", .glo "_law_read", .glo "_law_changed", .glo "_law_text", .glo "law"]
def faC : List He.Fa := [.int "PRIME" 2147483647, .int "MAX_SIZE" 8, .int "MAX_INTEGER" 1000, .int "MAX_TEXT" 6000, .int "MAX_FORMS" 20, .int "MAX_NAME" 8, .int "MAX_DIGITS" 10, .str "LETTERS" "abcdefghijklmnopqrstuvwxyz", .str "DIGITS" "0123456789", .glo "CountermarchError", .glo "TextError", .glo "TreeError", .glo "RESERVED", .glo "EXPRESSIONS", .glo "INDEXES", .glo "ORDER", .glo "COUNTS", .free "len", .free "isinstance", .free "int", .free "str", .free "tuple", .free "list", .free "range", .free "enumerate", .free "all", .free "repr", .free "abs", .free "ord", .free "super", .free "ValueError", .free "bool"]
def fa : List He.Fa := faA ++ (faB ++ (faD ++ faC))
def vReserved : List He.Dv := [.str "state", .str "param", .str "procedure", .str "beat", .str "set", .str "loop", .str "if", .str "call", .str "let", .str "at", .str "add", .str "sub", .str "mul", .str "div", .str "plus", .str "minus", .str "times", .str "rem", .str "less", .str "equal", .str "zero", .str "not"]
def vExpressions : List He.Dv := [.str "add", .str "sub", .str "mul", .str "div"]
def vIndexes : List He.Dv := [.str "plus", .str "minus", .str "times"]
def vOrder : List He.Dv := [.str "state", .str "param", .str "procedure", .str "beat"]
/-- COUNTS has the tuple of these two at the key -/
def cntB (K : PySem.W.Frag) (k : Str) (lo hi : Int) : Bool := match PySem.W.nsIn K (He.ga K "COUNTS") k with
  | some (some (.ref a)) => (match K.lookup a with
    | some ⟨.type c, _, .seq its _, _⟩ => decide (c = "tuple") && (decide (its.size ≤ sizeLine) && He.relAll [.int lo, .int hi] its.toList)
    | _ => false)
  | _ => false
/-- the tuple ORDER has no own dict -/
def ordB (K : PySem.W.Frag) : Bool := match K.lookup (He.ga K "ORDER") with
  | some ⟨.type c, none, _, _⟩ => decide (c = "tuple")
  | _ => false
/-- an exception's class over ValueError: classes of the text, then ValueError's line -/
def clsB (K : PySem.W.Frag) (C : Addr) : Bool := match K.lookup C with
  | some ⟨.type "type", _, .cls cd, sl⟩ => (match cd.mro, sl.toList with
    | .ref C' :: bm, [_, _, _, _, some (.builtin n), _] => C' == C && n == "ValueError.__new__" && !cd.hasDel && (cd.hasDict && PySem.HandSPX.refsVE bm)
    | _, _ => false)
  | _ => false
/-- TextError.__init__, its closure's cell, its code object -/
def iniB (K : PySem.W.Frag) (C fI : Addr) (qn file : Str) : Bool := match K.lookup fI with
  | some ⟨_, _, .func fd, _⟩ => (match fd.closure, fd.code, fd.defaults with
    | [(x, cc)], .ref cda, .none => decide (x = "__class__") && ((match K.lookup cc with
      | some ⟨_, _, .cell (some (.ref D)), _⟩ => D == C
      | _ => false) && ((match K.lookup cda with
      | some ⟨_, _, .fields vs, _⟩ => (match vs[2]? with
        | some (Value.str f _) => decide (f = file)
        | _ => false)
      | _ => false) && PySem.W.codeIn K (.ref cda) qn))
    | _, _, _ => false)
  | _ => false
/-- its text -/
abbrev FnC : Type := Option (Str × Str × Arguments × FuncBody × Scope × Addr × Addr)
def fnI (K : PySem.W.Frag) (fI : Addr) : FnC := match K.lookup fI with
  | some ⟨_, _, .func fd, _⟩ => some (fd.name, fd.qualname, fd.params, fd.body, fd.scope, fd.globals, fd.builtins)
  | _ => none
def tC (K : PySem.W.Frag) : Addr := He.ga K "TextError"
def tI (K : PySem.W.Frag) : Addr := He.ma K (He.ga K "TextError") "__init__"
abbrev sInit : Stmt := inClass (top 2) 0
def exL (K : PySem.W.Frag) : List Bool := [He.tupB K "RESERVED" vReserved,
  He.tupB K "EXPRESSIONS" vExpressions,
  He.tupB K "INDEXES" vIndexes,
  He.tupB K "ORDER" vOrder,
  cntB K "set" 3 3,
  cntB K "loop" 3 6000,
  cntB K "if" 4 4,
  cntB K "call" 4 4,
  cntB K "let" 3 6000,
  clsB K (He.ga K "TextError"),
  decide (PySem.W.findIn K (.ref (tC K)) "__setattr__" = some (some (.builtin "object.__setattr__"))),
  decide (PySem.W.findIn K (.ref (tC K)) "__getattribute__" = some (some (.builtin "BaseException.__getattribute__"))),
  decide (PySem.W.findIn K (.ref (tC K)) "__getattr__" = some none),
  decide (PySem.W.findIn K (.ref (tC K)) "at" = some none),
  decide (PySem.W.findIn K (.ref (tC K)) "__init__" = some (some (.ref (tI K)))),
  decide (PySem.W.typeIn K (.ref (tI K)) = some (.type "function")),
  PySem.W.keepIn K (.ref (tC K)),
  decide (PySem.W.subIn K (.ref (tC K)) (.type "BaseException") = some true),
  decide (PySem.W.typeIn K (.ref (tC K)) = some (.type "type")),
  PySem.W.hasDictIn K (tC K),
  decide (PySem.W.exmOne K (.ref (tC K)) (.ref (He.ga K "CountermarchError")) = some true),
  decide (PySem.W.findIn K (.ref (tC K)) "__class__" = some (some (.builtin "object.__class__"))),
  decide (PySem.W.specialIn K (.builtin "object.__class__") "__get__" = some (some (.builtin "getset_descriptor.__get__"))),
  decide (PySem.W.takesIn K (.builtin "object.__class__") = some true),
  decide (PySem.W.mroIn K (tC K) (.type "object") = some true),
  decide (PySem.W.kitOne K (.ref (tC K)) (.ref (tC K)) = some true),
  decide (PySem.W.kitOne K (.ref (tC K)) (.type "ValueError") = some true),
  decide (PySem.W.kitOne K (.ref (tC K)) (.ref (He.ga K "TreeError")) = some false),
  iniB K (tC K) (tI K) "TextError.__init__" "/claim/cut.py",
  decide (PySem.W.mroIn K (tC K) (.ref (tC K)) = some true),
  decide (PySem.W.ks_superIn K (tC K) (tC K) "__init__" = some (some (.builtin "ValueError.__init__"))),
  decide (PySem.W.subIn K (.ref (tC K)) (.type "ValueError") = some true),
  decide (PySem.W.nsIn K cStatics "thirdparty.any" = some none),
  ordB K]
def ex (K : PySem.W.Frag) : Bool := (exL K).all id
def tabs : List He.Tab := [(fun K => He.ga K "COUNTS", ["set", "loop", "if", "call", "let"])]
/-- the text of TextError.__init__ -/
def valI : FnC := some ("__init__", "TextError.__init__", defArgs sInit, .stmts (defBody sInit), defScope sInit, mainGlobals, builtinsNs)
/-- what the head tells of the written part -/
structure Says (w : World) (K : PySem.W.Frag) : Prop where
  t : He.SaysT fa fn tabs w K
  more : ex K = true
  ini : fnI K (tI K) = valI
end K10
/-! K10Head: the head's hook, the run of the top. Printed by genhead.py. -/
namespace K10
open PySem PySem.Spec PyProof.Rows L2
/-! ### the run -/
abbrev R : PySem.W.OpenRow := PySem.W.OpenLaw.row PySem.Challenge.rw_countermarch_k10_whole_any_text_is_judge
/-- the part of the heap that is told: what the module's names reach, and the statics -/
def asK (g : Addr → Option Obj) : List Addr := cStatics :: He.asD g 4
def frK (g : Addr → Option Obj) : PySem.W.Frag := He.frG g (asK g)
abbrev AlK : Type := He.AlT × Bool × FnC
def obsK (g : Addr → Option Obj) : AlK := (He.obsT fa fn tabs (frK g), ex (frK g), fnI (frK g) (tI (frK g)))
def hk : PySem.W.Hook where
  α := AlK
  obs := fun s => obsK s.heap.get?
  val := fun w => (He.valT fn tabs w, true, valI)
  says := fun w h => ∃ K : PySem.W.Frag, K.In h ∧ Says w K
  of := fun _ _ e => ⟨_, He.frG_in, ⟨congrArg (fun z : AlK => z.1) e, congrArg (fun z : AlK => z.2.1) e, congrArg (fun z : AlK => z.2.2) e⟩⟩
  keeps := fun _ _ _ ⟨K, hK, c⟩ k => ⟨K, PySem.W.Frag.In.keeps hK k, c⟩
def ob (s : PySem.W.SharedT) : AlK := obsK (HandSHeadRun.getT s)
theorem ob_eq (s : PySem.W.SharedT) : ob s = hk.obs s.abs := by
  have e : HandSHeadRun.getT s = s.abs.heap.get? := funext (HandSHeadRun.getT_eq s)
  show obsK (HandSHeadRun.getT s) = obsK s.abs.heap.get?
  rw [e]
def names0 : List Str := ["CountermarchError", "TextError", "TreeError", "PRIME", "MAX_SIZE", "MAX_INTEGER", "MAX_TEXT", "MAX_FORMS", "is_sign", "split", "read_forms", "is_word", "word_of", "parts_of_form", "RESERVED", "LETTERS", "DIGITS", "MAX_NAME", "MAX_DIGITS", "is_name"]
def names1 : List Str := ["is_numeral", "EXPRESSIONS", "INDEXES", "ORDER", "COUNTS", "name_of", "numeral_of", "head_of", "counted", "read_index", "read_place", "read_expression", "read_test", "read_body", "read_call", "read_statement", "read_variable", "read_procedure", "read_declaration", "read_tree"]
def names2 : List Str := ["read_program", "_law_draws", "_law_take", "_law_number", "_law_index", "_law_place", "_law_expression", "_law_test", "_law_call", "_law_body", "_law_statement", "_law_tree", "_law_index_text", "_law_place_text", "_law_expression_text", "_law_test_text", "_law_body_text", "_law_statement_text", "_law_variable_text", "_law_words"]
def names3 : List Str := ["_law_line", "_law_name", "_law_valued", "_law_fail", "_law_forms", "_law_word", "_law_named", "_law_list", "_law_first", "_law_read_index", "_law_read_place", "_law_read_expression", "_law_read_test", "_law_read_body", "_law_read_statement", "_law_read_variable", "_law_read_procedure", "_law_read", "_law_changed", "_law_text"]
def names : List Str := names0 ++ names1 ++ names2 ++ names3
theorem run0 (w : World) : HandSHeadRun.RunEq R (PySem.W.view R.prog [86]) hk ob 6000 names (w.withFollow "special-get-raises" false) := by
  intro os
  kernel_rfl
theorem run1 (w : World) : HandSHeadRun.RunEq R (PySem.W.view R.prog [86]) hk ob 6000 names (w.withFollow "special-get-raises" true) := by
  intro os
  kernel_rfl
theorem run (w : World) : HandSHeadRun.RunEq R (PySem.W.view R.prog [86]) hk ob 6000 names w := PySem.W.byRow2 "special-get-raises" run0 run1 w
end K10
set_option maxHeartbeats 4000000
/-! K10Text: raise TextError(at): the class of the text over a class of the text over ValueError, its __init__ says super().__init__(..). After the worked text 42 (its steps low_init, low_made, pmk_low turned). -/
namespace PySem
namespace TxX
open PySem.W PySem.Calls PyProof.Rows PySem.HandSPX
/-- what the written part says of TextError, at C, and of its __init__, at fI -/
structure TxtT (K : Frag) (mg : Str → Option Value) (C fI : Addr) : Prop where
  gC : mg "TextError" = some (.ref C)
  cls : ∃ nm q N bs bm sn sub ab col dd k0 k1 k2 k3 k5, K.lookup C = some (excClassObj nm q C N bs bm true sn sub ab col dd k0 k1 k2 k3 k5 "ValueError.__new__") ∧ refsVE bm = true
  sa : findIn K (.ref C) "__setattr__" = some (some (.builtin "object.__setattr__"))
  ga : findIn K (.ref C) "__getattribute__" = some (some (.builtin "BaseException.__getattribute__"))
  gg : findIn K (.ref C) "__getattr__" = some none
  noN : findIn K (.ref C) "at" = some none
  iC : findIn K (.ref C) "__init__" = some (some (.ref fI))
  tC : typeIn K (.ref fI) = some (.type "function")
  kC : keepIn K (.ref C) = true
  exC : subIn K (.ref C) (.type "BaseException") = some true
  tyC : typeIn K (.ref C) = some (.type "type")
  hdC : hasDictIn K C = true
  fn : ∃ (oc : Value) (od : Option Addr) (kV doc pm : Value) (an : Option Addr) (ct : Value) (osl : Array (Option Value)) (cc cda : Addr) (ccl : Value) (cdd : Option Addr) (vs : Array Value) (ccs : Array (Option Value)) (tf : Tok) (cl : Value) (cld : Option Addr) (csl : Array (Option Value)),
    K.lookup fI = some ⟨oc, od, .func (fnX "__init__" "TextError.__init__" (L2.defArgs K10.sInit) (L2.defBody K10.sInit) (L2.defScope K10.sInit) [("__class__", cc)] .none kV doc pm an (.ref cda) ct), osl⟩ ∧
    codeIn K (.ref cda) "TextError.__init__" = true ∧ K.lookup cda = some ⟨ccl, cdd, .fields vs, ccs⟩ ∧ vs[2]? = some (.str "/claim/cut.py" tf) ∧ K.lookup cc = some ⟨cl, cld, .cell (some (.ref C)), csl⟩
  sup : ks_superIn K C C "__init__" = some (some (.builtin "ValueError.__init__"))
  subVE : subIn K (.ref C) (.type "ValueError") = some true
  mroC : mroIn K C (.ref C) = some true
  opq : nsIn K cStatics "thirdparty.any" = some none
  gs : mg "super" = none
theorem one_size (v : Value) : [v].length ≤ sizeLine := by
  rw [sizeLine_eq]
  exact (by decide : 1 ≤ 16777216)
/-- what __init__ leaves of a fresh exception at x -/
structure InitEnd (h h' : Heap) (x C dx t1 : Addr) (v : Value) : Prop where
  keep : ∀ b o, b ≠ x → h.get? b = some o → h'.get? b = some o
  obj : h'.get? x = some { cls := .ref C, dict := some dx, data := .fields #[.ref t1, .none, .none, .none, .bool false, .none] }
  dbig : h.objs.size ≤ dx
  dne : dx ≠ x
  ns : h'.Ns1 dx (fun y => if y = "at" then some v else none)
/-- a made TextError -/
structure OwnMade (h h' : Heap) (e C d : Addr) (v : Value) : Prop where
  keep : ∀ b o, h.get? b = some o → h'.get? b = some o
  new : h.objs.size ≤ e
  obj : ∃ oe vs, h'.get? e = some oe ∧ oe.cls = .ref C ∧ oe.dict = some d ∧ oe.data = .fields vs ∧ vs[1]? = some .none
  dbig : h.objs.size ≤ d
  dne : d ≠ e
  ns : h'.Ns1 d (fun y => if y = "at" then some v else none)
section
variable {M : Model} {A : Around} {E : Value → Shared → Prop} {h : Heap} {g : Array GenState} {d : Drawn} {t : Nat} {os : OsState}
variable {nm q : Str} {C N : Addr} {bs bm bmB : List Value} {hdct : Bool} {sn : List Str} {sub : List Value} {ab : Bool} {col : Option Bool} {dd : Option Addr} {k0 k1 k2 k3 k5 : Option Value}
/-- super().__init__(..) called: the args are laid anew -/
theorem call_mw {prog : Program} {w : World} {u e t0 : Addr} {rest : List Value} {Q : Value → Shared → Prop}
    (hC : h.get? C = some (excClassObj nm q C N bs bm hdct sn sub ab col dd k0 k1 k2 k3 k5 "ValueError.__new__")) (he : h.get? e = some (excO C t0)) (hu : h.get? u = some (kxs_mw "ValueError.__init__" e)) (hrest : rest.length ≤ sizeLine)
    (hq : ∀ h' t1, (∀ b o, b ≠ e → h.get? b = some o → h'.get? b = some o) → h'.get? e = some (excO C t1) → Q .none ⟨h', g, d, t, os⟩) :
    wpAny (model prog w) A (call (.ref u) rest) Q E ⟨h, g, d, t, os⟩ := by
  refine wpAny_call (codeAny_of_tree ?_)
  show wpAny _ A.in1 (callAny (.ref u) ⟨rest, []⟩) _ _ _
  simp only [callAny]
  refine wpAny_bind (wpAny_load hu ?_)
  simp only [kxs_mw, show (Value.type "method-wrapper" == Value.type "method" || Value.type "method-wrapper" == Value.type "builtin_function_or_method" || Value.type "method-wrapper" == Value.type "method-wrapper") = true by decide, if_true]
  refine W.KFB.if_so (by decide) ?_
  refine wpAny_bind (check_bound_init F.excBase_ValueError.toExcCallFacts hC he rfl ?_)
  refine wpAny_bind (wpAny_pure (wpAny_pure ?_))
  refine ⟨Code.quiet_builtin _ (by decide +kernel), codeAny_builtin F.excBase_ValueError.initEntry ?_⟩
  rw [Around.under_plainId F.excBase_ValueError.init.plain _]
  wp_walk
  refine hq _ h.objs.size (fun b o hb ho => ?_) ?_
  · rw [Heap.get?_update_other _ _ (Ne.symm hb)]
    exact Heap.get?_push_of_some _ ho
  · rw [Heap.get?_update_self _ (Heap.get?_push_of_some _ he) rfl]
    rfl
end
theorem callWith_mw {M : Model} {A : Around} {E : Value → Shared → Prop} {s : Shared} {i : String} {u x : Addr} {pos : Pos} {env : Env} {e : Expr} {Q : Value → Shared → Prop}
    (h : wpAny M A (eval e env) (fun v s₁ => s₁.heap.get? u = some (kxs_mw i x) ∧ wpAny M A (call (.ref u) [v]) Q E s₁) E s) (he : starEach [e] env = [(false, eval e env)] := by rfl) :
    wpAny M A (callWith pos (.ref u) [] (backTo pos (starEach [e] env)) []) Q E s := by
  rw [he]
  refine kxs_callWith (i := i) (x := x) rfl (evalArgs_plain ?_)
  show wpAny _ _ (spliced ((false, eval e env) :: [])) _ _ _
  exact Calls.spliced_cons (wpAny_mono h (fun v s1 h1 => Calls.spliced_nil h1) fun _ _ z => z)
section
variable {prog : Program} {w : World} {A : Around} {E : Value → Shared → Prop} {R : Result → Shared → Prop} {s : Shared} {K : Frag} {mg : Str → Option Value} {C fI : Addr}
theorem text_init (T : TxtT K mg C fI) {x t0 : Addr} {v : Value} (hfile : ((prog.main.file : Str) == ("/claim/cut.py" : Str)) = true) (htop : (prog.main.scope.names.lookup ("super" : Str)).isSome = false) (X : K.In s.heap) (hlim : s.heap.NoLimit) (hG : s.heap.Ns mainGlobals mg) (hB : ∃ mb, s.heap.Ns builtinsNs mb ∧ ∀ x : Str, x ≠ "__name__" → mb x = bootBuiltins x)
    (hx : s.heap.get? x = some (excO C t0)) (hnx : K.lookup x = none) (hroom : A.depth < recursionLimit)
    (hq : ∀ h' tk dx t1, InitEnd s.heap h' x C dx t1 v → R (.ok (.ret .none)) { s with heap := h', toks := tk }) :
    codeAny (model prog w) A (.call (.ref fI) ⟨[.ref x, v], []⟩) R s := by
  obtain ⟨oc, od, kV, doc, pm, an, ct, osl, cc, cda, ccl, cdd, vs, ccs, tf, cl, cld, csl, ho, hcd, hcda, hvs, hcc⟩ := T.fn
  obtain ⟨nm, q, N, bs, bm, sn, sub, ab, col, dd, k0, k1, k2, k3, k5, hC, hbm⟩ := T.cls
  obtain ⟨mb, hb1, hb2⟩ := hB
  have hcl : clsIn K C = some { name := nm, bases := bs, mro := .ref C :: bm, ns := N, qualname := q, hasDict := true, slotNames := sn, subclasses := sub, abstract := ab, collection := col, hasDel := false } := by unfold clsIn; rw [hC] <;> rfl
  refine ks_codeAny_call_defAt (fd := fnX "__init__" "TextError.__init__" (L2.defArgs K10.sInit) (L2.defBody K10.sInit) (L2.defScope K10.sInit) [("__class__", cc)] .none kV doc pm an (.ref cda) ct) (body := L2.defBody K10.sInit) (binds := [("self", .ref x), ("at", v)]) hroom (X _ _ ho) rfl hlim (codeRec_of X hcd) rfl (BindsTo.of_eq (by first | rfl | with_unfolding_all rfl)) (show ∀ y ∈ (L2.defScope K10.sInit).names, y.2 ≠ .cell by decide +kernel) (fun y hy => by
    rcases List.mem_cons.mp hy with rfl | hy
    · exact (show (L2.defScope K10.sInit).names.lookup ("self" : PySem.Str) = some NameKind.local by decide +kernel)
    · rcases List.mem_cons.mp hy with rfl | hy
      · exact (show (L2.defScope K10.sInit).names.lookup ("at" : PySem.Str) = some NameKind.local by decide +kernel)
      · cases hy) (fun h1 hns k1' => ?_)
  have X1 : K.In h1 := X.keeps k1'
  have hx1 := k1' _ _ hx
  have hxC : x ≠ C := fun z => by
    have y := X _ _ hC
    rw [← z, hx] at y
    cases y
  -- super()
  refine ks_wpAt_execs_cons (ks_wpAt_Expr_any (ks_wpAt_MethodCall ?_))
  have I0 : InstAt h1 x (excO C t0) C none := ⟨hx1, rfl, rfl, trivial⟩
  refine ks_wpAt_super_base (prog := prog) (f := fI) (cc := cda) rfl rfl (by decide) rfl (X1 _ _ ho) rfl rfl rfl (X1 _ _ hcda) rfl hvs hfile htop ?_
  refine ks_loadName_global rfl rfl (loadGlobal_builtin (hG.keeps k1') T.gs (hb1.keeps k1') ((hb2 _ (by decide +kernel)).trans (by first | rfl | decide +kernel)) ⟨rfl, ?_⟩)
  refine wpAny_loadName_free (c := cc) rfl rfl rfl ⟨_, X1 _ _ hcc, rfl⟩ ?_
  refine wpAny_loadName_local (v := .ref x) rfl rfl hns (by first | rfl | decide +kernel | with_unfolding_all rfl) ?_
  have hCd : ∃ cd, (excClassObj nm q C N bs bm true sn sub ab col dd k0 k1 k2 k3 k5 "ValueError.__new__").data = .cls cd := ⟨_, rfl⟩
  obtain ⟨cdC, hCd⟩ := hCd
  refine ks_wpAny_isType_cls (X1 _ _ hC) hCd ⟨rfl, ?_⟩
  refine ks_wpAny_call_super (D := C) (x := x) (C := C) (X1 _ _ hC) hCd hx1 rfl (fun c z => by cases z) (looks_mroIn X1 T.mroC) (fun h2 hso k2' => ?_)
  have X2 : K.In h2 := X1.keeps k2'
  have I2 : InstAt h2 x (excO C t0) C none := ⟨k2' _ _ hx1, rfl, rfl, trivial⟩
  -- .__init__
  have hm := T.sup
  unfold ks_superIn at hm
  rw [hcl, Option.bind_some] at hm
  refine kxs_getMethod kxs_ValueError (D := C) (l₀ := .ref C :: bm) hso (looks_opaque X2 T.opq) ?_ rfl X2 hm (I2.type.andThen (looks_subIn X2 T.subVE)) hxC (by decide) ?_
  · exact fun A Q E s k q => wpAny_bind ((looks_clsIn X2 hcl) A _ E s k (wpAny_pure q))
  have hu : (h2.push (kxs_mw "ValueError.__init__" x)).get? h2.objs.size = some (kxs_mw "ValueError.__init__" x) := Heap.get?_push_size _ rfl
  have k3' : ∀ b o, h2.get? b = some o → (h2.push (kxs_mw "ValueError.__init__" x)).get? b = some o := fun b o e => Heap.get?_push_of_some _ e
  generalize hh3 : h2.push (kxs_mw "ValueError.__init__" x) = h3 at hu k3' ⊢
  have X3 : K.In h3 := X2.keeps k3'
  refine callWith_mw (i := "ValueError.__init__") (x := x) (Calls.Constant_str ⟨hu, ?_⟩)
  refine call_mw (X3 _ _ hC) (k3' _ _ (k2' _ _ hx1)) hu (one_size _) (fun h4 t1 k4 hx4 => ?_)
  have k14 : ∀ b o, b ≠ x → h1.get? b = some o → h4.get? b = some o := fun b o hb e => k4 b o hb (k3' _ _ (k2' _ _ e))
  have X4 : K.In h4 := fun a o e => k14 a o (fun z => by rw [z, hnx] at e; cases e) (X1 _ _ e)
  have hx4' : h4.get? x = some { cls := .ref C, data := .fields #[.ref t1, .none, .none, .none, .bool false, .none] } := hx4
  -- self.at = at
  refine ks_wpAt_execs_cons (ks_wpAt_Assign_Attr ?_)
  have sz1 : s.heap.objs.size < h1.objs.size := hns.lt
  have neL : s.heap.objs.size ≠ x := Nat.ne_of_gt (Heap.lt_size hx)
  have hns4 : h4.Ns s.heap.objs.size (fun y => List.lookup y [(Str.ofString "self", Value.ref x), (Str.ofString "at", v)].reverse) := hns.at fun o e => k14 _ o neL e
  refine wpAt_of_wpAny (wpAny_Name (wpAny_loadName_local (v := v) rfl rfl hns4 (by first | rfl | decide +kernel | with_unfolding_all rfl) ?_) (by decide))
  refine wpAny_Name (wpAny_loadName_local (v := .ref x) rfl rfl hns4 (by first | rfl | decide +kernel | with_unfolding_all rfl) ?_) (by decide)
  refine set_plain X4 (ox := { cls := .ref C, data := .fields #[.ref t1, .none, .none, .none, .bool false, .none] }) (od := none) ⟨hx4', rfl, rfl, trivial⟩ T.sa ?_
  refine exc_osa X4 hx4' hcl (show refsVE (.ref C :: bm) = true from hbm) rfl T.noN (fun h5 tk5 dx k5' dn dne hx5 hn5 => ?_)
  refine wpAt_of_wpAny (wpAny_execs_nil ?_)
  exact hq h5 tk5 dx t1 ⟨fun b o hb e => k5' b o hb (k14 b o hb (k1' b o e)), hx5, Nat.le_of_lt (Nat.lt_of_lt_of_le hns4.lt dn), dne, hn5⟩
theorem text_made (T : TxtT K mg C fI) {v : Value} (hfile : ((prog.main.file : Str) == ("/claim/cut.py" : Str)) = true) (htop : (prog.main.scope.names.lookup ("super" : Str)).isSome = false) (X : K.In s.heap) (hlim : s.heap.NoLimit) (hG : s.heap.Ns mainGlobals mg) (hB : ∃ mb, s.heap.Ns builtinsNs mb ∧ ∀ x : Str, x ≠ "__name__" → mb x = bootBuiltins x)
    (hroom : A.depth + 1 < recursionLimit)
    (hq : ∀ h' tk e d, OwnMade s.heap h' e C d v → R (.ok (.ret (.ref e))) { s with heap := h', toks := tk }) :
    codeAny (model prog w) A (.call (.ref C) ⟨[v], []⟩) R s := by
  obtain ⟨nm, q, N, bs, bm, sn, sub, ab, col, dd, k0, k1, k2, k3, k5, hC, hbm⟩ := T.cls
  obtain ⟨mb, hb1, hb2⟩ := hB
  obtain ⟨hp, g, dr, tk, os⟩ := s
  have k : ∀ b o, hp.get? b = some o → ((hp.push (kdv_tup [v])).push (excO C hp.objs.size)).get? b = some o := fun b o e => Heap.get?_push_of_some _ (Heap.get?_push_of_some _ e)
  have hget : ((hp.push (kdv_tup [v])).push (excO C hp.objs.size)).get? (hp.objs.size + 1) = some (excO C hp.objs.size) := by heap_get
  have hnx : K.lookup (hp.objs.size + 1) = none := by
    cases e : K.lookup (hp.objs.size + 1) with
    | none => rfl
    | some o =>
      have z : hp.get? (hp.objs.size + 1) = some o := X _ _ e
      exact absurd (Nat.lt_of_succ_lt (Heap.lt_size z)) (Nat.lt_irrefl _)
  refine call_own F.excBase_ValueError (fun X => refsVE_contains X bm hbm) (X _ _ hC) (looks_findIn X T.iC) (fun self => bind_fn X self T.tC) (one_size v) ?_
  refine text_init (s := ⟨(hp.push (kdv_tup [v])).push (excO C hp.objs.size), g, dr, tk, os⟩) T hfile htop (X.keeps k) (hlim.keeps k) (hG.keeps k) ⟨mb, hb1.keeps k, hb2⟩ hget hnx ?_ fun h' tk' dx t1 ⟨k', hx, dn, dne, hns⟩ => ?_
  · show A.depth + 1 < recursionLimit
    exact hroom
  · have old : ∀ b o, hp.get? b = some o → h'.get? b = some o := fun b o e => k' b o (Nat.ne_of_lt (Nat.lt_succ_of_lt (Heap.lt_size e))) (k b o e)
    have z : hp.objs.size + 1 + 1 ≤ dx := by
      first
        | (simpa only [Heap.size_push] using dn)
        | exact dn
        | (have q := dn; rw [Heap.size_push, Heap.size_push] at q; exact q)
    exact ⟨rfl, hq h' tk' (hp.objs.size + 1) dx ⟨old, Nat.le_succ _, ⟨_, _, hx, rfl, rfl, rfl, rfl⟩, Nat.le_trans (Nat.le_trans (Nat.le_succ _) (Nat.le_succ _)) z, dne, hns⟩⟩
end
end TxX
end PySem
namespace K10
open PySem PySem.Spec PyProof.Rows L2
theorem relO_at {v : V} {v' : Value} (r : RelV v v') (f : Str) : RelO (List.lookup f [(("at" : Str), v)]) (if f = "at" then some v' else none) := by
  by_cases hw : f = "at"
  · subst hw
    rw [if_pos rfl]
    have q : List.lookup ("at" : Str) [(("at" : Str), v)] = some v := by simp [List.lookup]
    rw [q]
    exact r
  · rw [if_neg hw]
    have qw : (f == ("at" : Str)) = false := by simpa using hw
    have q2 : List.lookup f [(("at" : Str), v)] = none := by simp [List.lookup, qw]
    rw [q2]
    trivial
/-- what the program's own text says -/
structure ProgT (P : Program) : Prop where
  file : ((P.main.file : Str) == ("/claim/cut.py" : Str)) = true
  top : (P.main.scope.names.lookup ("super" : Str)).isSome = false
section
variable {X : Cx} {C fI : Addr}
/-- TextError(e) -/
def tMkText (C : Addr) (ta : TA) : L2.St → Hp → XK → Prop := fun σ H Q => ta σ H fun vs H1 => ∃ v, vs = [v] ∧ ∀ d, H1 d = none → Q (.ref C) (some d) (upd H1 d (.xd [(("at" : Str), v)]))
theorem pmk_text {a : Expr} {ta : TA} {p pos : Pos} {k : Nat} (PT : ProgT X.prog) (T : PySem.TxX.TxtT X.K X.mg C fI) (hr : Room k X.A) (ha : PA X [a] ta) (hg : Gl X "TextError" := by rfl)
    (he : starEach (a :: []) X.env = (false, eval a X.env) :: starEach [] X.env := by rfl) (hpl : (backTo pos (starEach [] X.env)).any (·.1) = false := by rfl) :
    PMk X (.Call (.Name "TextError" p) [a] [] pos) (tMkText C ta) := by
  intro pins s σ H Q I h
  refine wpAny_Call_Name_kw (ld_glob I hg T.gC ?_)
  refine PySem.W.callWith_K (h₀ := X.base) I.ok.mod.kin T.kC (thn (ha.run pos pins s σ H _ I h) fun us s1 hh => ?_) he hpl
  obtain ⟨vs, H1, I1, r1, v, ev, q1⟩ := hh
  subst ev
  refine ⟨I1.kIn, ?_⟩
  cases r1 with
  | cons rv rn =>
    rename_i v' us'
    cases rn
    show wpAny _ _ (call (.ref C) [v']) _ _ _
    have hlim := I1.nolimit
    have hG := I1.mod.glob.keeps I1.bk
    have hB : ∃ mb, s1.heap.Ns builtinsNs mb ∧ ∀ x : Str, x ≠ "__name__" → mb x = bootBuiltins x := by
      obtain ⟨mb, b1, b2⟩ := I1.mod.blt
      exact ⟨mb, b1.keeps I1.bk, b2⟩
    obtain ⟨hp, g, dr, tk, os⟩ := s1
    refine wpAny_call (PySem.TxX.text_made T PT.file PT.top I1.kIn hlim hG hB (by have := hr.dp; omega) fun h' tk' e d M => ?_)
    show MkP X pins σ Q (.ref e) ⟨h', g, dr, tk', os⟩
    obtain ⟨oe, fv, hoe, hc, hd, hdat, h1⟩ := M.obj
    have hns := M.ns
    obtain ⟨G', g1, g2⟩ := restrict h' fun b => decide (b ≠ e)
    have gk : ∀ b, b ≠ e → G'.get? b = h'.get? b := fun b hb => g1 b (decide_eq_true hb)
    have ge : G'.get? e = none := g2 e (by simp)
    have old : ∀ b o, hp.get? b = some o → G'.get? b = some o := fun b o q => (gk b (Nat.ne_of_lt (Nat.lt_of_lt_of_le (Heap.lt_size q) M.new))).trans (M.keep b o q)
    have ob : ObjOk X.prog X.w (upd H1 d (.xd [(("at" : Str), v)])) G' d (.xd [(("at" : Str), v)]) :=
      ⟨_, hns.at (fun o q => (gk d M.dne).trans q), fun f => relO_at rv f⟩
    have J : Inv X pins σ (upd H1 d (.xd [(("at" : Str), v)])) ⟨G', g, dr, tk', os⟩ := I1.laid (t' := tk') old M.dbig ob
    refine ⟨e, oe, fv, ⟨G', g, dr, tk', os⟩, _, .ref C, some d, rfl, J, fun b o q => ?_, ge, hoe, ⟨hc, hd⟩, hdat, h1, ?_, rfl, I1.bare, raises_own T.exC T.tyC, q1 d (I1.hok.fresh M.dbig)⟩
    · by_cases hb : b = e
      · have q' : G'.get? b = some o := q
        rw [hb, ge] at q'; cases q'
      · exact (gk b hb).symm.trans q
    · rw [upd_ne (Ne.symm M.dne)]
      exact I1.hok.fresh M.new
/-- raise TextError(e) -/
def tRaiseT (C : Addr) (W : WX) (ta : TA) : TS := fun _ σ H => tMkText C ta σ H fun cls d H' => W cls d σ H'
theorem ps_raiseT {a : Expr} {ta : TA} {W : WX} {p pos pos2 : Pos} {k : Nat} (hc : X.calm = true) (PT : ProgT X.prog) (T : PySem.TxX.TxtT X.K X.mg C fI) (hr : Room k X.A) (tk : Takes X W) (ha : PA X [a] ta) (hg : Gl X "TextError" := by rfl)
    (he : starEach (a :: []) X.env = (false, eval a X.env) :: starEach [] X.env := by rfl) (hpl : (backTo pos (starEach [] X.env)).any (·.1) = false := by rfl) :
    PS X (.Raise (some (.Call (.Name "TextError" p) [a] [] pos)) none pos2) (tRaiseT C W ta) := ps_raise hc tk (pmk_text PT T hr ha hg he hpl)
end
end K10
/-! K10Comp: a list comprehension whose element may raise (out of a call). -/
namespace K10
open PySem PySem.Spec PyProof.Rows L2

/-- the wish of a block: what a raise owes there -/
abbrev blkE (X : Cx) (ce : Env) : Value → Shared → Prop := fun e s' => notedBy (model X.prog X.w) X.A ce (CompFails (model X.prog X.w) X.A X.xe ce) e s'
abbrev blkX (X : Cx) (s : Shared) (H : Hp) (scope : Scope) (ce : Env) (fp : List Addr) : Cx := (X.blk s H scope ce fp).wish (blkE X ce)

section
variable {X : Cx} {pins : List (Addr × Obj)} {σ : L2.St} {H H3 : Hp} {s s3 : Shared} {W : WX} {E : XK} {scope : Scope} {ce : Env} {fp : List Addr}

theorem frames_off {B h h' : Heap} {C : Addr} (hB : B.get? C ≠ none) (k : ∀ b, b ≠ C → h'.get? b = h.get? b) : ∀ {l : List Env}, h.FunFrames B l → h'.FunFrames (PySem.W.hideAll B [C]) l
  | [], _ => trivial
  | env :: l, x => by
    obtain ⟨hk, ⟨L, o, hf, hn, ho, hd⟩, hr⟩ := x
    have hL : L ≠ C := fun z => hB (by rw [← z]; exact hn)
    refine ⟨hk, ⟨L, o, hf, ?_, by rw [k L hL]; exact ho, hd⟩, frames_off hB k hr⟩
    cases q : (PySem.W.hideAll B [C]).get? L with
    | none => rfl
    | some o' =>
      have z := PySem.W.of_hideAll _ q
      rw [hn] at z
      cases z
theorem hid1_get {B : Heap} {C b : Addr} {o : Obj} (e : B.get? b = some o) (n : b ≠ C) : (PySem.W.hideAll B [C]).get? b = some o := PySem.W.hideAll_get _ e (by simpa using n)
theorem hid1_of {B : Heap} {C b : Addr} {o : Obj} (e : (PySem.W.hideAll B [C]).get? b = some o) : B.get? b = some o ∧ b ≠ C := by
  refine ⟨PySem.W.of_hideAll _ e, fun z => ?_⟩
  rw [PySem.W.hideAll_none [C] (by simp [z])] at e
  cases e

/-- an exception out of a call in a block, seen from the def: its air -/
theorem blk_passes (hs : X.stack = X.env :: X.outer) (hf : X.env.frame = some X.env.locals) (tk : Takes X W) (hW : ∀ cls d H, E cls d H → W cls d σ H) (I3 : Inv X pins σ H3 s3) (f3 : ∀ b ∈ fp, FpOk X pins H3 b)
    (cL : ce.locals = s3.heap.objs.size) (cf : ce.frame = X.env.frame) : Passes (L2.CX X.prog X.w) (blkX X s3 H3 scope ce fp) E := by
  intro pb σb Hb sb u s' Ib c
  obtain ⟨a, B, H2, cls, d, rfl, fl, hok, ub, na, os, ag, hE⟩ := c
  have hfr : X.A.frames = some (X.env :: X.outer) := by rw [I3.ok.frames, hs]
  have fl : HandSPX.FlyingZ B (X.env :: X.outer) a (Zc cls d) s'.heap := by rw [← hs]; exact fl
  have ub : UB (frs X.stack) Hb H2 sb.heap B s'.heap := ub
  -- the block's names
  obtain ⟨m, hn, _⟩ := Ib.loc
  have hn : sb.heap.Ns ce.locals m := hn
  have fC : Hb ce.locals = none := Ib.free
  obtain ⟨oC, esC, epC, hoC, hrC⟩ := id hn
  have nC : ce.locals ∉ frs X.stack := fun hb => by
    obtain ⟨_, o, ho, _⟩ := I3.stack.mem hb
    rw [cL] at ho
    exact absurd (Heap.lt_size ho) (Nat.lt_irrefl _)
  have BC : B.get? ce.locals = some oC := ub.keep _ _ hoC fC nC
  have H2C : H2 ce.locals = none := ub.free _ _ hoC fC
  show wpAny (model X.prog X.w) X.A (noteFrame (.ref a) ce) _ _ _
  rw [noteFrame_env _ cf]
  refine HandSPX.looks_onZ Zc.steady hfr hf fl (fun h1 hh1 up1 => ?_)
  obtain ⟨st1, nB, ff1, oe, vs, T, oT, ts, he, hz, hd, h1', hnT, hTe, hT, hdT, h3⟩ := hh1
  have n1 : h1.Ns ce.locals m := ⟨oC, esC, epC, st1 _ _ BC, hrC⟩
  refine ⟨m, n1, fun h2 m2 hn2 sb2 => ?_⟩
  -- the block is let go: its names change
  have k2 : ∀ b, b ≠ ce.locals → h2.get? b = h1.get? b := fun b hb => sb2.2 b hb
  have aC : a ≠ ce.locals := fun z => by rw [z, BC] at nB; cases nB
  have TC : T ≠ ce.locals := fun z => by rw [z, BC] at hnT; cases hnT
  have hide0 : ∀ {b : Addr}, B.get? b = none → (PySem.W.hideAll B [ce.locals]).get? b = none := fun {b} z => by
    cases q : (PySem.W.hideAll B [ce.locals]).get? b with
    | none => rfl
    | some o => rw [(hid1_of q).1] at z; cases z
  have hh2 : HandSPX.HeldZ (PySem.W.hideAll B [ce.locals]) (X.env :: X.outer) a (Zc cls d) X.env.locals h2 := by
    refine ⟨fun b o e => ?_, hide0 nB, frames_off (by rw [BC]; exact fun z => nomatch z) k2 ff1, oe, vs, T, oT, ts, by rw [k2 a aC]; exact he, hz, hd, h1', hide0 hnT, hTe, by rw [k2 T TC]; exact hT, hdT, h3⟩
    obtain ⟨e1, e2⟩ := hid1_of e
    rw [k2 b e2]
    exact st1 b o e1
  unfold PySem.passOn
  refine wpAny_bind (wpAny_field (show ({ s' with heap := h2 } : Shared).heap.get? a = some oe by rw [k2 a aC]; exact he) hd h1' ?_)
  rw [if_neg (show ¬ ((Value.ref T == Value.none) = true) from by simp)]
  rw [cf, hf]
  have fin : wpAny (model X.prog X.w) X.A (setFlight (.ref a) (some X.env.locals)) (fun _ s4 => wpAny (model X.prog X.w) X.A (throw (.ref a) : Sem Value) (fun _ _ => False) X.xe s4) X.xe { s' with heap := h2 } := by
    refine HandSPX.setFlight_onZ hh2 fun h5 hh5 up5 => wpAny_throw (tk _ _ ?_)
    have st5 : (PySem.W.hideAll B [ce.locals]).StaysIn h5 := hh5.1
    obtain ⟨G, g1, g2⟩ := restrict h5 fun b => ((PySem.W.hideAll B [ce.locals]).get? b).isSome || decide (b ∈ frs X.stack)
    have gB : ∀ {b o}, B.get? b = some o → b ≠ ce.locals → G.get? b = some o := fun {b o} e n => by
      have z := hid1_get e n
      rw [g1 b (by simp [z])]
      exact st5 b o z
    have gF : ∀ {b}, b ∈ frs X.stack → G.get? b = h5.get? b := fun {b} hb => g1 b (by simp [hb])
    have og : ∀ {b o}, G.get? b = some o → h5.get? b = some o ∧ (((PySem.W.hideAll B [ce.locals]).get? b).isSome = true ∨ b ∈ frs X.stack) := fun {b o} e => by
      cases q : (((PySem.W.hideAll B [ce.locals]).get? b).isSome || decide (b ∈ frs X.stack)) with
      | false => rw [g2 b q] at e; cases e
      | true =>
        rw [g1 b q] at e
        exact ⟨e, by simpa [Bool.or_eq_true] using q⟩
    have bl : ∀ {b o}, s3.heap.get? b = some o → b ≠ ce.locals := fun {b o} e => by rw [cL]; exact Nat.ne_of_lt (Heap.lt_size e)
    have up15 : ∀ {b o}, b ≠ ce.locals → s'.heap.get? b = some o → (∀ vs, o.data ≠ .fields vs) → ∃ sl, h5.get? b = some { o with slots := sl } := fun {b o} hb e hnf => by
      obtain ⟨sl, e1⟩ := up1 b o e hnf
      rw [← k2 b hb] at e1
      obtain ⟨sl2, e2⟩ := up5 b _ e1 hnf
      exact ⟨sl2, e2⟩
    have base : Un (frs X.stack) fp H3 Hb s3.heap sb.heap := Ib.base
    have U : Un (frs X.stack) fp H3 H2 s3.heap G := {
      keep := fun b o e n hb hx => gB (ub.keep b o (base.keep b o e n hb hx) (base.free b o e n hx) hb) (bl e)
      slot := fun b o e n hb hx => by
        obtain ⟨sl, e1⟩ := base.slot b o e n hb hx
        obtain ⟨sl2, e2⟩ := ub.slot b _ e1 hb
        obtain ⟨_, o', e', hnf⟩ := I3.stack.mem hb
        rw [e] at e'; cases e'
        obtain ⟨sl3, e3⟩ := up15 (bl e) e2 hnf
        exact ⟨sl3, by rw [gF hb]; exact e3⟩
      free := fun b o e n hx => by
        obtain ⟨o', e1⟩ := base.there b o e hx
        exact ub.free b o' e1 (base.free b o e n hx)
      there := fun b o e hx => by
        obtain ⟨o', e1⟩ := base.there b o e hx
        by_cases hb : b ∈ frs X.stack
        · obtain ⟨_, o2, e2, hnf⟩ := I3.stack.mem hb
          rw [e] at e2; cases e2
          obtain ⟨sl, e3⟩ := base.slot b o e (I3.stkFree b hb) hb hx
          obtain ⟨sl2, e4⟩ := ub.slot b _ e3 hb
          obtain ⟨sl3, e5⟩ := up15 (bl e) e4 hnf
          exact ⟨_, by rw [gF hb]; exact e5⟩
        · obtain ⟨o2, e2⟩ := ub.there b o' e1 hb
          exact ⟨o2, gB e2 (bl e)⟩
      tups := fun b xs e => ub.tups b xs (base.tups b xs e)
      frzs := fun b o xs e => ub.frzs b o xs (base.frzs b o xs e)
      tbls := fun b ps e => by
        obtain ⟨m1, e1⟩ := base.tbls b ps e
        obtain ⟨m2, e2⟩ := ub.tbls b _ e1
        exact ⟨m1 ++ m2, by rw [e2, Array.append_assoc]⟩ }
    have hok2 : HOk X.prog X.w H2 G := fun b o q => (hok b o q).stay (fun c v hc r => gB r (fun z => by
      rcases hc with hc | hc
      · rw [← hc, z, H2C] at q; cases q
      · rw [z, H2C] at hc; cases hc)) (fun _ r => r) fun _ _ r => r
    have J : Inv X pins σ H2 { sb with heap := G, gens := s'.gens, drawn := s'.drawn, toks := s'.toks } :=
      I3.call' (ch := fp) Ib.os U hok2 ag fun b hb => ⟨(f3 b hb).2.2.2.1, (f3 b hb).2.1, (f3 b hb).2.2.2.2.1, (f3 b hb).2.2.2.2.2⟩
    refine ⟨a, PySem.W.hideAll B [ce.locals], { sb with heap := G, gens := s'.gens, drawn := s'.drawn, toks := s'.toks }, pins, σ, H2, cls, d, rfl, J, fun b o e hb => ?_, Heap.UpToSlots.of_keeps fun b o e => (og e).1, .inr (.inr (by rw [hs]; exact hh5)), na, os, ag, hW _ _ _ hE⟩
    obtain ⟨e', h⟩ := og e
    rcases h with h | h
    · obtain ⟨o', q⟩ := Option.isSome_iff_exists.mp h
      have z := st5 b o' q
      rw [e'] at z; cases z
      exact q
    · exact absurd h hb
  first
    | exact wpAny_bind (wpAny_pure (wpAny_bind fin))
    | exact wpAny_bind fin

/-- [elt for target in iter], the element may raise what a callee lets out -/
theorem pe_lcX {elt tg iter : Expr} {own : List (Str × Nat)} {pos : Pos} {wi : TI} {g : TG} {te : TE} (hc : X.calm = true) (hs : X.stack = X.env :: X.outer) (hf : X.env.frame = some X.env.locals) (tk : Takes X W) (hW : ∀ cls d σ H, E cls d H → W cls d σ H)
    (hN : X.N.Nodup) (hi : PI X tg iter wi) (ok : BlkOk X.N X.env.scope scope own) (hg : ∀ (s : Shared) (H : Hp) (C : Addr) (cl : List (Str × Addr)) (fp : List Addr), PG (X.blk s H scope (compEnvC scope cl C X.env) fp) tg g)
    (he : ∀ (s : Shared) (H : Hp) (C : Addr) (cl : List (Str × Addr)) (fp : List Addr) (xe : Value → Shared → Prop), Passes (L2.CX X.prog X.w) ((X.blk s H scope (compEnvC scope cl C X.env) fp).wish xe) E → PE ((X.blk s H scope (compEnvC scope cl C X.env) fp).wish xe) elt te)
    (hfold : ∀ x, foldedSetIterable iter X.env x = pure x := by intro _; rfl) : PE X (.ListComp elt [⟨tg, iter, [], 0⟩] scope pos) (tLc wi g tYes te (own.map (·.2))) := by
  refine ⟨fun pins s σ H Q I h => ?_⟩
  have captured : ∀ y ∈ scope.names, y.2 = .free → ∃ c, X.env.cells.lookup y.1 = some c := fun y hy e =>
    (ok.free y hy e).elim (fun k => I.ok.has _ (.inl k)) fun k => I.ok.has _ (.inr k)
  rw [eval_ListComp]
  refine comprehension_at (use := none) rfl hfold (closure_ok captured) ok.kind (fun y hy e => by rw [ok.uniq y hy, e]) (thn (hi.run pins s σ H _ I h) fun _ _ hx => thn hx fun _ s2 h2 => ?_)
  obtain ⟨it, fp, tn, J, H2, rfl, I2, T, st2, f2, q⟩ := h2
  refine wpAny_newObj_type (newEnv_comp ?_) (Nat.zero_le _)
  -- the new list stands at D
  have fD : H2 s2.heap.objs.size = none := I2.hok.fresh (Nat.le_refl _)
  obtain ⟨Wi, ⟨m0, w0⟩, turn⟩ := q s2.heap.objs.size fD
  have grow : ∀ b o, s2.heap.get? b = some o → (s2.heap.push { cls := .type "list", data := .seq ([] : List Value).toArray }).get? b = some o := fun b o e => Heap.get?_push_of_some _ e
  have I3 : Inv X pins σ (upd H2 s2.heap.objs.size (.lst [])) { s2 with heap := s2.heap.push { cls := .type "list", data := .seq ([] : List Value).toArray } } :=
    I2.laid (t' := s2.toks) grow (Nat.le_refl _) ⟨Nat.zero_le _, [], 0, .nil, Heap.get?_push_size _ rfl⟩
  have fpD : ∀ b ∈ fp, b ≠ s2.heap.objs.size ∧ b < (s2.heap.push { cls := .type "list", data := .seq ([] : List Value).toArray }).objs.size := fun b hb => by
    obtain ⟨o, e, _⟩ := T.obj _ _ st2 b hb
    have lt := Heap.lt_size e
    exact ⟨Nat.ne_of_lt lt, by rw [Heap.size_push]; exact Nat.lt_succ_of_lt lt⟩
  have st3 := T.keep _ _ _ st2 fun b _ o e => grow b o e
  generalize hD : s2.heap.objs.size = D at *
  generalize hs3 : ({ s2 with heap := s2.heap.push { cls := .type "list", data := .seq ([] : List Value).toArray } } : Shared) = s3 at *
  have e3 : s2.heap.push { cls := .type "list", data := .seq ([] : List Value).toArray } = s3.heap := by rw [← hs3]
  rw [e3] at fpD st3
  generalize hH3 : upd H2 D (.lst []) = H3 at *
  have f3 : ∀ b ∈ fp, FpOk X pins H3 b ∧ b < s3.heap.objs.size := fun b hb => by
    refine ⟨⟨?_, (f2 b hb).2⟩, (fpD b hb).2⟩
    rw [← hH3, upd_ne (fpD b hb).1]
    exact (f2 b hb).1
  have I4 := block_start I3 ok hN f3
  have pg := hg s3 H3 s3.heap.objs.size (cellsFrom (s3.heap.objs.size + 1) scope.names (cloFrom X.env.cells scope.names [])) fp
  have pe := fun xe => he s3 H3 s3.heap.objs.size (cellsFrom (s3.heap.objs.size + 1) scope.names (cloFrom X.env.cells scope.names [])) fp xe
  show codeAny _ _ (.compStart (.ListComp elt [⟨tg, iter, [], 0⟩] scope pos) 0 (.ref it) (.ref D) (compEnvC scope (cellsFrom (s3.heap.objs.size + 1) scope.names (cloFrom X.env.cells scope.names [])) s3.heap.objs.size X.env))
    (compEnds (model X.prog X.w) X.A X.xe none (EP X pins σ Q) (.ref D) (compEnvC scope (cellsFrom (s3.heap.objs.size + 1) scope.names (cloFrom X.env.cells scope.names [])) s3.heap.objs.size X.env)) { s3 with heap := pushCells (s3.heap.push { cls := .type "dict", data := .dict #[] }) scope.names }
  have cL : (compEnvC scope (cellsFrom (s3.heap.objs.size + 1) scope.names (cloFrom X.env.cells scope.names [])) s3.heap.objs.size X.env).locals = s3.heap.objs.size := rfl
  have cf : (compEnvC scope (cellsFrom (s3.heap.objs.size + 1) scope.names (cloFrom X.env.cells scope.names [])) s3.heap.objs.size X.env).frame = X.env.frame := rfl
  generalize compEnvC scope (cellsFrom (s3.heap.objs.size + 1) scope.names (cloFrom X.env.cells scope.names [])) s3.heap.objs.size X.env = ce at *
  have st4 : tn 0 (pushCells (s3.heap.push { cls := .type "dict", data := .dict #[] }) scope.names) := T.keep _ _ _ st3 fun b _ o e => pushCells_keeps _ _ _ _ (Heap.get?_push_of_some _ e)
  have pe := pe (blkE X ce) (blk_passes hs hf tk (fun c d H => hW c d σ H) I3 (fun b hb => (f3 b hb).1) cL cf)
  have free3 : ∀ b ∈ fp, H3 b = none := fun b hb => (f3 b hb).1.1
  have stat : ∀ {σ' : L2.St} {H' : Hp} {s' : Shared}, Inv (blkX X s3 H3 scope ce fp) [] σ' H' s' → (∀ b ∈ fp, H' b = none) → ∀ b ∈ fp, FpOk (blkX X s3 H3 scope ce fp) [] H' b := fun I' hn b hb =>
    ⟨hn b hb, (I'.ok.exf b hb).1, I'.ok.exfs b hb, .inl hb, fun x c e => (I'.ok.exf b hb).2 x c e, fun p hp => absurd (show p ∈ ([] : List (Addr × Obj)) ++ [] from hp) (by simp)⟩
  have none_of : ∀ {e : Value} {s' : Shared}, blkE X ce e s' → notedBy (model X.prog X.w) X.A ce (fun e s' => compEnds (model X.prog X.w) X.A X.xe none (EP X pins σ Q) (.ref D) ce (.error e) s') e s' := fun z => z
  have loop : codeAny (model X.prog X.w) X.A (.compLoop (.ListComp elt [⟨tg, iter, [], 0⟩] scope pos) 0 (.ref it) (.ref D) ce) (compEnds (model X.prog X.w) X.A X.xe none (EP X pins σ Q) (.ref D) ce) { s3 with heap := pushCells (s3.heap.push { cls := .type "dict", data := .dict #[] }) scope.names } := by
    refine compLoop_any (fun n s' => ∃ i H', Inv (blkX X s3 H3 scope ce fp) [] (wipe σ (own.map (·.2))) H' s' ∧ tn i s'.heap ∧ (∀ b ∈ fp, H' b = none) ∧ Wi i n H') ?_ m0 ⟨0, H3, I4.wish _, st4, free3, w0⟩
    rintro n s5 ⟨i, H5, I5, st5, n5, w5⟩
    rcases turn i n H5 w5 with ⟨stop, qq⟩ | ⟨go, Nx, hNx, step⟩
    · refine thnF (T.done (blkX X s3 H3 scope ce fp) rfl rfl rfl hc i [] s5 _ H5 (fun _ _ => False) I5 (stat I5 n5) st5 stop) fun r s6 ⟨hr, I6⟩ => ?_
      subst hr
      have I7 : Inv X pins σ H5 s6 := I3.call' (ch := fp) I6.os I6.base I6.hok I6.bare fun b hb => ⟨(f3 b hb).1.2.2.2.1, (f3 b hb).1.2.1, (f3 b hb).1.2.2.2.2.1, (f3 b hb).1.2.2.2.2.2⟩
      obtain ⟨m, hn, _⟩ := I6.loc
      have hn : s6.heap.Ns ce.locals m := hn
      have nC : H5 s3.heap.objs.size = none := by rw [← cL]; exact I6.free
      obtain ⟨g0, g1, g2, g3, g4, g5⟩ := I3.fpOk (Nat.le_refl _) nC
      refine ⟨m, hn, fun h8 sb => ⟨.ref D, H5, I7.turned (t' := s6.toks) (fun b o hb e => (sb.2 b (by rw [cL]; exact hb)).trans e) g0 g1 g3 g4 g5, rfl, qq⟩⟩
    · refine thnF (T.item (blkX X s3 H3 scope ce fp) rfl rfl rfl hc i [] s5 _ H5 (fun _ _ => False) I5 (stat I5 n5) st5 go) fun r s6 ⟨u, hr, h6⟩ => ?_
      subst hr
      refine thnF h6 fun _ s7 ⟨x, H7, I7, r7, y7, st7, n7⟩ => ?_
      have I7' := I7.pinned (stat I7 n7) (T.obj _ _ st7)
      refine thnF (pg.run _ s7 _ H7 x u _ I7'.unwish r7 (step x H7 y7)) fun _ s8 ⟨σ8, H8, I8, hw8, q8⟩ => ?_
      have q8 : (if true = true then te σ8 H8 (fun y H4 => ∃ acc, H4 D = some (.lst acc) ∧ acc.length < sizeLine ∧ Nx (upd H4 D (.lst (acc ++ [y])))) else Nx H8) := q8
      rw [if_pos rfl] at q8
      refine wpAny_tests_nil ?_
      rw [if_pos rfl]
      refine wpAny_mono (pe.run _ s8 σ8 H8 _ (I8.wish (blkE X ce)) q8) (fun z s10 hz => ?_) fun e s' z => none_of z
      obtain ⟨yv, H10, I10, r10, acc, hD10, hz10, nx⟩ := hz
      refine app_ok (X := blkX X s3 H3 scope ce fp) I10 hD10 hz10 r10 fun s11 I11 => ?_
      obtain ⟨m', hm, w'⟩ := hNx _ nx
      have back : ∀ b ∈ fp, ∀ o, s7.heap.get? b = some o → s11.heap.get? b = some o ∧ upd H10 D (.lst (acc ++ [yv])) b = none := fun b hb o e =>
        let z := I11.pin (b, o) (List.mem_append_right _ (List.mem_append_right _ (mem_pinsAt hb e)))
        ⟨z.1, z.2.1⟩
      refine ⟨m', hm, i + 1, _, (I11.unpinned (pins := [])).weak (by rw [← hw8, wipe_length]) (fun j v e => ?_), T.keep _ _ _ st7 fun b hb o e => (back b hb o e).1, fun b hb => ?_, w'⟩
      · rw [← hw8] at e
        exact (wipe_some e).1
      · obtain ⟨o, e, _⟩ := T.obj _ _ st7 b hb
        exact (back b hb o e).2
  exact codeAny_compStart_list loop (T.self X.A 0 _ _ _ st4 loop)
end
end K10
/-! K10More: enumerate of a text, repr of data, isinstance of the caught error, calls by one word, the law's own end. -/
namespace K10
open PySem PySem.Spec PyProof.Rows L2

/-! ### enumerate(text) -/
/-- the signs of a text, each in a new pair with its place -/
def Ites (x : Str) : It := ⟨fun i _ => i < x.cps.size, fun i H v H' => ∃ T c, v = .ref T ∧ H T = none ∧ H' = upd H T (.tup [.int (i : Nat), .str ⟨#[c]⟩]) ∧ x.cps[i]? = some c, fun i _ => x.cps.size ≤ i⟩
theorem turn_enumS {P : Program} {w : World} {K : PySem.W.Frag} {elts : List Expr} {kk : Nat} {tpos : Pos} (e it : Addr) (x : Str) (t : Tok) :
    Turn P w K (.Tuple elts kk tpos) (Ites x) [e, it] e (fun i h => i ≤ x.cps.size ∧ (∃ old, IsEnum h e it ((i : Nat) : Int) old) ∧ h.IsStrIter it (strIterType x) x t i ∧ e ≠ it) where
  mem := List.mem_cons_self
  obj := fun i h st b hb => by
    obtain ⟨_, ⟨old, he⟩, ⟨o, ho, _, hd⟩, _⟩ := st
    rcases List.mem_cons.mp hb with rfl | hb
    · exact ⟨_, he, fun _ q => nomatch q⟩
    · rw [List.mem_singleton.mp hb]
      exact ⟨o, ho, fun v q => by rw [hd] at q; cases q⟩
  keep := fun i h h' st k => by
    obtain ⟨hi, ⟨old, he⟩, ⟨o, ho, r⟩, hne⟩ := st
    exact ⟨hi, ⟨old, k e (by simp) _ he⟩, ⟨o, k it (by simp) o ho, r⟩, hne⟩
  item := by
    intro X hP hw hK hc i pins s σ H E I hf st hg
    subst hP hw hK
    obtain ⟨hi, ⟨old, he⟩, hit, hne⟩ := st
    have hlt : i < x.cps.size := hg
    have hel : e < s.heap.objs.size := Heap.lt_size he
    have hil : it < s.heap.objs.size := by obtain ⟨_, q, _⟩ := hit; exact Heap.lt_size q
    refine wpAny_pyNext_enum_itemD (Draws.text (A := X.A.in1) (I.ok.hd hc) it x t) he hit hlt hne (by simpa using hne) fun v h' tk hv ho hit' hT hsz hk => ?_
    obtain ⟨c, u, hcx, rfl⟩ := hv
    refine ⟨_, rfl, wpAny_letOwnedTupleGo_enum (s := { s with heap := h', toks := tk + 1 }) ho fun h'' he' sb => ?_⟩
    have hT2 : h''.get? s.heap.objs.size = some { cls := .type "tuple", data := .seq #[.int i tk, .str ⟨#[c]⟩ u] } := (sb.2 _ (Nat.ne_of_gt hel)).trans hT
    have new : ObjOk X.prog X.w (upd H s.heap.objs.size (.tup [.int (i : Nat), .str ⟨#[c]⟩])) h'' s.heap.objs.size (.tup [.int (i : Nat), .str ⟨#[c]⟩]) :=
      ⟨by show 2 ≤ sizeLine; decide, [.int i tk, .str ⟨#[c]⟩ u], .cons ⟨_, rfl⟩ (.cons ⟨_, rfl⟩ .nil), ⟨_, hT2, rfl, _, rfl⟩⟩
    have I1 : Inv X pins σ (upd H s.heap.objs.size (.tup [.int (i : Nat), .str ⟨#[c]⟩])) { s with heap := h'', toks := tk + 1 } :=
      I.turnedNew (ch := [e, it]) (fun b ob hb q => (sb.2 b (fun z => hb (by simp [z]))).trans (hk b ob (fun z => hb (by simp [z])) (fun z => hb (by simp [z])) q)) hf (Nat.le_refl _) new
    have e1 : ((i + 1 : Nat) : Int) = (i : Int) + 1 := by omega
    refine ⟨.ref s.heap.objs.size, _, I1, rfl, ⟨_, c, rfl, I.hok.fresh (Nat.le_refl _), rfl, hcx⟩, ⟨hlt, ⟨_, by rw [e1]; exact he'⟩, ?_, hne⟩, fun b hb => ?_⟩
    · obtain ⟨o, q, r⟩ := hit'
      exact ⟨o, (sb.2 it (Ne.symm hne)).trans q, r⟩
    · have hb' : b < s.heap.objs.size := by
        rcases List.mem_cons.mp hb with z | hb
        · rw [z]; exact hel
        · rw [List.mem_singleton.mp hb]; exact hil
      rw [upd_ne (Nat.ne_of_lt hb')]
      exact (hf b hb).1
  done := by
    intro X hP hw hK hc i pins s σ H E I hf st hg
    subst hP hw hK
    obtain ⟨hi, ⟨old, he⟩, hit, hne⟩ := st
    obtain ⟨f0, f1, f2, f3, f4, f5⟩ := hf it (by simp)
    have ei : i = x.cps.size := Nat.le_antisymm hi hg
    subst ei
    exact wpAny_pyNext_enum_endD (Draws.text (A := X.A.in1) (I.ok.hd hc) it x t) he hit fun h' eb => ⟨rfl, I.turned (t' := s.toks) (fun b o hb q => eb b o hb q) f0 f1 f3 f4 f5⟩
  self := fun A i s Q E st h => by
    obtain ⟨_, ⟨_, he⟩, _⟩ := st
    exact wpAny_pyIter_enum he h
def iEnumS (ta : TA) : TI := fun σ H R => ta σ H fun vs H1 => ∃ x, vs = [.str x] ∧ R (Ites x) H1
theorem pi_enumS {X : Cx} {e : Expr} {ta : TA} {p pos tpos : Pos} {elts : List Expr} {kk : Nat} (hg : Gl X "enumerate") (hm : X.mg "enumerate" = none) (ha : PA X [e] ta) (hs : starEach [e] X.env = [(false, eval e X.env)] := by rfl) :
    PI X (.Tuple elts kk tpos) (.Call (.Name "enumerate" p) [e] [] pos) (iEnumS ta) := by
  refine ⟨fun pins s σ H R I h => ?_⟩
  refine Call_ (ld_blt I hg hm boot_enumerate (PyProof.Rows.callWith_type1 (thn (ha.run pos pins s σ H _ I h) fun us s1 ⟨vs, H1, I1, r1, x, ex, q⟩ => ?_) hs rfl))
  subst ex
  cases r1 with
  | cons r rr =>
    cases rr
    obtain ⟨t, rfl⟩ := r
    refine call_enumerate_str fun h' he hit hsz hk => wpAny_pyIter_enum he ?_
    have I2 : Inv X pins σ H1 { s1 with heap := h' } := I1.kept (t' := s1.toks) hk
    refine ⟨s1.heap.objs.size + 1, [s1.heap.objs.size + 1, s1.heap.objs.size], _, _, H1, rfl, I2, turn_enumS (s1.heap.objs.size + 1) s1.heap.objs.size x t, ⟨Nat.zero_le _, ⟨.none, he⟩, hit, Nat.succ_ne_self _⟩, fun b hb => ?_, q⟩
    have hle : s1.heap.objs.size ≤ b := by
      rcases List.mem_cons.mp hb with z | hb
      · rw [z]; exact Nat.le_add_right _ _
      · rw [List.mem_singleton.mp hb]; exact Nat.le_refl _
    exact I1.fpOk hle (I1.hok.fresh hle)
theorem walk_enumS {x : Str} : Walk (Ites x) x.cps.size (fun _ => True) (fun i H v H' => ∃ T c, v = .ref T ∧ H T = none ∧ H' = upd H T (.tup [.int (i : Nat), .str ⟨#[c]⟩]) ∧ x.cps[i]? = some c) :=
  ⟨fun _ _ hi _ => hi, fun _ _ => Nat.le_refl _, fun _ _ _ _ _ _ y => y⟩

/-! ### repr of data -/
theorem call_reprD {X : Cx} (hg : X.A.guards = some []) : CallR X (.builtin "repr") (fun xs H Q => ∃ a ds, xs = [.ref a] ∧ Dp X.K H (.ref a) (.tuple ds) ∧ (PyData.tuple ds).showable = true ∧ (PyData.tuple ds).hasDict = false ∧
    X.A.units + ((PyData.tuple ds).depth + 1) < cLine ∧ (PyData.tuple ds).shown.length ≤ sizeLine ∧ Q (.str (PyData.tuple ds).shown) H) := by
  intro pins s σ H xs us Q I r h
  obtain ⟨a, ds, rfl, hd, hs, hn, hu, hz, q⟩ := h
  cases r with
  | cons rx rr =>
    cases rr
    cases rx
    obtain ⟨as, hr⟩ := Dp.reads I _ _ _ hd (rfl : RelV (.ref a) (Value.ref a))
    exact repr_of_reads' hr hs (PyData.noDict_hsm hn) hg hu (fun b o e => e) (fun h' u tk hk => ⟨.str _, H, I.kept (t' := tk) hk, ⟨u, rfl⟩, q⟩) hz

/-! ### isinstance of the caught error, its own dict told -/
/-- isinstance(e, c), e the exception that the suite holds: at a, of the class at D, its own dict at d -/
def rIsT (K : PySem.W.Frag) (D a d : Addr) : List V → Hp → VK → Prop := fun xs H Q => ∃ (c : V) (cv : Value) (b : Bool) (fs : List (Str × V)), xs = [.ref a, c] ∧ H d = some (.xd fs) ∧ (∀ u, RelV c u → u = cv) ∧ PySem.W.kitOne K (.ref D) cv = some b ∧ Q (.bl b) H
theorem call_isT {X : Cx} {a D d : Addr} {oe : Obj} {pn : List (Addr × Obj)} (C : ExcC X.K D) (hz : Zc (.ref D) (some d) oe) (hf : ∃ vs, oe.data = .fields vs) : CallR (X.suite a ((a, oe) :: pn)) (.builtin "isinstance") (rIsT X.K D a d) := by
  intro pins s σ H xs us Q I r h
  obtain ⟨c, cv, b, fs, rfl, hd, hcv, e, q⟩ := h
  cases r with
  | cons rx rr =>
    cases rr with
    | cons rt rr =>
      cases rr
      cases rx
      have ec := hcv _ rt
      subst ec
      obtain ⟨hget, _⟩ := I.pin (a, oe) (List.mem_append.mpr (.inl List.mem_cons_self))
      obtain ⟨vs, hv⟩ := hf
      obtain ⟨mA, ⟨od, es, ep, ho, _⟩, _⟩ : ∃ mA, s.heap.Ns1 d mA ∧ ∀ f, RelO (fs.lookup f) (mA f) := I.hok d _ hd
      have J : PySem.W.InstAt s.heap a oe D (some od) := ⟨hget, hz.1, by unfold PySem.W.notCls; rw [hv] <;> rfl, by rw [hz.2]; exact ho⟩
      have hcl : (PySem.W.clsIn X.K D).isSome = true := by
        have z := C.hd
        unfold PySem.W.hasDictIn at z
        cases q : PySem.W.clsIn X.K D with
        | none => rw [q] at z; cases z
        | some cd => rfl
      exact PySem.W.kia_one (PySem.W.kitx_exc hcl C.hg C.hk C.hs C.ha C.hn C.ht C.hm) I.kIn J e (fun z => nomatch z) fun tk => ⟨.bl b, H, I.kept (t' := tk) fun _ _ z => z, rfl, q⟩

/-! ### a def that keeps its promise, by one word -/
structure Has (P : Program) (w : World) (K : PySem.W.Frag) (mg : Str → Option Value) (base : Heap) (CX : CXT) (k : Nat) (x : Str) (ps : List Str) (sp : Sp) : Prop where
  ex : ∃ (f : Addr) (fd : FuncData), mg x = some (.ref f) ∧ PySem.W.keepIn K (.ref f) = true ∧ Binds K fd ps [] ∧ FnOk P w K mg base CX k f fd ps sp
section
variable {P : Program} {w : World} {K : PySem.W.Frag} {mg : Str → Option Value} {base : Heap} {CX : CXT}
theorem Has.mono {j k : Nat} {x : Str} {ps : List Str} {sp : Sp} (h : Has P w K mg base CX j x ps sp) (l : j ≤ k) : Has P w K mg base CX k x ps sp := by
  obtain ⟨f, fd, a, b, c, d⟩ := h.ex
  exact ⟨f, fd, a, b, c, d.mono l⟩
theorem Has.imp {k : Nat} {x : Str} {ps : List Str} {sp sp' : Sp} (h : Has P w K mg base CX k x ps sp) (l : ∀ vs H Q E, sp' vs H Q E → sp vs H Q E) : Has P w K mg base CX k x ps sp' := by
  obtain ⟨f, fd, a, b, c, d⟩ := h.ex
  exact ⟨f, fd, a, b, c, d.imp l⟩
/-- how its arguments bind, whatever they are -/
def BindsBy (x : Str) (st : Stmt) (ps : List Str) : Prop := ∀ (kV doc pm : Value) (an : Option Addr) (cdv ct : Value) (us : List Value), us.length = ps.length → bindArgs (PySem.W.fnOf x x (defArgs st) (defBody st) (defScope st) .none kV doc pm an cdv ct) ⟨us, []⟩ = pure (ps.zip us)
theorem has_0 {x : Str} {st : Stmt} {N ps : List Str} {k : Nat} {sp : Sp} (g : mg x = some (.ref (He.ga K x))) (F : ∃ fd, FnP K x st (He.ga K x) fd) (S : FnScope N ps (defScope st)) (b : BindsBy x st ps) (len : ∀ vs H Q E, sp vs H Q E → vs.length = ps.length)
    (body : ∀ (cdv : Value) (A : Around) (outer : List Env) (s : Shared) (H : Hp) (vs : List V) (Q : VK) (E : XK), Room k (A.deeper (envOfC x (defScope st) s.heap.objs.size (He.ga K x) cdv)) → sp vs H Q E →
      ∃ t, PSs (cxOf CX0 P w K mg base N x (defScope st) (He.ga K x) cdv A outer s H E).nox (defBody st) t ∧ t { nx := fun _ H' => Q .non H', rt := Q } (start N vs) H) : Has P w K mg base CX0 (k + 1) x ps sp := by
  obtain ⟨fd, F⟩ := F
  have F := He5.fun_of F
  exact ⟨_, fd, g, F.kp, F.binds b, F.ok S len body⟩
theorem has_X {x : Str} {st : Stmt} {N ps : List Str} {k : Nat} {sp : Sp} (g : mg x = some (.ref (He.ga K x))) (F : ∃ fd, FnP K x st (He.ga K x) fd) (S : FnScope N ps (defScope st)) (b : BindsBy x st ps) (len : ∀ vs H Q E, sp vs H Q E → vs.length = ps.length)
    (body : ∀ (cdv : Value) (A : Around) (outer : List Env) (s : Shared) (H : Hp) (vs : List V) (Q : VK) (E : XK), Room k (A.deeper (envOfC x (defScope st) s.heap.objs.size (He.ga K x) cdv)) → sp vs H Q E →
      ∃ t, PSs (cxOf (L2.CX P w) P w K mg base N x (defScope st) (He.ga K x) cdv A outer s H E) (defBody st) t ∧ t { nx := fun _ H' => Q .non H', rt := Q } (start N vs) H) : Has P w K mg base (L2.CX P w) (k + 1) x ps sp := by
  obtain ⟨fd, F⟩ := F
  have F := He5.fun_of F
  exact ⟨_, fd, g, F.kp, F.binds b, F.okX S len body⟩
end
section
variable {X : Cx} {CX : CXT} {j k : Nat} {x : Str} {ps : List Str} {sp : Sp} {E : XK} {p pos : Pos} {e : Expr} {es : List Expr} {t : TA}
theorem pe_callH (h : Has X.prog X.w X.K X.mg X.base CX j x ps sp) (hr : Room k X.A) (l : j ≤ k) (hg : Gl X x) (hx : Passes CX X E) (ha : PA X (e :: es) t) (hd : (x == ("__debug__" : Str)) = false := by decide)
    (he : starEach (e :: es) X.env = (false, eval e X.env) :: starEach es X.env := by rfl) (hpl : (backTo pos (starEach es X.env)).any (·.1) = false := by rfl) : PE X (.Call (.Name x p) (e :: es) [] pos) (tCall sp [] E t) := by
  obtain ⟨f, fd, a, b, c, d⟩ := h.ex
  exact pe_call d (hr.mono l) hg a b c .nil hx ha hd he hpl
end
end K10
set_option maxHeartbeats 400000
/-! K10Facts: the head's facts by names. Printed by genhead.py. -/
namespace K10
open PySem PySem.Spec PyProof.Rows L2
/-- the written part and the module's names, as the head has left them -/
structure Facts (w : World) (K : PySem.W.Frag) (mg : Str → Option Value) : Prop where
  s : Says w K
  at_ : ∃ h : Heap, K.In h ∧ h.Ns mainGlobals mg
section
variable {w : World} {K : PySem.W.Frag} {mg : Str → Option Value}
theorem Facts.g_is_sign (F : Facts w K mg) : mg "is_sign" = some (.ref (He.ga K "is_sign")) := by obtain ⟨h, X, G⟩ := F.at_; exact He.glo_ok X G (F.s.t.d.fact 0 rfl)
theorem Facts.g_split (F : Facts w K mg) : mg "split" = some (.ref (He.ga K "split")) := by obtain ⟨h, X, G⟩ := F.at_; exact He.glo_ok X G (F.s.t.d.fact 1 rfl)
theorem Facts.g_read_forms (F : Facts w K mg) : mg "read_forms" = some (.ref (He.ga K "read_forms")) := by obtain ⟨h, X, G⟩ := F.at_; exact He.glo_ok X G (F.s.t.d.fact 2 rfl)
theorem Facts.g_is_word (F : Facts w K mg) : mg "is_word" = some (.ref (He.ga K "is_word")) := by obtain ⟨h, X, G⟩ := F.at_; exact He.glo_ok X G (F.s.t.d.fact 3 rfl)
theorem Facts.g_word_of (F : Facts w K mg) : mg "word_of" = some (.ref (He.ga K "word_of")) := by obtain ⟨h, X, G⟩ := F.at_; exact He.glo_ok X G (F.s.t.d.fact 4 rfl)
theorem Facts.g_parts_of_form (F : Facts w K mg) : mg "parts_of_form" = some (.ref (He.ga K "parts_of_form")) := by obtain ⟨h, X, G⟩ := F.at_; exact He.glo_ok X G (F.s.t.d.fact 5 rfl)
theorem Facts.g_is_name (F : Facts w K mg) : mg "is_name" = some (.ref (He.ga K "is_name")) := by obtain ⟨h, X, G⟩ := F.at_; exact He.glo_ok X G (F.s.t.d.fact 6 rfl)
theorem Facts.g_is_numeral (F : Facts w K mg) : mg "is_numeral" = some (.ref (He.ga K "is_numeral")) := by obtain ⟨h, X, G⟩ := F.at_; exact He.glo_ok X G (F.s.t.d.fact 7 rfl)
theorem Facts.g_name_of (F : Facts w K mg) : mg "name_of" = some (.ref (He.ga K "name_of")) := by obtain ⟨h, X, G⟩ := F.at_; exact He.glo_ok X G (F.s.t.d.fact 8 rfl)
theorem Facts.g_numeral_of (F : Facts w K mg) : mg "numeral_of" = some (.ref (He.ga K "numeral_of")) := by obtain ⟨h, X, G⟩ := F.at_; exact He.glo_ok X G (F.s.t.d.fact 9 rfl)
theorem Facts.g_head_of (F : Facts w K mg) : mg "head_of" = some (.ref (He.ga K "head_of")) := by obtain ⟨h, X, G⟩ := F.at_; exact He.glo_ok X G (F.s.t.d.fact 10 rfl)
theorem Facts.g_counted (F : Facts w K mg) : mg "counted" = some (.ref (He.ga K "counted")) := by obtain ⟨h, X, G⟩ := F.at_; exact He.glo_ok X G (F.s.t.d.fact 11 rfl)
theorem Facts.g_read_index (F : Facts w K mg) : mg "read_index" = some (.ref (He.ga K "read_index")) := by obtain ⟨h, X, G⟩ := F.at_; exact He.glo_ok X G (F.s.t.d.fact 12 rfl)
theorem Facts.g_read_place (F : Facts w K mg) : mg "read_place" = some (.ref (He.ga K "read_place")) := by obtain ⟨h, X, G⟩ := F.at_; exact He.glo_ok X G (F.s.t.d.fact 13 rfl)
theorem Facts.g_read_expression (F : Facts w K mg) : mg "read_expression" = some (.ref (He.ga K "read_expression")) := by obtain ⟨h, X, G⟩ := F.at_; exact He.glo_ok X G (F.s.t.d.fact 14 rfl)
theorem Facts.g_read_test (F : Facts w K mg) : mg "read_test" = some (.ref (He.ga K "read_test")) := by obtain ⟨h, X, G⟩ := F.at_; exact He.glo_ok X G (F.s.t.d.fact 15 rfl)
theorem Facts.g_read_body (F : Facts w K mg) : mg "read_body" = some (.ref (He.ga K "read_body")) := by obtain ⟨h, X, G⟩ := F.at_; exact He.glo_ok X G (F.s.t.d.fact 16 rfl)
theorem Facts.g_read_call (F : Facts w K mg) : mg "read_call" = some (.ref (He.ga K "read_call")) := by obtain ⟨h, X, G⟩ := F.at_; exact He.glo_ok X G (F.s.t.d.fact 17 rfl)
theorem Facts.g_read_statement (F : Facts w K mg) : mg "read_statement" = some (.ref (He.ga K "read_statement")) := by obtain ⟨h, X, G⟩ := F.at_; exact He.glo_ok X G (F.s.t.d.fact 18 rfl)
theorem Facts.g_read_variable (F : Facts w K mg) : mg "read_variable" = some (.ref (He.ga K "read_variable")) := by obtain ⟨h, X, G⟩ := F.at_; exact He.glo_ok X G (F.s.t.d.fact 19 rfl)
theorem Facts.g_read_procedure (F : Facts w K mg) : mg "read_procedure" = some (.ref (He.ga K "read_procedure")) := by obtain ⟨h, X, G⟩ := F.at_; exact He.glo_ok X G (F.s.t.d.fact 20 rfl)
theorem Facts.g_read_declaration (F : Facts w K mg) : mg "read_declaration" = some (.ref (He.ga K "read_declaration")) := by obtain ⟨h, X, G⟩ := F.at_; exact He.glo_ok X G (F.s.t.d.fact 21 rfl)
theorem Facts.g_read_tree (F : Facts w K mg) : mg "read_tree" = some (.ref (He.ga K "read_tree")) := by obtain ⟨h, X, G⟩ := F.at_; exact He.glo_ok X G (F.s.t.d.fact 22 rfl)
theorem Facts.g_read_program (F : Facts w K mg) : mg "read_program" = some (.ref (He.ga K "read_program")) := by obtain ⟨h, X, G⟩ := F.at_; exact He.glo_ok X G (F.s.t.d.fact 23 rfl)
theorem Facts.g__law_draws (F : Facts w K mg) : mg "_law_draws" = some (.ref (He.ga K "_law_draws")) := by obtain ⟨h, X, G⟩ := F.at_; exact He.glo_ok X G (F.s.t.d.fact 24 rfl)
theorem Facts.g__law_take (F : Facts w K mg) : mg "_law_take" = some (.ref (He.ga K "_law_take")) := by obtain ⟨h, X, G⟩ := F.at_; exact He.glo_ok X G (F.s.t.d.fact 25 rfl)
theorem Facts.g__law_number (F : Facts w K mg) : mg "_law_number" = some (.ref (He.ga K "_law_number")) := by obtain ⟨h, X, G⟩ := F.at_; exact He.glo_ok X G (F.s.t.d.fact 26 rfl)
theorem Facts.g__law_index (F : Facts w K mg) : mg "_law_index" = some (.ref (He.ga K "_law_index")) := by obtain ⟨h, X, G⟩ := F.at_; exact He.glo_ok X G (F.s.t.d.fact 27 rfl)
theorem Facts.g__law_place (F : Facts w K mg) : mg "_law_place" = some (.ref (He.ga K "_law_place")) := by obtain ⟨h, X, G⟩ := F.at_; exact He.glo_ok X G (F.s.t.d.fact 28 rfl)
theorem Facts.g__law_expression (F : Facts w K mg) : mg "_law_expression" = some (.ref (He.ga K "_law_expression")) := by obtain ⟨h, X, G⟩ := F.at_; exact He.glo_ok X G (F.s.t.d.fact 29 rfl)
theorem Facts.g__law_test (F : Facts w K mg) : mg "_law_test" = some (.ref (He.ga K "_law_test")) := by obtain ⟨h, X, G⟩ := F.at_; exact He.glo_ok X G (F.s.t.d.fact 30 rfl)
theorem Facts.g__law_call (F : Facts w K mg) : mg "_law_call" = some (.ref (He.ga K "_law_call")) := by obtain ⟨h, X, G⟩ := F.at_; exact He.glo_ok X G (F.s.t.d.fact 31 rfl)
theorem Facts.g__law_body (F : Facts w K mg) : mg "_law_body" = some (.ref (He.ga K "_law_body")) := by obtain ⟨h, X, G⟩ := F.at_; exact He.glo_ok X G (F.s.t.d.fact 32 rfl)
theorem Facts.g__law_statement (F : Facts w K mg) : mg "_law_statement" = some (.ref (He.ga K "_law_statement")) := by obtain ⟨h, X, G⟩ := F.at_; exact He.glo_ok X G (F.s.t.d.fact 33 rfl)
theorem Facts.g__law_tree (F : Facts w K mg) : mg "_law_tree" = some (.ref (He.ga K "_law_tree")) := by obtain ⟨h, X, G⟩ := F.at_; exact He.glo_ok X G (F.s.t.d.fact 34 rfl)
theorem Facts.g__law_index_text (F : Facts w K mg) : mg "_law_index_text" = some (.ref (He.ga K "_law_index_text")) := by obtain ⟨h, X, G⟩ := F.at_; exact He.glo_ok X G (F.s.t.d.fact 35 rfl)
theorem Facts.g__law_place_text (F : Facts w K mg) : mg "_law_place_text" = some (.ref (He.ga K "_law_place_text")) := by obtain ⟨h, X, G⟩ := F.at_; exact He.glo_ok X G (F.s.t.d.fact 36 rfl)
theorem Facts.g__law_expression_text (F : Facts w K mg) : mg "_law_expression_text" = some (.ref (He.ga K "_law_expression_text")) := by obtain ⟨h, X, G⟩ := F.at_; exact He.glo_ok X G (F.s.t.d.fact 37 rfl)
theorem Facts.g__law_test_text (F : Facts w K mg) : mg "_law_test_text" = some (.ref (He.ga K "_law_test_text")) := by obtain ⟨h, X, G⟩ := F.at_; exact He.glo_ok X G (F.s.t.d.fact 38 rfl)
theorem Facts.g__law_body_text (F : Facts w K mg) : mg "_law_body_text" = some (.ref (He.ga K "_law_body_text")) := by obtain ⟨h, X, G⟩ := F.at_; exact He.glo_ok X G (F.s.t.d.fact 39 rfl)
theorem Facts.g__law_statement_text (F : Facts w K mg) : mg "_law_statement_text" = some (.ref (He.ga K "_law_statement_text")) := by obtain ⟨h, X, G⟩ := F.at_; exact He.glo_ok X G (F.s.t.d.fact 40 rfl)
theorem Facts.g__law_variable_text (F : Facts w K mg) : mg "_law_variable_text" = some (.ref (He.ga K "_law_variable_text")) := by obtain ⟨h, X, G⟩ := F.at_; exact He.glo_ok X G (F.s.t.d.fact 41 rfl)
theorem Facts.g__law_words (F : Facts w K mg) : mg "_law_words" = some (.ref (He.ga K "_law_words")) := by obtain ⟨h, X, G⟩ := F.at_; exact He.glo_ok X G (F.s.t.d.fact 42 rfl)
theorem Facts.g__law_line (F : Facts w K mg) : mg "_law_line" = some (.ref (He.ga K "_law_line")) := by obtain ⟨h, X, G⟩ := F.at_; exact He.glo_ok X G (F.s.t.d.fact 43 rfl)
theorem Facts.g__law_name (F : Facts w K mg) : mg "_law_name" = some (.ref (He.ga K "_law_name")) := by obtain ⟨h, X, G⟩ := F.at_; exact He.glo_ok X G (F.s.t.d.fact 44 rfl)
theorem Facts.g__law_valued (F : Facts w K mg) : mg "_law_valued" = some (.ref (He.ga K "_law_valued")) := by obtain ⟨h, X, G⟩ := F.at_; exact He.glo_ok X G (F.s.t.d.fact 45 rfl)
theorem Facts.g__law_fail (F : Facts w K mg) : mg "_law_fail" = some (.ref (He.ga K "_law_fail")) := by obtain ⟨h, X, G⟩ := F.at_; exact He.glo_ok X G (F.s.t.d.fact 46 rfl)
theorem Facts.g__law_forms (F : Facts w K mg) : mg "_law_forms" = some (.ref (He.ga K "_law_forms")) := by obtain ⟨h, X, G⟩ := F.at_; exact He.glo_ok X G (F.s.t.d.fact 47 rfl)
theorem Facts.g__law_word (F : Facts w K mg) : mg "_law_word" = some (.ref (He.ga K "_law_word")) := by obtain ⟨h, X, G⟩ := F.at_; exact He.glo_ok X G (F.s.t.d.fact 48 rfl)
theorem Facts.g__law_named (F : Facts w K mg) : mg "_law_named" = some (.ref (He.ga K "_law_named")) := by obtain ⟨h, X, G⟩ := F.at_; exact He.glo_ok X G (F.s.t.d.fact 49 rfl)
theorem Facts.g__law_list (F : Facts w K mg) : mg "_law_list" = some (.ref (He.ga K "_law_list")) := by obtain ⟨h, X, G⟩ := F.at_; exact He.glo_ok X G (F.s.t.d.fact 50 rfl)
theorem Facts.g__law_first (F : Facts w K mg) : mg "_law_first" = some (.ref (He.ga K "_law_first")) := by obtain ⟨h, X, G⟩ := F.at_; exact He.glo_ok X G (F.s.t.d.fact 51 rfl)
theorem Facts.g__law_read_index (F : Facts w K mg) : mg "_law_read_index" = some (.ref (He.ga K "_law_read_index")) := by obtain ⟨h, X, G⟩ := F.at_; exact He.glo_ok X G (F.s.t.d.fact 52 rfl)
theorem Facts.g__law_read_place (F : Facts w K mg) : mg "_law_read_place" = some (.ref (He.ga K "_law_read_place")) := by obtain ⟨h, X, G⟩ := F.at_; exact He.glo_ok X G (F.s.t.d.fact 53 rfl)
theorem Facts.g__law_read_expression (F : Facts w K mg) : mg "_law_read_expression" = some (.ref (He.ga K "_law_read_expression")) := by obtain ⟨h, X, G⟩ := F.at_; exact He.glo_ok X G (F.s.t.d.fact 54 rfl)
theorem Facts.g__law_read_test (F : Facts w K mg) : mg "_law_read_test" = some (.ref (He.ga K "_law_read_test")) := by obtain ⟨h, X, G⟩ := F.at_; exact He.glo_ok X G (F.s.t.d.fact 55 rfl)
theorem Facts.g__law_read_body (F : Facts w K mg) : mg "_law_read_body" = some (.ref (He.ga K "_law_read_body")) := by obtain ⟨h, X, G⟩ := F.at_; exact He.glo_ok X G (F.s.t.d.fact 56 rfl)
theorem Facts.g__law_read_statement (F : Facts w K mg) : mg "_law_read_statement" = some (.ref (He.ga K "_law_read_statement")) := by obtain ⟨h, X, G⟩ := F.at_; exact He.glo_ok X G (F.s.t.d.fact 57 rfl)
theorem Facts.g__law_read_variable (F : Facts w K mg) : mg "_law_read_variable" = some (.ref (He.ga K "_law_read_variable")) := by obtain ⟨h, X, G⟩ := F.at_; exact He.glo_ok X G (F.s.t.d.fact 58 rfl)
theorem Facts.g__law_read_procedure (F : Facts w K mg) : mg "_law_read_procedure" = some (.ref (He.ga K "_law_read_procedure")) := by obtain ⟨h, X, G⟩ := F.at_; exact He.glo_ok X G (F.s.t.d.fact 59 rfl)
theorem Facts.g__law_read (F : Facts w K mg) : mg "_law_read" = some (.ref (He.ga K "_law_read")) := by obtain ⟨h, X, G⟩ := F.at_; exact He.glo_ok X G (F.s.t.d.fact 60 rfl)
theorem Facts.g__law_changed (F : Facts w K mg) : mg "_law_changed" = some (.ref (He.ga K "_law_changed")) := by obtain ⟨h, X, G⟩ := F.at_; exact He.glo_ok X G (F.s.t.d.fact 61 rfl)
theorem Facts.g__law_text (F : Facts w K mg) : mg "_law_text" = some (.ref (He.ga K "_law_text")) := by obtain ⟨h, X, G⟩ := F.at_; exact He.glo_ok X G (F.s.t.d.fact 62 rfl)
theorem Facts.g_law (F : Facts w K mg) : mg "law" = some (.ref (He.ga K "law")) := by obtain ⟨h, X, G⟩ := F.at_; exact He.glo_ok X G (F.s.t.d.fact 63 rfl)
theorem Facts.i_PRIME (F : Facts w K mg) : ∃ t, mg "PRIME" = some (.int 2147483647 t) := by obtain ⟨h, X, G⟩ := F.at_; exact He.int_ok X G (F.s.t.d.fact 64 rfl)
theorem Facts.i_MAX_SIZE (F : Facts w K mg) : ∃ t, mg "MAX_SIZE" = some (.int 8 t) := by obtain ⟨h, X, G⟩ := F.at_; exact He.int_ok X G (F.s.t.d.fact 65 rfl)
theorem Facts.i_MAX_INTEGER (F : Facts w K mg) : ∃ t, mg "MAX_INTEGER" = some (.int 1000 t) := by obtain ⟨h, X, G⟩ := F.at_; exact He.int_ok X G (F.s.t.d.fact 66 rfl)
theorem Facts.i_MAX_TEXT (F : Facts w K mg) : ∃ t, mg "MAX_TEXT" = some (.int 6000 t) := by obtain ⟨h, X, G⟩ := F.at_; exact He.int_ok X G (F.s.t.d.fact 67 rfl)
theorem Facts.i_MAX_FORMS (F : Facts w K mg) : ∃ t, mg "MAX_FORMS" = some (.int 20 t) := by obtain ⟨h, X, G⟩ := F.at_; exact He.int_ok X G (F.s.t.d.fact 68 rfl)
theorem Facts.i_MAX_NAME (F : Facts w K mg) : ∃ t, mg "MAX_NAME" = some (.int 8 t) := by obtain ⟨h, X, G⟩ := F.at_; exact He.int_ok X G (F.s.t.d.fact 69 rfl)
theorem Facts.i_MAX_DIGITS (F : Facts w K mg) : ∃ t, mg "MAX_DIGITS" = some (.int 10 t) := by obtain ⟨h, X, G⟩ := F.at_; exact He.int_ok X G (F.s.t.d.fact 70 rfl)
theorem Facts.t_LETTERS (F : Facts w K mg) : ∃ t, mg "LETTERS" = some (.str "abcdefghijklmnopqrstuvwxyz" t) := by obtain ⟨h, X, G⟩ := F.at_; exact He.str_ok X G (F.s.t.d.fact 71 rfl)
theorem Facts.t_DIGITS (F : Facts w K mg) : ∃ t, mg "DIGITS" = some (.str "0123456789" t) := by obtain ⟨h, X, G⟩ := F.at_; exact He.str_ok X G (F.s.t.d.fact 72 rfl)
theorem Facts.g_CountermarchError (F : Facts w K mg) : mg "CountermarchError" = some (.ref (He.ga K "CountermarchError")) := by obtain ⟨h, X, G⟩ := F.at_; exact He.glo_ok X G (F.s.t.d.fact 73 rfl)
theorem Facts.g_TextError (F : Facts w K mg) : mg "TextError" = some (.ref (He.ga K "TextError")) := by obtain ⟨h, X, G⟩ := F.at_; exact He.glo_ok X G (F.s.t.d.fact 74 rfl)
theorem Facts.g_TreeError (F : Facts w K mg) : mg "TreeError" = some (.ref (He.ga K "TreeError")) := by obtain ⟨h, X, G⟩ := F.at_; exact He.glo_ok X G (F.s.t.d.fact 75 rfl)
theorem Facts.g_RESERVED (F : Facts w K mg) : mg "RESERVED" = some (.ref (He.ga K "RESERVED")) := by obtain ⟨h, X, G⟩ := F.at_; exact He.glo_ok X G (F.s.t.d.fact 76 rfl)
theorem Facts.g_EXPRESSIONS (F : Facts w K mg) : mg "EXPRESSIONS" = some (.ref (He.ga K "EXPRESSIONS")) := by obtain ⟨h, X, G⟩ := F.at_; exact He.glo_ok X G (F.s.t.d.fact 77 rfl)
theorem Facts.g_INDEXES (F : Facts w K mg) : mg "INDEXES" = some (.ref (He.ga K "INDEXES")) := by obtain ⟨h, X, G⟩ := F.at_; exact He.glo_ok X G (F.s.t.d.fact 78 rfl)
theorem Facts.g_ORDER (F : Facts w K mg) : mg "ORDER" = some (.ref (He.ga K "ORDER")) := by obtain ⟨h, X, G⟩ := F.at_; exact He.glo_ok X G (F.s.t.d.fact 79 rfl)
theorem Facts.g_COUNTS (F : Facts w K mg) : mg "COUNTS" = some (.ref (He.ga K "COUNTS")) := by obtain ⟨h, X, G⟩ := F.at_; exact He.glo_ok X G (F.s.t.d.fact 80 rfl)
theorem Facts.z_len (F : Facts w K mg) : mg "len" = none := by obtain ⟨h, X, G⟩ := F.at_; exact He.free_ok X G (F.s.t.d.fact 81 rfl)
theorem Facts.z_isinstance (F : Facts w K mg) : mg "isinstance" = none := by obtain ⟨h, X, G⟩ := F.at_; exact He.free_ok X G (F.s.t.d.fact 82 rfl)
theorem Facts.z_int (F : Facts w K mg) : mg "int" = none := by obtain ⟨h, X, G⟩ := F.at_; exact He.free_ok X G (F.s.t.d.fact 83 rfl)
theorem Facts.z_str (F : Facts w K mg) : mg "str" = none := by obtain ⟨h, X, G⟩ := F.at_; exact He.free_ok X G (F.s.t.d.fact 84 rfl)
theorem Facts.z_tuple (F : Facts w K mg) : mg "tuple" = none := by obtain ⟨h, X, G⟩ := F.at_; exact He.free_ok X G (F.s.t.d.fact 85 rfl)
theorem Facts.z_list (F : Facts w K mg) : mg "list" = none := by obtain ⟨h, X, G⟩ := F.at_; exact He.free_ok X G (F.s.t.d.fact 86 rfl)
theorem Facts.z_range (F : Facts w K mg) : mg "range" = none := by obtain ⟨h, X, G⟩ := F.at_; exact He.free_ok X G (F.s.t.d.fact 87 rfl)
theorem Facts.z_enumerate (F : Facts w K mg) : mg "enumerate" = none := by obtain ⟨h, X, G⟩ := F.at_; exact He.free_ok X G (F.s.t.d.fact 88 rfl)
theorem Facts.z_all (F : Facts w K mg) : mg "all" = none := by obtain ⟨h, X, G⟩ := F.at_; exact He.free_ok X G (F.s.t.d.fact 89 rfl)
theorem Facts.z_repr (F : Facts w K mg) : mg "repr" = none := by obtain ⟨h, X, G⟩ := F.at_; exact He.free_ok X G (F.s.t.d.fact 90 rfl)
theorem Facts.z_abs (F : Facts w K mg) : mg "abs" = none := by obtain ⟨h, X, G⟩ := F.at_; exact He.free_ok X G (F.s.t.d.fact 91 rfl)
theorem Facts.z_ord (F : Facts w K mg) : mg "ord" = none := by obtain ⟨h, X, G⟩ := F.at_; exact He.free_ok X G (F.s.t.d.fact 92 rfl)
theorem Facts.z_super (F : Facts w K mg) : mg "super" = none := by obtain ⟨h, X, G⟩ := F.at_; exact He.free_ok X G (F.s.t.d.fact 93 rfl)
theorem Facts.z_ValueError (F : Facts w K mg) : mg "ValueError" = none := by obtain ⟨h, X, G⟩ := F.at_; exact He.free_ok X G (F.s.t.d.fact 94 rfl)
theorem Facts.z_bool (F : Facts w K mg) : mg "bool" = none := by obtain ⟨h, X, G⟩ := F.at_; exact He.free_ok X G (F.s.t.d.fact 95 rfl)
theorem Facts.f_is_sign (F : Facts w K mg) : ∃ fd, FnP K "is_sign" sIsSign (He.ga K "is_sign") fd := F.s.t.d.def_ 0 rfl
theorem Facts.f_split (F : Facts w K mg) : ∃ fd, FnP K "split" sSplit (He.ga K "split") fd := F.s.t.d.def_ 1 rfl
theorem Facts.f_read_forms (F : Facts w K mg) : ∃ fd, FnP K "read_forms" sReadForms (He.ga K "read_forms") fd := F.s.t.d.def_ 2 rfl
theorem Facts.f_is_word (F : Facts w K mg) : ∃ fd, FnP K "is_word" sIsWord (He.ga K "is_word") fd := F.s.t.d.def_ 3 rfl
theorem Facts.f_word_of (F : Facts w K mg) : ∃ fd, FnP K "word_of" sWordOf (He.ga K "word_of") fd := F.s.t.d.def_ 4 rfl
theorem Facts.f_parts_of_form (F : Facts w K mg) : ∃ fd, FnP K "parts_of_form" sPartsOfForm (He.ga K "parts_of_form") fd := F.s.t.d.def_ 5 rfl
theorem Facts.f_is_name (F : Facts w K mg) : ∃ fd, FnP K "is_name" sIsName (He.ga K "is_name") fd := F.s.t.d.def_ 6 rfl
theorem Facts.f_is_numeral (F : Facts w K mg) : ∃ fd, FnP K "is_numeral" sIsNumeral (He.ga K "is_numeral") fd := F.s.t.d.def_ 7 rfl
theorem Facts.f_name_of (F : Facts w K mg) : ∃ fd, FnP K "name_of" sNameOf (He.ga K "name_of") fd := F.s.t.d.def_ 8 rfl
theorem Facts.f_numeral_of (F : Facts w K mg) : ∃ fd, FnP K "numeral_of" sNumeralOf (He.ga K "numeral_of") fd := F.s.t.d.def_ 9 rfl
theorem Facts.f_head_of (F : Facts w K mg) : ∃ fd, FnP K "head_of" sHeadOf (He.ga K "head_of") fd := F.s.t.d.def_ 10 rfl
theorem Facts.f_counted (F : Facts w K mg) : ∃ fd, FnP K "counted" sCounted (He.ga K "counted") fd := F.s.t.d.def_ 11 rfl
theorem Facts.f_read_index (F : Facts w K mg) : ∃ fd, FnP K "read_index" sReadIndex (He.ga K "read_index") fd := F.s.t.d.def_ 12 rfl
theorem Facts.f_read_place (F : Facts w K mg) : ∃ fd, FnP K "read_place" sReadPlace (He.ga K "read_place") fd := F.s.t.d.def_ 13 rfl
theorem Facts.f_read_expression (F : Facts w K mg) : ∃ fd, FnP K "read_expression" sReadExpression (He.ga K "read_expression") fd := F.s.t.d.def_ 14 rfl
theorem Facts.f_read_test (F : Facts w K mg) : ∃ fd, FnP K "read_test" sReadTest (He.ga K "read_test") fd := F.s.t.d.def_ 15 rfl
theorem Facts.f_read_body (F : Facts w K mg) : ∃ fd, FnP K "read_body" sReadBody (He.ga K "read_body") fd := F.s.t.d.def_ 16 rfl
theorem Facts.f_read_call (F : Facts w K mg) : ∃ fd, FnP K "read_call" sReadCall (He.ga K "read_call") fd := F.s.t.d.def_ 17 rfl
theorem Facts.f_read_statement (F : Facts w K mg) : ∃ fd, FnP K "read_statement" sReadStatement (He.ga K "read_statement") fd := F.s.t.d.def_ 18 rfl
theorem Facts.f_read_variable (F : Facts w K mg) : ∃ fd, FnP K "read_variable" sReadVariable (He.ga K "read_variable") fd := F.s.t.d.def_ 19 rfl
theorem Facts.f_read_procedure (F : Facts w K mg) : ∃ fd, FnP K "read_procedure" sReadProcedure (He.ga K "read_procedure") fd := F.s.t.d.def_ 20 rfl
theorem Facts.f_read_declaration (F : Facts w K mg) : ∃ fd, FnP K "read_declaration" sReadDeclaration (He.ga K "read_declaration") fd := F.s.t.d.def_ 21 rfl
theorem Facts.f_read_tree (F : Facts w K mg) : ∃ fd, FnP K "read_tree" sReadTree (He.ga K "read_tree") fd := F.s.t.d.def_ 22 rfl
theorem Facts.f_read_program (F : Facts w K mg) : ∃ fd, FnP K "read_program" sReadProgram (He.ga K "read_program") fd := F.s.t.d.def_ 23 rfl
theorem Facts.f__law_draws (F : Facts w K mg) : ∃ fd, FnP K "_law_draws" sLawDraws (He.ga K "_law_draws") fd := F.s.t.d.def_ 24 rfl
theorem Facts.f__law_take (F : Facts w K mg) : ∃ fd, FnP K "_law_take" sLawTake (He.ga K "_law_take") fd := F.s.t.d.def_ 25 rfl
theorem Facts.f__law_number (F : Facts w K mg) : ∃ fd, FnP K "_law_number" sLawNumber (He.ga K "_law_number") fd := F.s.t.d.def_ 26 rfl
theorem Facts.f__law_index (F : Facts w K mg) : ∃ fd, FnP K "_law_index" sLawIndex (He.ga K "_law_index") fd := F.s.t.d.def_ 27 rfl
theorem Facts.f__law_place (F : Facts w K mg) : ∃ fd, FnP K "_law_place" sLawPlace (He.ga K "_law_place") fd := F.s.t.d.def_ 28 rfl
theorem Facts.f__law_expression (F : Facts w K mg) : ∃ fd, FnP K "_law_expression" sLawExpression (He.ga K "_law_expression") fd := F.s.t.d.def_ 29 rfl
theorem Facts.f__law_test (F : Facts w K mg) : ∃ fd, FnP K "_law_test" sLawTest (He.ga K "_law_test") fd := F.s.t.d.def_ 30 rfl
theorem Facts.f__law_call (F : Facts w K mg) : ∃ fd, FnP K "_law_call" sLawCall (He.ga K "_law_call") fd := F.s.t.d.def_ 31 rfl
theorem Facts.f__law_body (F : Facts w K mg) : ∃ fd, FnP K "_law_body" sLawBody (He.ga K "_law_body") fd := F.s.t.d.def_ 32 rfl
theorem Facts.f__law_statement (F : Facts w K mg) : ∃ fd, FnP K "_law_statement" sLawStatement (He.ga K "_law_statement") fd := F.s.t.d.def_ 33 rfl
theorem Facts.f__law_tree (F : Facts w K mg) : ∃ fd, FnP K "_law_tree" sLawTree (He.ga K "_law_tree") fd := F.s.t.d.def_ 34 rfl
theorem Facts.f__law_index_text (F : Facts w K mg) : ∃ fd, FnP K "_law_index_text" sLawIndexText (He.ga K "_law_index_text") fd := F.s.t.d.def_ 35 rfl
theorem Facts.f__law_place_text (F : Facts w K mg) : ∃ fd, FnP K "_law_place_text" sLawPlaceText (He.ga K "_law_place_text") fd := F.s.t.d.def_ 36 rfl
theorem Facts.f__law_expression_text (F : Facts w K mg) : ∃ fd, FnP K "_law_expression_text" sLawExpressionText (He.ga K "_law_expression_text") fd := F.s.t.d.def_ 37 rfl
theorem Facts.f__law_test_text (F : Facts w K mg) : ∃ fd, FnP K "_law_test_text" sLawTestText (He.ga K "_law_test_text") fd := F.s.t.d.def_ 38 rfl
theorem Facts.f__law_body_text (F : Facts w K mg) : ∃ fd, FnP K "_law_body_text" sLawBodyText (He.ga K "_law_body_text") fd := F.s.t.d.def_ 39 rfl
theorem Facts.f__law_statement_text (F : Facts w K mg) : ∃ fd, FnP K "_law_statement_text" sLawStatementText (He.ga K "_law_statement_text") fd := F.s.t.d.def_ 40 rfl
theorem Facts.f__law_variable_text (F : Facts w K mg) : ∃ fd, FnP K "_law_variable_text" sLawVariableText (He.ga K "_law_variable_text") fd := F.s.t.d.def_ 41 rfl
theorem Facts.f__law_words (F : Facts w K mg) : ∃ fd, FnP K "_law_words" sLawWords (He.ga K "_law_words") fd := F.s.t.d.def_ 42 rfl
theorem Facts.f__law_line (F : Facts w K mg) : ∃ fd, FnP K "_law_line" sLawLine (He.ga K "_law_line") fd := F.s.t.d.def_ 43 rfl
theorem Facts.f__law_name (F : Facts w K mg) : ∃ fd, FnP K "_law_name" sLawName (He.ga K "_law_name") fd := F.s.t.d.def_ 44 rfl
theorem Facts.f__law_valued (F : Facts w K mg) : ∃ fd, FnP K "_law_valued" sLawValued (He.ga K "_law_valued") fd := F.s.t.d.def_ 45 rfl
theorem Facts.f__law_fail (F : Facts w K mg) : ∃ fd, FnP K "_law_fail" sLawFail (He.ga K "_law_fail") fd := F.s.t.d.def_ 46 rfl
theorem Facts.f__law_forms (F : Facts w K mg) : ∃ fd, FnP K "_law_forms" sLawForms (He.ga K "_law_forms") fd := F.s.t.d.def_ 47 rfl
theorem Facts.f__law_word (F : Facts w K mg) : ∃ fd, FnP K "_law_word" sLawWord (He.ga K "_law_word") fd := F.s.t.d.def_ 48 rfl
theorem Facts.f__law_named (F : Facts w K mg) : ∃ fd, FnP K "_law_named" sLawNamed (He.ga K "_law_named") fd := F.s.t.d.def_ 49 rfl
theorem Facts.f__law_list (F : Facts w K mg) : ∃ fd, FnP K "_law_list" sLawList (He.ga K "_law_list") fd := F.s.t.d.def_ 50 rfl
theorem Facts.f__law_first (F : Facts w K mg) : ∃ fd, FnP K "_law_first" sLawFirst (He.ga K "_law_first") fd := F.s.t.d.def_ 51 rfl
theorem Facts.f__law_read_index (F : Facts w K mg) : ∃ fd, FnP K "_law_read_index" sLawReadIndex (He.ga K "_law_read_index") fd := F.s.t.d.def_ 52 rfl
theorem Facts.f__law_read_place (F : Facts w K mg) : ∃ fd, FnP K "_law_read_place" sLawReadPlace (He.ga K "_law_read_place") fd := F.s.t.d.def_ 53 rfl
theorem Facts.f__law_read_expression (F : Facts w K mg) : ∃ fd, FnP K "_law_read_expression" sLawReadExpression (He.ga K "_law_read_expression") fd := F.s.t.d.def_ 54 rfl
theorem Facts.f__law_read_test (F : Facts w K mg) : ∃ fd, FnP K "_law_read_test" sLawReadTest (He.ga K "_law_read_test") fd := F.s.t.d.def_ 55 rfl
theorem Facts.f__law_read_body (F : Facts w K mg) : ∃ fd, FnP K "_law_read_body" sLawReadBody (He.ga K "_law_read_body") fd := F.s.t.d.def_ 56 rfl
theorem Facts.f__law_read_statement (F : Facts w K mg) : ∃ fd, FnP K "_law_read_statement" sLawReadStatement (He.ga K "_law_read_statement") fd := F.s.t.d.def_ 57 rfl
theorem Facts.f__law_read_variable (F : Facts w K mg) : ∃ fd, FnP K "_law_read_variable" sLawReadVariable (He.ga K "_law_read_variable") fd := F.s.t.d.def_ 58 rfl
theorem Facts.f__law_read_procedure (F : Facts w K mg) : ∃ fd, FnP K "_law_read_procedure" sLawReadProcedure (He.ga K "_law_read_procedure") fd := F.s.t.d.def_ 59 rfl
theorem Facts.f__law_read (F : Facts w K mg) : ∃ fd, FnP K "_law_read" sLawRead (He.ga K "_law_read") fd := F.s.t.d.def_ 60 rfl
theorem Facts.f__law_changed (F : Facts w K mg) : ∃ fd, FnP K "_law_changed" sLawChanged (He.ga K "_law_changed") fd := F.s.t.d.def_ 61 rfl
theorem Facts.f__law_text (F : Facts w K mg) : ∃ fd, FnP K "_law_text" sLawText (He.ga K "_law_text") fd := F.s.t.d.def_ 62 rfl
theorem Facts.f_law (F : Facts w K mg) : ∃ fd, FnP K "law" sLaw (He.ga K "law") fd := F.s.t.d.def_ 63 rfl
theorem Facts.ex_ (F : Facts w K mg) (i : Nat) (h : i < 34 := by decide) : (exL K).getD i false = true := by
  have e : (exL K).all id = true := F.s.more
  have z : i < (exL K).length := h
  have q : (exL K)[i]? = some ((exL K)[i]) := List.getElem?_eq_getElem z
  have y := List.all_eq_true.mp e _ (List.mem_of_getElem? q)
  rw [List.getD_eq_getElem?_getD, q]
  exact y
theorem Facts.u_RESERVED (F : Facts w K mg) (H : Hp) : SqT K H (He.ga K "RESERVED") (vReserved.map (He.Dv.v K)) := He.tupB_ok (F.ex_ 0) H
theorem Facts.u_EXPRESSIONS (F : Facts w K mg) (H : Hp) : SqT K H (He.ga K "EXPRESSIONS") (vExpressions.map (He.Dv.v K)) := He.tupB_ok (F.ex_ 1) H
theorem Facts.u_INDEXES (F : Facts w K mg) (H : Hp) : SqT K H (He.ga K "INDEXES") (vIndexes.map (He.Dv.v K)) := He.tupB_ok (F.ex_ 2) H
theorem Facts.u_ORDER (F : Facts w K mg) (H : Hp) : SqT K H (He.ga K "ORDER") (vOrder.map (He.Dv.v K)) := He.tupB_ok (F.ex_ 3) H
def exNames : List String := ["0", "1", "2"]
end
end K10
set_option maxHeartbeats 4000000
/-! K10Kit: TextError's facts, COUNTS, frames, nodes in the heap, what a reader owes. -/
namespace K10
open PySem PySem.Spec PyProof.Rows L2
section
variable {w : World} {K : PySem.W.Frag} {mg : Str → Option Value}
theorem clsB_ok {C : Addr} (h : clsB K C = true) : ∃ nm q N bs bm sn sub ab col dd k0 k1 k2 k3 k5, K.lookup C = some (excClassObj nm q C N bs bm true sn sub ab col dd k0 k1 k2 k3 k5 "ValueError.__new__") ∧ PySem.HandSPX.refsVE bm = true := by
  unfold clsB at h
  split at h
  · rename_i dd cd sl hl
    split at h
    · rename_i C' bm k0 k1 k2 k3 n k5 hm hs
      simp only [Bool.and_eq_true, Bool.not_eq_true', beq_iff_eq] at h
      obtain ⟨⟨⟨h1, h2⟩, h3⟩, h4, h5⟩ := h
      obtain ⟨nm, bs, mr, ns, q, hd, sn, sub, ab, col, hdel⟩ := cd
      simp only at hm h3 h4
      subst h1 h2 h3 h4
      refine ⟨nm, q, ns, bs, bm, sn, sub, ab, col, dd, k0, k1, k2, k3, k5, ?_, h5⟩
      rw [hl, hm]
      have e : sl = #[k0, k1, k2, k3, some (.builtin "ValueError.__new__"), k5] := by
        apply Array.ext'
        rw [hs]
      rw [e]
    · cases h
  · cases h
theorem iniB_ok {C fI : Addr} {qn file : Str} (h : iniB K C fI qn file = true) (hi : fnI K fI = valI) : ∃ (oc : Value) (od : Option Addr) (kV doc pm : Value) (an : Option Addr) (ct : Value) (osl : Array (Option Value)) (cc cda : Addr) (ccl : Value) (cdd : Option Addr) (vs : Array Value) (ccs : Array (Option Value)) (tf : Tok) (cl : Value) (cld : Option Addr) (csl : Array (Option Value)),
    K.lookup fI = some ⟨oc, od, .func (PySem.W.fnX "__init__" "TextError.__init__" (L2.defArgs K10.sInit) (L2.defBody K10.sInit) (L2.defScope K10.sInit) [("__class__", cc)] .none kV doc pm an (.ref cda) ct), osl⟩ ∧
    PySem.W.codeIn K (.ref cda) qn = true ∧ K.lookup cda = some ⟨ccl, cdd, .fields vs, ccs⟩ ∧ vs[2]? = some (.str file tf) ∧ K.lookup cc = some ⟨cl, cld, .cell (some (.ref C)), csl⟩ := by
  unfold iniB at h
  unfold fnI at hi
  split at h
  · rename_i oc od fd osl hl
    rw [hl] at hi
    split at h
    · rename_i x cc cda e1 e2 e3
      simp only [Bool.and_eq_true, decide_eq_true_eq] at h
      obtain ⟨hx, hcc, hcd, hq⟩ := h
      split at hcc
      · rename_i cl cld D csl hcl
        split at hcd
        · rename_i ccl cdd vs ccs hk
          split at hcd
          · rename_i f tf hv
            simp only [decide_eq_true_eq] at hcd
            simp only [beq_iff_eq] at hcc
            subst hcd hcc hx
            obtain ⟨f1, f2, f3, f4, f5, f6, f7, f8, f9, f10, f11, f12, f13, f14, f15⟩ := fd
            simp only at e1 e2 e3 hi
            have hi := Option.some.inj hi
            simp only [Prod.mk.injEq] at hi
            obtain ⟨i1, i2, i3, i4, i5, i6, i7⟩ := hi
            subst e1 e2 e3 i1 i2 i3 i4 i5 i6 i7
            exact ⟨_, _, _, _, _, _, _, _, cc, cda, _, _, vs, _, tf, _, _, _, hl, hq, hk, hv, hcl⟩
          · cases hcd
        · cases hcd
      · cases hcc
    · cases h
  · cases h
theorem Facts.tx (F : Facts w K mg) : PySem.TxX.TxtT K mg (tC K) (tI K) where
  gC := F.g_TextError
  cls := clsB_ok (F.ex_ 9)
  sa := of_decide_eq_true (F.ex_ 10)
  ga := of_decide_eq_true (F.ex_ 11)
  gg := of_decide_eq_true (F.ex_ 12)
  noN := of_decide_eq_true (F.ex_ 13)
  iC := of_decide_eq_true (F.ex_ 14)
  tC := of_decide_eq_true (F.ex_ 15)
  kC := F.ex_ 16
  exC := of_decide_eq_true (F.ex_ 17)
  tyC := of_decide_eq_true (F.ex_ 18)
  hdC := F.ex_ 19
  fn := iniB_ok (F.ex_ 28) F.s.ini
  sup := of_decide_eq_true (F.ex_ 30)
  subVE := of_decide_eq_true (F.ex_ 31)
  mroC := of_decide_eq_true (F.ex_ 29)
  opq := of_decide_eq_true (F.ex_ 32)
  gs := F.z_super
theorem Facts.xf (F : Facts w K mg) : XfC K (tC K) := ⟨of_decide_eq_true (F.ex_ 11), of_decide_eq_true (F.ex_ 12), of_decide_eq_true (F.ex_ 17), F.ex_ 19⟩
theorem Facts.xc (F : Facts w K mg) : ExcC K (tC K) := ⟨of_decide_eq_true (F.ex_ 11), of_decide_eq_true (F.ex_ 12), of_decide_eq_true (F.ex_ 17), F.ex_ 19, of_decide_eq_true (F.ex_ 21), of_decide_eq_true (F.ex_ 22), of_decide_eq_true (F.ex_ 23), of_decide_eq_true (F.ex_ 24)⟩
/-! ### COUNTS -/
theorem ns_absent {P : Params} {z : Str} : ∀ {l : List DictEntry} {ks : List Str}, l.map He.keyOf = He.keysIn P ks → z ∉ ks → l.find? (·.key.isStr z) = none ∧ l.any (·.refKey) = false
  | [], _, _, _ => ⟨rfl, rfl⟩
  | e :: r, [], h, _ => by cases h
  | e :: r, k :: ks, h, n => by
    have h1 : He.keyOf e :: r.map He.keyOf = some (k, PyData.keyHash P k) :: He.keysIn P ks := h
    injection h1 with h2 h3
    obtain ⟨a, b⟩ := ns_absent h3 (fun q => n (List.mem_cons_of_mem _ q))
    unfold He.keyOf at h2
    split at h2
    · rename_i x t q
      obtain ⟨h5, h6⟩ := Prod.mk.inj (Option.some.inj h2)
      have e1 : e.key.isStr z = false := by
        rw [q, h5]
        have ne : k ≠ z := fun y => n (by rw [← y]; exact List.mem_cons_self)
        rw [PySem.W.isStr_of]
        simpa [Value.isStrOf] using ne
      have e2 : e.refKey = false := by
        unfold DictEntry.refKey
        rw [q]
      refine ⟨?_, ?_⟩
      · rw [List.find?_cons, e1]; exact a
      · rw [List.any_cons, e2, b]; rfl
    · cases h2
def cntKeys : List Str := ["set", "loop", "if", "call", "let"]
theorem Facts.kd (F : Facts w K mg) : ∃ es n, KDict K w (He.ga K "COUNTS") es n := F.s.t.tab 0 rfl
theorem Facts.cnt_not (F : Facts w K mg) {z : Str} (n : z ∉ cntKeys) : PySem.W.nsIn K (He.ga K "COUNTS") z = some none := by
  have c := F.s.t
  have e : tabs.map (fun t => He.dicW K (t.1 K)) = tabs.map fun t => some (He.keysIn w.params t.2) := congrArg (fun z : He.AlT => z.2) c
  have e1 : He.dicW K (He.ga K "COUNTS") = some (He.keysIn w.params cntKeys) := (List.cons.inj e).1
  unfold He.dicW at e1
  split at e1
  · rename_i c es k sl hl
    split at e1
    · have e2 := Option.some.inj e1
      obtain ⟨a, b⟩ := ns_absent e2 n
      unfold PySem.W.nsIn
      rw [hl]
      simp only [a, b]
      rfl
    · cases e1
  · cases e1
theorem cntB_ok {k : Str} {lo hi : Int} (F : Facts w K mg) (h : cntB K k lo hi = true) : ∃ a u, PySem.W.nsIn K (He.ga K "COUNTS") k = some (some u) ∧ KDct K w (He.ga K "COUNTS") k (.ref a) ∧ ∀ H, SqT K H a [.int lo, .int hi] := by
  obtain ⟨es, n, D⟩ := F.kd
  unfold cntB at h
  split at h
  · rename_i a hn
    split at h
    · rename_i c od its m sl hl
      simp only [Bool.and_eq_true, decide_eq_true_eq] at h
      obtain ⟨rfl, hz, hr⟩ := h
      exact ⟨a, _, hn, ⟨es, n, _, D.at_, D.lit, hn, rfl⟩, fun H => .inr ⟨_, its, m, hl, rfl, rfl, hz, He.relAll_ok hr⟩⟩
    · cases h
  · cases h
end
/-! ### frames: all but dicts stays -/
def Fr (H H' : Hp) : Prop := ∀ b o, (∀ kvs, o ≠ .dK kvs) → H b = some o → H' b = some o
theorem Fr.refl (H : Hp) : Fr H H := fun _ _ _ h => h
theorem Fr.trans {H H1 H2 : Hp} (a : Fr H H1) (b : Fr H1 H2) : Fr H H2 := fun c o n h => b c o n (a c o n h)
theorem frS {H H' : Hp} (a : Same H H') : Fr H H' := fun c o _ h => a c o h
theorem Fr.lst {H H' : Hp} (e : Fr H H') {a : Addr} {xs : List V} (h : H a = some (.lst xs)) : H' a = some (.lst xs) := e _ _ (fun _ q => nomatch q) h
theorem Fr.tup {H H' : Hp} (e : Fr H H') {a : Addr} {xs : List V} (h : H a = some (.tup xs)) : H' a = some (.tup xs) := e _ _ (fun _ q => nomatch q) h
theorem Fr.sqT {K : PySem.W.Frag} {H H' : Hp} {a : Addr} {xs : List V} (e : Fr H H') (h : SqT K H a xs) : SqT K H' a xs := by
  rcases h with (h | ⟨o, h⟩) | h
  · exact .inl (.inl (e.tup h))
  · exact .inl (.inr ⟨o, e _ _ (fun _ q => nomatch q) h⟩)
  · exact .inr h
theorem Fr.sqL {K : PySem.W.Frag} {H H' : Hp} {a : Addr} {xs : List V} (e : Fr H H') (h : SqL K H a xs) : SqL K H' a xs := by
  rcases h with (h | ⟨o, h⟩) | h
  · exact .inl (.inl (e.lst h))
  · exact .inl (.inr ⟨o, e _ _ (fun _ q => nomatch q) h⟩)
  · exact .inr h
theorem sameNew {H : Hp} {p : Addr} {o : HO} (n : H p = none) : Same H (upd H p o) := fun b o' h => by
  rw [upd_ne (ne_of_none h n)]; exact h
theorem Fr.new {H : Hp} {p : Addr} {o : HO} (n : H p = none) : Fr H (upd H p o) := frS (sameNew n)
theorem Fr.dict {H : Hp} {p : Addr} {o : HO} {kvs : List (Key × V)} (n : H p = some (.dK kvs)) : Fr H (upd H p o) := fun b o' hn h => by
  have ne : b ≠ p := fun q => by subst q; rw [n] at h; cases h; exact hn _ rfl
  rw [upd_ne ne]; exact h
/-! ### data without lists, in tuples that are tracked -/
mutual
inductive Tv (H : Hp) : V → PyData → Prop
  | non : Tv H .non .none
  | int (i : Int) : Tv H (.int i) (.int i)
  | str (x : Str) : Tv H (.str x) (.str x)
  | tup {a : Addr} {xs : List V} {ds : List PyData} : H a = some (.tup xs) → TvAll H xs ds → Tv H (.ref a) (.tuple ds)
inductive TvAll (H : Hp) : List V → List PyData → Prop
  | nil : TvAll H [] []
  | cons {v : V} {vs : List V} {d : PyData} {ds : List PyData} : Tv H v d → TvAll H vs ds → TvAll H (v :: vs) (d :: ds)
end
/-- tuples stay -/
def Ft (H H' : Hp) : Prop := ∀ b xs, H b = some (.tup xs) → H' b = some (.tup xs)
theorem Fr.ft {H H' : Hp} (e : Fr H H') : Ft H H' := fun b xs h => e.tup h
theorem Ft.upd {H : Hp} {D : Addr} {o u : HO} (h : H D = some o) (n : ∀ xs, o ≠ .tup xs) : Ft H (upd H D u) := fun b xs hb => by
  have ne : b ≠ D := fun q => by subst q; rw [h] at hb; cases hb; exact n _ rfl
  rw [upd_ne ne]; exact hb
mutual
theorem Tv.ft {H H' : Hp} (e : Ft H H') : ∀ (d : PyData) (v : V), Tv H v d → Tv H' v d
  | .none, _, h => by cases h; exact .non
  | .bool b, _, h => by cases h
  | .int i, _, h => by cases h; exact .int i
  | .str s, _, h => by cases h; exact .str s
  | .list ds, _, h => by cases h
  | .tuple ds, _, h => by
    cases h with
    | tup hs ha => exact .tup (e _ _ hs) (TvAll.ft e ds _ ha)
  | .dict _, _, h => by cases h
theorem TvAll.ft {H H' : Hp} (e : Ft H H') : ∀ (ds : List PyData) (vs : List V), TvAll H vs ds → TvAll H' vs ds
  | [], _, h => by cases h; exact .nil
  | d :: ds, _, h => by
    cases h with
    | cons h1 h2 => exact .cons (Tv.ft e d _ h1) (TvAll.ft e ds _ h2)
end
theorem Tv.fr {H H' : Hp} (e : Fr H H') (d : PyData) (v : V) (h : Tv H v d) : Tv H' v d := Tv.ft e.ft d v h
theorem TvAll.fr {H H' : Hp} (e : Fr H H') (ds : List PyData) (vs : List V) (h : TvAll H vs ds) : TvAll H' vs ds := TvAll.ft e.ft ds vs h
mutual
theorem Tv.dp {K : PySem.W.Frag} {H : Hp} : ∀ (d : PyData) (v : V), Tv H v d → Dp K H v d
  | .none, _, h => by cases h; exact .non
  | .bool b, _, h => by cases h
  | .int i, _, h => by cases h; exact .int i
  | .str s, _, h => by cases h; exact .str s
  | .list ds, _, h => by cases h
  | .tuple ds, _, h => by
    cases h with
    | tup hs ha => exact .tup (SqT.of hs) (TvAll.dp ds _ ha)
  | .dict _, _, h => by cases h
theorem TvAll.dp {K : PySem.W.Frag} {H : Hp} : ∀ (ds : List PyData) (vs : List V), TvAll H vs ds → DpAll K H vs ds
  | [], _, h => by cases h; exact .nil
  | d :: ds, _, h => by
    cases h with
    | cons h1 h2 => exact .cons (Tv.dp d _ h1) (TvAll.dp ds _ h2)
end
theorem TvAll.append {H : Hp} : ∀ {ds es : List PyData} {vs us : List V}, TvAll H vs ds → TvAll H us es → TvAll H (vs ++ us) (ds ++ es)
  | _, _, _, _, .nil, h => h
  | _, _, _, _, .cons a b, h => .cons a (TvAll.append b h)
/-! ### nodes in the heap -/
mutual
def nd (H : Hp) : V → Node → Prop
  | v, .word w i => ∃ a, v = .ref a ∧ H a = some (.tup [.str w, .int i])
  | v, .form ps i => ∃ a l vs, v = .ref a ∧ H a = some (.tup [.ref l, .int i]) ∧ H l = some (.lst vs) ∧ nds H vs ps
def nds (H : Hp) : List V → List Node → Prop
  | vs, [] => vs = []
  | vs, n :: r => ∃ v vr, vs = v :: vr ∧ nd H v n ∧ nds H vr r
end
mutual
theorem nd.fr {H H' : Hp} (e : Fr H H') : ∀ (n : Node) (v : V), nd H v n → nd H' v n
  | .word w i, v, h => by
    obtain ⟨a, rfl, h⟩ := h
    exact ⟨a, rfl, e.tup h⟩
  | .form ps i, v, h => by
    obtain ⟨a, l, vs, rfl, h1, h2, h3⟩ := h
    exact ⟨a, l, vs, rfl, e.tup h1, e.lst h2, nds.fr e ps vs h3⟩
theorem nds.fr {H H' : Hp} (e : Fr H H') : ∀ (ps : List Node) (vs : List V), nds H vs ps → nds H' vs ps
  | [], vs, h => h
  | n :: r, vs, h => by
    obtain ⟨v, vr, rfl, h1, h2⟩ := h
    exact ⟨v, vr, rfl, nd.fr e n v h1, nds.fr e r vr h2⟩
end
theorem nds.length {H : Hp} : ∀ {ps : List Node} {vs : List V}, nds H vs ps → vs.length = ps.length
  | [], vs, h => by rw [show vs = [] from h]; rfl
  | n :: r, vs, h => by
    obtain ⟨v, vr, rfl, h1, h2⟩ := h
    simp [nds.length h2]
theorem nds.get {H : Hp} : ∀ {ps : List Node} {vs : List V} {i : Nat} {n : Node}, nds H vs ps → ps[i]? = some n → ∃ v, vs[i]? = some v ∧ nd H v n
  | [], vs, i, n, h, e => by simp at e
  | m :: r, vs, 0, n, h, e => by
    obtain ⟨v, vr, rfl, h1, h2⟩ := h
    simp at e; subst e
    exact ⟨v, rfl, h1⟩
  | m :: r, vs, i + 1, n, h, e => by
    obtain ⟨v, vr, rfl, h1, h2⟩ := h
    obtain ⟨u, e1, e2⟩ := nds.get (ps := r) (i := i) (n := n) h2 (by simpa using e)
    exact ⟨u, by simpa using e1, e2⟩
theorem nds.append {H : Hp} : ∀ {ps qs : List Node} {vs ws : List V}, nds H vs ps → nds H ws qs → nds H (vs ++ ws) (ps ++ qs)
  | [], qs, vs, ws, h, k => by rw [show vs = [] from h]; exact k
  | n :: r, qs, vs, ws, h, k => by
    obtain ⟨v, vr, rfl, h1, h2⟩ := h
    exact ⟨v, vr ++ ws, rfl, h1, nds.append h2 k⟩
theorem nds.drop {H : Hp} : ∀ (k : Nat) {ps : List Node} {vs : List V}, nds H vs ps → nds H (vs.drop k) (ps.drop k)
  | 0, ps, vs, h => by simpa using h
  | k + 1, [], vs, h => by rw [show vs = [] from h]; rfl
  | k + 1, n :: r, vs, h => by
    obtain ⟨v, vr, rfl, h1, h2⟩ := h
    exact nds.drop k h2
/-! ### what a reading part owes -/
def Post {α : Type} (r : Rd α) (ok : α → Prop) (er : Int → Prop) : Prop := match r with
  | .ok x => ok x
  | .error e => er e
theorem Post.bind {α β : Type} {r : Rd α} {f : α → Rd β} {ok : β → Prop} {er : Int → Prop} (h : Post (r >>= f) ok er) : Post r (fun x => Post (f x) ok er) er := by
  cases r with
  | ok x => exact h
  | error e => exact h
theorem Post.mono {α : Type} {r : Rd α} {ok ok' : α → Prop} {er er' : Int → Prop} (h : Post r ok er) (a : ∀ x, r = .ok x → ok x → ok' x) (b : ∀ e, r = .error e → er e → er' e) : Post r ok' er' := by
  cases r with
  | ok x => exact a x rfl h
  | error e => exact b e rfl h
/-- the error's way out -/
def Err (C : Addr) (E : XK) (H : Hp) (at_ : Int) : Prop := ∀ d H', Same H H' → H' d = some (.xd [(("at" : Str), .int at_)]) → E (.ref C) (some d) H'
theorem Err.same {C : Addr} {E : XK} {H H' : Hp} {at_ : Int} (h : Err C E H at_) (s : Same H H') : Err C E H' at_ := fun d H2 s2 q => h d H2 (s.trans s2) q
theorem Err.go {C : Addr} {E : XK} {H : Hp} {at_ : Int} (h : Err C E H at_) (d : Addr) (n : H d = none) : E (.ref C) (some d) (upd H d (.xd [(("at" : Str), .int at_)])) := h d _ (sameNew n) upd_same
structure Ok (n : Nat) (x : Node) : Prop where
  good : x.good
  wt : x.wt ≤ 6000
  dep : x.depth < n
/-- a reader of one node -/
def spRead (C : Addr) (n : Nat) (rd : Node → Rd PyData) : Sp := fun vs H Q E => ∃ v x, vs = [v] ∧ nd H v x ∧ Ok n x ∧
  Post (rd x) (fun d => ∀ v' H', Same H H' → Tv H' v' d → Q v' H') (Err C E H)
def spStr (C : Addr) (rd : Node → Rd Str) : Sp := fun vs H Q E => ∃ v x, vs = [v] ∧ nd H v x ∧ Post (rd x) (fun s => ∀ H', Same H H' → Q (.str s) H') (Err C E H)
def wordOf : Node → Rd Str
  | .word w _ => .ok w
  | .form _ i => .error i
def headOf : Node → Rd Str
  | .word _ i => .error i
  | .form [] i => .error i
  | .form (x :: _) _ => wordOf x
def spIsWord : Sp := fun vs H Q _ => ∃ v x, vs = [v] ∧ nd H v x ∧ Q (.bl (match x with | .word _ _ => true | .form _ _ => false)) H
def spIsName : Sp := fun vs H Q _ => ∃ w : Str, vs = [.str w] ∧ w.length ≤ sizeLine ∧ ∀ H', Same H H' → Q (.bl (isName w)) H'
def spIsNum : Sp := fun vs H Q _ => ∃ w : Str, vs = [.str w] ∧ w.length ≤ sizeLine ∧ ∀ H', Same H H' → Q (.bl (isNum w)) H'
def spNum (C : Addr) : Sp := fun vs H Q E => ∃ v x lo hi, vs = [v, .int lo, .int hi] ∧ nd H v x ∧ x.wt ≤ 6000 ∧ Post (numOf lo hi x) (fun n => ∀ H', Same H H' → Q (.int n) H') (Err C E H)
/-- the list of a form's parts -/
def partsSp (C : Addr) (lo hi : Int) (v : V) (x : Node) (H : Hp) (Q : VK) (E : XK) : Prop := nd H v x ∧ match x with
  | .word _ i => Err C E H i
  | .form ps i => if lo ≤ ps.length ∧ (ps.length : Int) ≤ hi then ∀ a l vs, v = .ref a → H a = some (.tup [.ref l, .int i]) → H l = some (.lst vs) → nds H vs ps → Q (.ref l) H else Err C E H i
def spParts (C : Addr) : Sp := fun vs H Q E => ∃ v x lo hi, vs = [v, .int lo, .int hi] ∧ partsSp C lo hi v x H Q E
def spCount (C : Addr) : Sp := fun vs H Q E => ∃ v x k, vs = [v, .int k] ∧ partsSp C k k v x H Q E
/-! ### small words for readings -/
theorem tkX {P : Program} {w : World} {K : PySem.W.Frag} {mg : Str → Option Value} {base : Heap} {N : List Str} {x : Str} {sc : Scope} {f : Addr} {cdv : Value} {A : Around} {outer : List Env} {s : Shared} {H : Hp} {E : XK} :
    Takes (cxOf (L2.CX P w) P w K mg base N x sc f cdv A outer s H E) (fun cls d _ H => E cls d H) := takes_of rfl rfl rfl rfl
theorem inV_str (w : Str) : ∀ l : List Str, inV (.str w) (l.map V.str) = decide (w ∈ l)
  | [] => rfl
  | a :: r => by
    have ih := inV_str w r
    unfold inV at ih ⊢
    rw [List.map_cons, List.any_cons, ih]
    show ((a == w) || decide (w ∈ r)) = _
    by_cases e : a = w
    · subst e; simp
    · have e1 : (a == w) = false := by simpa using e
      have e2 : ¬ w = a := fun z => e z.symm
      rw [e1]
      simp [e2]
theorem flat_str : ∀ l : List Str, (l.map V.str).all flatV = true
  | [] => rfl
  | a :: r => by rw [List.map_cons, List.all_cons, flat_str r]; rfl
theorem line_eq : sizeLine = 16777216 := sizeLine_eq
/-- [e for sign in text], e of the sign alone -/
theorem lc_signs {z : Str} {i : Nat} {te : TE} {vs : List Nat} {σ : L2.St} {H1 : Hp} {D : Addr} {Qd : Hp → Prop} (f : Nat → V) (hD : H1 D = none) (hz : z.length ≤ sizeLine) (ht : ∀ c H Q, c ∈ z.cps.toList → Q (f c) H → te ((wipe σ vs).set i (some (.str ⟨#[c]⟩))) H Q)
    (hd : Qd (upd H1 D (.lst (z.cps.toList.map f)))) (hw : ∀ c, wipe ((wipe σ vs).set i (some (.str ⟨#[c]⟩))) vs = wipe σ vs := by intro _; rfl) :
    ∃ W : Nat → Nat → Hp → Prop, (∃ m, W 0 m (upd H1 D (.lst []))) ∧ ∀ i' m H, W i' m H →
      ((Its z).stop i' H ∧ Qd H) ∨ ((Its z).go i' H ∧ ∃ Nx : Hp → Prop, (∀ H', Nx H' → ∃ m', m' < m ∧ W (i' + 1) m' H') ∧ ∀ x H', (Its z).yld i' H x H' → gName i x (wipe σ vs) H' fun σ2 H2 => wipe σ2 vs = wipe σ vs ∧ tYes σ2 H2 fun b H3 =>
        if b = true then te σ2 H3 fun y H4 => ∃ acc, H4 D = some (.lst acc) ∧ acc.length < sizeLine ∧ Nx (upd H4 D (.lst (acc ++ [y]))) else Nx H3) := by
  refine lc_it walk_str (fun j H => H = upd H1 D (.lst ((z.cps.toList.take j).map f))) rfl (fun _ _ _ _ => trivial) (fun j x H H' hj hH hY => ?_) (fun H hH => ?_)
  · obtain ⟨rfl, c, hc, rfl⟩ := hY
    subst hH
    refine ⟨hw c, ?_⟩
    show te _ _ _
    have hc' : z.cps.toList[j]? = some c := by rw [Array.getElem?_toList]; exact hc
    refine ht c _ _ (List.mem_of_getElem? hc') ⟨_, upd_same, ?_, ?_⟩
    · rw [List.length_map, List.length_take]
      have : z.length = z.cps.toList.length := by rw [Array.length_toList]; rfl
      have : z.cps.toList.length = z.cps.size := Array.length_toList
      omega
    · rw [upd_upd]
      congr 2
      rw [List.take_add_one, hc', List.map_append]
      rfl
  · subst hH
    have e : z.cps.toList.take z.cps.size = z.cps.toList := by
      rw [← Array.length_toList, List.take_length]
    rw [e]
    exact hd
theorem sign_eq (c k : Nat) : decide (V.str ⟨#[c]⟩ = V.str ⟨#[k]⟩) = decide (c = k) := by
  by_cases y : c = k
  · subst y; simp
  · rw [decide_eq_false y, decide_eq_false]
    intro h
    injection h with h
    injection h with h
    have := congrArg Array.toList h
    simp at this
    exact y this
theorem str_eq (a b : Str) : decide (V.str a = V.str b) = decide (a = b) := by
  by_cases y : a = b
  · subst y; simp
  · rw [decide_eq_false y, decide_eq_false]
    intro h
    injection h with h
    exact y h
theorem str_cons {z : Str} (h : 1 ≤ z.length) : ∃ c r, z.cps.toList = c :: r := by
  cases e : z.cps.toList with
  | nil =>
    have : z.cps.toList.length = z.length := Array.length_toList
    rw [e] at this
    simp at this
    omega
  | cons c r => exact ⟨c, r, rfl⟩
theorem s_0 : Str.ofString "0" = ⟨#[48]⟩ := by decide +kernel
theorem dp_tup {H : Hp} {p : Addr} {vs : List V} {ds : List PyData} (hp : H p = none) (h : TvAll H vs ds) : Tv (upd H p (.tup vs)) (.ref p) (.tuple ds) := .tup upd_same (TvAll.fr (Fr.new hp) ds vs h)
theorem l3 {n : Nat} (h : n ≤ 1000) : n ≤ sizeLine := Nat.le_of_lt (small1000 h)
theorem head_post {β : Type} {ws : List Str} {x : Node} {f : Str → Rd β} {ok : β → Prop} {er : Int → Prop} (q : Post (firstIn ws x >>= f) ok er) :
    Post (headOf x) (fun h => ∃ j r i, x = .form (.word h j :: r) i ∧ (h ∈ ws → Post (f h) ok er) ∧ (h ∉ ws → er j)) er := by
  cases x with
  | word w i => exact q
  | form ps i =>
    cases ps with
    | nil => exact q
    | cons y r =>
      cases y with
      | form qs j => exact q
      | word h j =>
        refine ⟨j, r, i, rfl, fun m => ?_, fun m => ?_⟩
        · simp only [firstIn, if_pos m] at q; exact q
        · simp only [firstIn, if_neg m] at q; exact q
theorem parts_post {β : Type} {C : Addr} {lo hi : Nat} {x : Node} {f : List Node → Rd β} {ok : β → Prop} {er : Int → Prop} {H : Hp} {v : V} {Q : VK} {E : XK} (q : Post (partsIn lo hi x >>= f) ok er) (hn : nd H v x)
    (a : ∀ ps i l vs a, x = .form ps i → v = .ref a → H a = some (.tup [.ref l, .int i]) → H l = some (.lst vs) → nds H vs ps → lo ≤ ps.length → ps.length ≤ hi → Post (f ps) ok er → Q (.ref l) H) (b : ∀ i, er i → Err C E H i) :
    partsSp C (lo : Nat) (hi : Nat) v x H Q E := by
  refine ⟨hn, ?_⟩
  cases x with
  | word w i => exact b i q
  | form ps i =>
    show (if ((lo : Nat) : Int) ≤ ((ps.length : Nat) : Int) ∧ ((ps.length : Nat) : Int) ≤ ((hi : Nat) : Int) then _ else _)
    by_cases z : lo ≤ ps.length ∧ ps.length ≤ hi
    · rw [if_pos (by omega)]
      simp only [partsIn, if_pos z] at q
      exact fun a1 l vs e h1 h2 h3 => a ps i l vs a1 rfl e h1 h2 h3 z.1 z.2 q
    · rw [if_neg (by omega)]
      simp only [partsIn, if_neg z] at q
      exact b i q
theorem Ok.part {n : Nat} {ps : List Node} {i : Int} {y : Node} (h : Ok (n + 1) (.form ps i)) (m : y ∈ ps) : Ok n y := by
  obtain ⟨g, w, d⟩ := h
  rw [Node.good] at g
  rw [Node.wt] at w
  rw [Node.depth] at d
  have := depth_mem m
  have := wt_mem m
  exact ⟨good_mem g.1 m, by omega, by omega⟩
theorem Ok.mono {n m : Nat} {y : Node} (h : Ok n y) (l : n ≤ m) : Ok m y := ⟨h.good, h.wt, by have := h.dep; omega⟩
theorem Ok.str {n : Nat} {w : Str} {i : Int} (h : Ok n (.word w i)) : w.length ≤ sizeLine := by
  have := h.wt
  rw [Node.wt] at this
  rw [line_eq]; omega
theorem nds3 {H : Hp} {vs : List V} {a b c : Node} (h : nds H vs [a, b, c]) : ∃ va vb vc, vs = [va, vb, vc] ∧ nd H va a ∧ nd H vb b ∧ nd H vc c := by
  obtain ⟨va, _, rfl, h1, vb, _, rfl, h2, vc, r, rfl, h3, rfl⟩ := h
  exact ⟨va, vb, vc, rfl, h1, h2, h3⟩
theorem nds2 {H : Hp} {vs : List V} {a b : Node} (h : nds H vs [a, b]) : ∃ va vb, vs = [va, vb] ∧ nd H va a ∧ nd H vb b := by
  obtain ⟨va, _, rfl, h1, vb, r, rfl, h2, rfl⟩ := h
  exact ⟨va, vb, rfl, h1, h2⟩
theorem len3 {ps : List Node} (a : 3 ≤ ps.length) (b : ps.length ≤ 3) : ∃ x y z, ps = [x, y, z] := by
  match ps with
  | [x, y, z] => exact ⟨x, y, z, rfl⟩
  | [] => simp at a
  | [_] => simp at a
  | [_, _] => simp at a
  | _ :: _ :: _ :: _ :: _ => simp at b
theorem len2 {ps : List Node} (a : 2 ≤ ps.length) (b : ps.length ≤ 2) : ∃ x y, ps = [x, y] := by
  match ps with
  | [x, y] => exact ⟨x, y, rfl⟩
  | [] => simp at a
  | [_] => simp at a
  | _ :: _ :: _ :: _ => simp at b
/-- part[0][0][1], its first part a word -/
theorem first_at {H : Hp} {v : V} {h : Str} {j i : Int} {r : List Node} (hn : nd H v (.form (.word h j :: r) i)) : ∃ a l u vr b, v = .ref a ∧ H a = some (.tup [.ref l, .int i]) ∧ H l = some (.lst (u :: vr)) ∧ u = .ref b ∧ H b = some (.tup [.str h, .int j]) := by
  obtain ⟨a, l, vs, rfl, h1, h2, u, vr, rfl, ⟨b, rfl, h3⟩, _⟩ := hn
  exact ⟨a, l, _, vr, b, rfl, h1, h2, rfl, h3⟩
/-- raise TextError(part[0][0][1]) -/
theorem raise_first {K : PySem.W.Frag} {C : Addr} {E : XK} {H : Hp} {σ : L2.St} {D : Ends} {v : V} {h : Str} {j i : Int} {r : List Node} (hs : σ[0]? = some (some v)) (hn : nd H v (.form (.word h j :: r) i)) (q : Err C E H j) :
    tRaiseT C (fun cls d _ H => E cls d H) (tCons (tOp (rIxT K) (tOp (rIxL K) (tOp (rIxT K) (tVar 0) (L2.tC (.int 0))) (L2.tC (.int 0))) (L2.tC (.int 1))) tNil) D σ H := by
  obtain ⟨a, l, u, vr, b, rfl, h1, h2, rfl, h3⟩ := first_at hn
  exact ⟨_, hs, _, _, _, _, rfl, rfl, SqT.of h1, rfl, _, _, 0, _, rfl, rfl, SqL.of h2, at_of (j := 0) rfl rfl, _, _, _, _, rfl, rfl, SqT.of h3, rfl, _, rfl, fun d hd => q.go d hd⟩
/-- raise TextError(part[1]) -/
theorem raise_at {K : PySem.W.Frag} {C : Addr} {E : XK} {H : Hp} {σ : L2.St} {D : Ends} {v : V} {x : Node} (hs : σ[0]? = some (some v)) (hn : nd H v x) (q : Err C E H x.at) :
    tRaiseT C (fun cls d _ H => E cls d H) (tCons (tOp (rIxT K) (tVar 0) (L2.tC (.int 1))) tNil) D σ H := by
  cases x with
  | word w i =>
    obtain ⟨a, rfl, ha⟩ := hn
    exact ⟨_, hs, _, _, _, _, rfl, rfl, SqT.of ha, rfl, _, rfl, fun d hd => Err.go (at_ := i) q d hd⟩
  | form ps i =>
    obtain ⟨a, l, vs, rfl, ha, _⟩ := hn
    exact ⟨_, hs, _, _, _, _, rfl, rfl, SqT.of ha, rfl, _, rfl, fun d hd => Err.go (at_ := i) q d hd⟩
/-- h not in T, T a tuple of words that is written -/
theorem not_in {K : PySem.W.Frag} {H : Hp} {σ : L2.St} {i : Nat} {h : Str} {p : Addr} {xs : List V} {l : List Str} {Q : Bool → Hp → Prop} (hs : σ[i]? = some (some (.str h))) (ht : SqT K H p xs) (e : xs = l.map V.str) (q : Q (!decide (h ∈ l)) H) :
    tTest (tOp (rIn K true) (tVar i) (L2.tC (.ref p))) σ H Q := by
  subst e
  exact ⟨_, hs, _, _, rfl, .inr ht, rfl, flat_str l, _, rfl, by rw [if_pos rfl, inV_str]; exact q⟩
end K10
/-! K10Prog1: words, names, numbers, heads, parts. Printed by expand.py from K10Prog1.tpl. -/
namespace K10
open PySem PySem.Spec PyProof.Rows L2
section
variable {P : Program} {w : World} {K : PySem.W.Frag} {mg : Str → Option Value} {base : Heap}
def nIsWord : List Str := ["part"]
def pIsWord : List Str := ["part"]
theorem scIsWord : FnScope nIsWord pIsWord (defScope sIsWord) := ⟨rfl, rfl, rfl, by decide +kernel, rfl, by decide +kernel, by decide +kernel⟩
theorem bIsWord : BindsBy "is_word" sIsWord pIsWord := fun _ _ _ _ _ _ us hl => match us, hl with | [_], _ => rfl
def nWordOf : List Str := ["part"]
def pWordOf : List Str := ["part"]
theorem scWordOf : FnScope nWordOf pWordOf (defScope sWordOf) := ⟨rfl, rfl, rfl, by decide +kernel, rfl, by decide +kernel, by decide +kernel⟩
theorem bWordOf : BindsBy "word_of" sWordOf pWordOf := fun _ _ _ _ _ _ us hl => match us, hl with | [_], _ => rfl
def nPartsOfForm : List Str := ["part", "low", "high"]
def pPartsOfForm : List Str := ["part", "low", "high"]
theorem scPartsOfForm : FnScope nPartsOfForm pPartsOfForm (defScope sPartsOfForm) := ⟨rfl, rfl, rfl, by decide +kernel, rfl, by decide +kernel, by decide +kernel⟩
theorem bPartsOfForm : BindsBy "parts_of_form" sPartsOfForm pPartsOfForm := fun _ _ _ _ _ _ us hl => match us, hl with | [_, _, _], _ => rfl
def nIsName : List Str := ["value", "sign"]
def pIsName : List Str := ["value"]
theorem scIsName : FnScope nIsName pIsName (defScope sIsName) := ⟨rfl, rfl, rfl, by decide +kernel, rfl, by decide +kernel, by decide +kernel⟩
theorem bIsName : BindsBy "is_name" sIsName pIsName := fun _ _ _ _ _ _ us hl => match us, hl with | [_], _ => rfl
def nIsNumeral : List Str := ["word", "sign"]
def pIsNumeral : List Str := ["word"]
theorem scIsNumeral : FnScope nIsNumeral pIsNumeral (defScope sIsNumeral) := ⟨rfl, rfl, rfl, by decide +kernel, rfl, by decide +kernel, by decide +kernel⟩
theorem bIsNumeral : BindsBy "is_numeral" sIsNumeral pIsNumeral := fun _ _ _ _ _ _ us hl => match us, hl with | [_], _ => rfl
def nNameOf : List Str := ["part", "word"]
def pNameOf : List Str := ["part"]
theorem scNameOf : FnScope nNameOf pNameOf (defScope sNameOf) := ⟨rfl, rfl, rfl, by decide +kernel, rfl, by decide +kernel, by decide +kernel⟩
theorem bNameOf : BindsBy "name_of" sNameOf pNameOf := fun _ _ _ _ _ _ us hl => match us, hl with | [_], _ => rfl
def nNumeralOf : List Str := ["part", "low", "high", "word"]
def pNumeralOf : List Str := ["part", "low", "high"]
theorem scNumeralOf : FnScope nNumeralOf pNumeralOf (defScope sNumeralOf) := ⟨rfl, rfl, rfl, by decide +kernel, rfl, by decide +kernel, by decide +kernel⟩
theorem bNumeralOf : BindsBy "numeral_of" sNumeralOf pNumeralOf := fun _ _ _ _ _ _ us hl => match us, hl with | [_, _, _], _ => rfl
def nHeadOf : List Str := ["part"]
def pHeadOf : List Str := ["part"]
theorem scHeadOf : FnScope nHeadOf pHeadOf (defScope sHeadOf) := ⟨rfl, rfl, rfl, by decide +kernel, rfl, by decide +kernel, by decide +kernel⟩
theorem bHeadOf : BindsBy "head_of" sHeadOf pHeadOf := fun _ _ _ _ _ _ us hl => match us, hl with | [_], _ => rfl
def nCounted : List Str := ["part", "count"]
def pCounted : List Str := ["part", "count"]
theorem scCounted : FnScope nCounted pCounted (defScope sCounted) := ⟨rfl, rfl, rfl, by decide +kernel, rfl, by decide +kernel, by decide +kernel⟩
theorem bCounted : BindsBy "counted" sCounted pCounted := fun _ _ _ _ _ _ us hl => match us, hl with | [_, _], _ => rfl
theorem has_is_word (F : Facts w K mg) : Has P w K mg base CX0 1 "is_word" pIsWord spIsWord :=
  has_0 F.g_is_word F.f_is_word scIsWord bIsWord (fun vs H Q E h => by obtain ⟨_, _, rfl, _⟩ := h; rfl) fun cdv A outer s H vs Q E hr h => by
  obtain ⟨v, x, rfl, hn, q⟩ := h
  refine ⟨_, (pss_one (ps_ret (pe_callB call_isi (by rfl) F.z_isinstance (by decide +kernel) (pa_cons (pe_ix ix_tup (pv 0) pe_int (fun _ _ => rfl)) (pa_cons (pe_bltn (v := .ty "str") (by rfl) F.z_str (by decide +kernel) rfl) pa_nil))))), ?_⟩
  cases x with
  | word w i =>
    obtain ⟨a, rfl, ha⟩ := hn
    exact ⟨_, rfl, _, _, _, _, rfl, rfl, SqT.of ha, rfl, _, _, _, _, true, rfl, .ty "str", .base (.str w), kit_ty (by decide +kernel), q⟩
  | form ps i =>
    obtain ⟨a, l, vs, rfl, ha, hl, _⟩ := hn
    exact ⟨_, rfl, _, _, _, _, rfl, rfl, SqT.of ha, rfl, _, _, _, _, false, rfl, .ty "str", .base (.lst hl), kit_ty (by decide +kernel), q⟩
theorem has_word_of (F : Facts w K mg) (PT : ProgT P) : Has P w K mg base (L2.CX P w) 2 "word_of" pWordOf (spStr (tC K) wordOf) := by
  have h_is_word := has_is_word (P := P) (base := base) F
  refine has_X F.g_word_of F.f_word_of scWordOf bWordOf (fun vs H Q E h => by obtain ⟨_, _, rfl, _⟩ := h; rfl) fun cdv A outer s H vs Q E hr h => ?_
  obtain ⟨v, x, rfl, hn, q⟩ := h
  refine ⟨_, (pss_cons (ps_if (pt_not (pt_val (pe_callH h_is_word hr (by omega) rfl pass0 (pa_cons (pv 0) pa_nil)))) (pss_one (ps_raiseT rfl PT F.tx hr tkX (pa_cons (pe_ix ix_tup (pv 0) pe_int (fun _ _ => rfl)) pa_nil)))
      pss_nil)
    (pss_one (ps_ret (pe_ix ix_tup (pv 0) pe_int (fun _ _ => rfl))))), ?_⟩
  refine ⟨_, rfl, _, x, rfl, hn, _, rfl, ?_⟩
  cases x with
  | word w i =>
    obtain ⟨a, rfl, ha⟩ := hn
    exact ⟨_, rfl, _, _, _, _, rfl, rfl, SqT.of ha, rfl, q H (Same.refl H)⟩
  | form ps i =>
    obtain ⟨a, l, vs, rfl, ha, hl, _⟩ := hn
    exact ⟨_, rfl, _, _, _, _, rfl, rfl, SqT.of ha, rfl, _, rfl, fun d hd => q.go d hd⟩
theorem has_parts_of_form (F : Facts w K mg) (PT : ProgT P) : Has P w K mg base (L2.CX P w) 2 "parts_of_form" pPartsOfForm (spParts (tC K)) := by
  have h_is_word := has_is_word (P := P) (base := base) F
  refine has_X F.g_parts_of_form F.f_parts_of_form scPartsOfForm bPartsOfForm (fun vs H Q E h => by obtain ⟨_, _, _, _, rfl, _⟩ := h; rfl) fun cdv A outer s H vs Q E hr h => ?_
  obtain ⟨v, x, lo, hi, rfl, hn, q⟩ := h
  refine ⟨_, (pss_cons (ps_if (PW.pt (pw_or (pt_val (pe_callH h_is_word hr (by omega) rfl pass0 (pa_cons (pv 0) pa_nil))) (pw_or1 (pt_not (pt_chain op_le op_le (pv 1) (pe_callB call_len_seq (by rfl) F.z_len (by decide +kernel) (pa_cons (pe_ix ix_tup (pv 0) pe_int (fun _ _ => rfl)) pa_nil)) (pv 2)))))) (pss_one (ps_raiseT rfl PT F.tx hr tkX (pa_cons (pe_ix ix_tup (pv 0) pe_int (fun _ _ => rfl)) pa_nil)))
      pss_nil)
    (pss_one (ps_ret (pe_ix ix_tup (pv 0) pe_int (fun _ _ => rfl))))), ?_⟩
  refine ⟨_, rfl, _, x, rfl, hn, _, rfl, ?_⟩
  cases x with
  | word w i =>
    obtain ⟨a, rfl, ha⟩ := hn
    exact ⟨_, rfl, _, _, _, _, rfl, rfl, SqT.of ha, rfl, _, rfl, fun d hd => q.go d hd⟩
  | form ps i =>
    obtain ⟨a, l, vs, rfl, ha, hl, hv⟩ := hn
    refine iteF ⟨_, rfl, _, rfl, _, _, _, _, rfl, rfl, SqT.of ha, rfl, _, _, rfl, .inl (SqL.of hl), _, _, rfl, rfl, _, rfl, ?_⟩
    have el := nds.length hv
    simp only at q
    refine ite2 (fun h1 => ⟨_, rfl, _, _, rfl, rfl, _, rfl, ?_⟩) (fun h1 => ⟨_, rfl, iteT ?_⟩)
    · have h1 := of_decide_eq_true h1
      refine ite2 (fun h2 => ?_) (fun h2 => ?_)
      · have h2 : ¬ ((vs.length : Int) ≤ hi) := by simpa using h2
        rw [if_neg (by omega)] at q
        exact ⟨_, rfl, _, _, _, _, rfl, rfl, SqT.of ha, rfl, _, rfl, fun d hd => q.go d hd⟩
      · have h2 : ((vs.length : Int) ≤ hi) := by simpa using h2
        rw [if_pos (by omega)] at q
        exact ⟨_, rfl, _, _, _, _, rfl, rfl, SqT.of ha, rfl, q a l vs rfl ha hl hv⟩
    · have h1 : ¬ (lo ≤ (vs.length : Int)) := by simpa using h1
      rw [if_neg (by omega)] at q
      exact ⟨_, rfl, _, _, _, _, rfl, rfl, SqT.of ha, rfl, _, rfl, fun d hd => q.go d hd⟩
theorem has_counted (F : Facts w K mg) (PT : ProgT P) : Has P w K mg base (L2.CX P w) 3 "counted" pCounted (spCount (tC K)) := by
  have h_parts_of_form := has_parts_of_form (base := base) F PT
  refine has_X F.g_counted F.f_counted scCounted bCounted (fun vs H Q E h => by obtain ⟨_, _, _, rfl, _⟩ := h; rfl) fun cdv A outer s H vs Q E hr h => ?_
  obtain ⟨v, x, k, rfl, q⟩ := h
  refine ⟨_, (pss_one (ps_ret (pe_callH h_parts_of_form hr (by omega) rfl (passes_call tkX fun _ _ _ _ h => h) (pa_cons (pv 0) (pa_cons (pv 1) (pa_cons (pv 1) pa_nil)))))), ?_⟩
  exact ⟨_, rfl, _, rfl, _, rfl, v, x, k, k, rfl, q⟩
theorem has_is_numeral (F : Facts w K mg) : Has P w K mg base CX0 1 "is_numeral" pIsNumeral spIsNum := by
  refine has_0 F.g_is_numeral F.f_is_numeral scIsNumeral bIsNumeral (fun vs H Q E h => by obtain ⟨_, rfl, _⟩ := h; rfl) fun cdv A outer s H vs Q E hr h => ?_
  obtain ⟨z, rfl, hz, q⟩ := h
  refine ⟨_, (pss_cons (ps_if (PW.pt (pw_or (pt_not (pt_chain op_le op_le pe_int (pe_callB call_len_str (by rfl) F.z_len (by decide +kernel) (pa_cons (pv 0) pa_nil)) (pe_glob (v := .int 10) rfl (F.i_MAX_DIGITS).choose_spec ⟨_, rfl⟩))) (pw_or1 (pt_not (pt_val (pe_callB (cr_all rfl) (by rfl) F.z_all (by decide +kernel) (pa_cons (pe_lc (own := [("sign", 1)]) (g := gName 1) (tt := tYes) rfl scIsNumeral.nd (pi_str (pv 0)) (blkOk_by (N := nIsNumeral) (sc := defScope sIsNumeral) (by decide +kernel)) (fun _ _ _ _ _ => (pg_name (i := 1) scIsNumeral.nd rfl (Or.inl rfl))) (fun _ _ _ _ _ => pts_nil) (fun _ _ _ _ _ => (pe_cmpR op_in_sign (pv 1) (pe_glob (v := .str "0123456789") rfl (F.t_DIGITS).choose_spec ⟨_, rfl⟩) (by rfl)))) pa_nil))))))) (pss_one (ps_ret pe_bl))
      pss_nil)
    (pss_one (ps_ret (pe_or (pe_cmpR op_eq (pv 0) pe_str (nomark _)) (pe_one (pe_cmpR op_ne (pe_ix ix_str (pv 0) pe_int (fun _ _ => rfl)) pe_str (nomark _))))))), ?_⟩
  have no : isNum z = false → Q (.bl false) H := fun e => by rw [← e]; exact q H (Same.refl H)
  refine ⟨_, rfl, _, rfl, hz, _, _, rfl, rfl, _, rfl, ?_⟩
  refine ite2 (fun h1 => ⟨_, _, rfl, rfl, _, rfl, ?_⟩) (fun h1 => ⟨_, rfl, iteT ?_⟩)
  · have h1 : (1 : Int) ≤ z.length := of_decide_eq_true h1
    refine ite2 (fun h2 => ?_) (fun h2 => ?_)
    · have h2 : ¬ ((z.length : Int) ≤ 10) := by simpa using h2
      exact no (by unfold isNum; rw [decide_eq_false (show ¬ z.length ≤ 10 by omega)]; simp)
    · have h2 : ((z.length : Int) ≤ 10) := by simpa using h2
      refine ⟨_, rfl, _, rfl, fun D hD => ?_⟩
      refine lc_signs (fun c => .bl (decide (c ∈ digitsL))) hD hz (fun c H Q hc q => ⟨_, rfl, c, _, rfl, rfl, q⟩) ?_
      refine ⟨D, z.cps.toList.map fun c => decide (c ∈ digitsL), rfl, SqL.of (by rw [List.map_map]; exact upd_same), _, rfl, ?_⟩
      have ea : (z.cps.toList.map fun c => decide (c ∈ digitsL)).all id = allDig z := by rw [List.all_map]; rfl
      rw [ea]
      have h3 : decide (1 ≤ z.length) = true := decide_eq_true (by omega)
      have h4 : decide (z.length ≤ 10) = true := decide_eq_true (by omega)
      refine ite2 (fun h5 => ?_) (fun h5 => ?_)
      · have h5 : allDig z = false := by simpa using h5
        have e : isNum z = false := by unfold isNum; rw [h5]; simp
        rw [← e]
        exact q _ (sameNew hD)
      · have h5 : allDig z = true := by simpa using h5
        refine ⟨_, rfl, rfl, ?_⟩
        obtain ⟨c, r, ec⟩ := str_cons (z := z) (by omega)
        have hat : atI z.cps.toList 0 = some c := atI_nat (xs := z.cps.toList) (j := 0) (by rw [ec]; rfl)
        have e0 : isNum z = (decide (z = Str.ofString "0") || !firstIs z [48]) := by unfold isNum; rw [h3, h4, h5]; simp
        refine ⟨_, rfl, ite2 (fun h6 => ?_) (fun h6 => ?_)⟩
        · have h6 : z = Str.ofString "0" := by simpa using h6
          have e : isNum z = true := by rw [e0, decide_eq_true h6]; rfl
          rw [e] at q
          exact q _ (sameNew hD)
        · have h6 : ¬ z = Str.ofString "0" := by simpa using h6
          refine ⟨_, rfl, _, 0, c, rfl, rfl, hz, hat, rfl, ?_⟩
          have e : (!decide (V.str ⟨#[c]⟩ = V.str (Str.ofString "0"))) = isNum z := by
            rw [e0, decide_eq_false h6, Bool.false_or, s_0, sign_eq]
            unfold firstIs
            rw [ec]
            simp
          rw [e]
          exact q _ (sameNew hD)
  · have h1 : ¬ ((1 : Int) ≤ z.length) := by simpa using h1
    exact no (by unfold isNum; rw [decide_eq_false (show ¬ 1 ≤ z.length by omega)]; simp)
theorem has_is_name (F : Facts w K mg) : Has P w K mg base CX0 1 "is_name" pIsName spIsName := by
  refine has_0 F.g_is_name F.f_is_name scIsName bIsName (fun vs H Q E h => by obtain ⟨_, rfl, _⟩ := h; rfl) fun cdv A outer s H vs Q E hr h => ?_
  obtain ⟨z, rfl, hz, q⟩ := h
  refine ⟨_, (pss_cons (ps_if (PW.pt (pw_or (pt_not (pt_val (pe_callB call_isi (by rfl) F.z_isinstance (by decide +kernel) (pa_cons (pv 0) (pa_cons (pe_bltn (v := .ty "str") (by rfl) F.z_str (by decide +kernel) rfl) pa_nil))))) (pw_or (pt_not (pt_chain op_le op_le pe_int (pe_callB call_len_str (by rfl) F.z_len (by decide +kernel) (pa_cons (pv 0) pa_nil)) (pe_glob (v := .int 8) rfl (F.i_MAX_NAME).choose_spec ⟨_, rfl⟩))) (pw_or1 (pt_cmpR op_in_seq (pv 0) (pe_glob (v := .ref (He.ga K "RESERVED")) rfl F.g_RESERVED rfl) (by rfl)))))) (pss_one (ps_ret pe_bl))
      pss_nil)
    (pss_one (ps_ret (pe_and (pe_cmpR op_in_sign (pe_ix ix_str (pv 0) pe_int (fun _ _ => rfl)) (pe_glob (v := .str "abcdefghijklmnopqrstuvwxyz") rfl (F.t_LETTERS).choose_spec ⟨_, rfl⟩) (by rfl)) (pe_one (pe_callB (cr_all rfl) (by rfl) F.z_all (by decide +kernel) (pa_cons (pe_lc (own := [("sign", 1)]) (g := gName 1) (tt := tYes) rfl scIsName.nd (pi_str (pv 0)) (blkOk_by (N := nIsName) (sc := defScope sIsName) (by decide +kernel)) (fun _ _ _ _ _ => (pg_name (i := 1) scIsName.nd rfl (Or.inl rfl))) (fun _ _ _ _ _ => pts_nil) (fun _ _ _ _ _ => (pe_or (pe_cmpR op_in_sign (pv 1) (pe_glob (v := .str "abcdefghijklmnopqrstuvwxyz") rfl (F.t_LETTERS).choose_spec ⟨_, rfl⟩) (by rfl)) (pe_one (pe_cmpR op_in_sign (pv 1) (pe_glob (v := .str "0123456789") rfl (F.t_DIGITS).choose_spec ⟨_, rfl⟩) (by rfl)))))) pa_nil))))))), ?_⟩
  have no : isName z = false → Q (.bl false) H := fun e => by rw [← e]; exact q H (Same.refl H)
  refine ⟨_, rfl, _, _, _, _, true, rfl, .ty "str", .base (.str z), kit_ty (by decide +kernel), _, rfl, iteF ?_⟩
  refine ⟨_, rfl, _, rfl, hz, _, _, rfl, rfl, _, rfl, ?_⟩
  refine ite2 (fun h1 => ⟨_, _, rfl, rfl, _, rfl, ?_⟩) (fun h1 => ⟨_, rfl, iteT ?_⟩)
  · have h1 : (1 : Int) ≤ z.length := of_decide_eq_true h1
    refine ite2 (fun h2 => ?_) (fun h2 => ?_)
    · have h2 : ¬ ((z.length : Int) ≤ 8) := by simpa using h2
      exact no (by unfold isName; rw [decide_eq_false (show ¬ z.length ≤ 8 by omega)]; simp)
    · have h2 : ((z.length : Int) ≤ 8) := by simpa using h2
      refine ⟨_, rfl, _, _, rfl, .inr (F.u_RESERVED H), rfl, rfl, _, rfl, ?_⟩
      have er : (inV (.str z) (vReserved.map (He.Dv.v K))) = decide (z ∈ reserved) := inV_str z reserved
      rw [show (if false = true then !inV (.str z) (vReserved.map (He.Dv.v K)) else inV (.str z) (vReserved.map (He.Dv.v K))) = decide (z ∈ reserved) from er]
      refine ite2 (fun h3 => no (by unfold isName; rw [h3]; simp)) (fun h3 => ?_)
      have h3 : decide (z ∈ reserved) = false := by simpa using h3
      obtain ⟨c, r, ec⟩ := str_cons (z := z) (by omega)
      have hat : atI z.cps.toList 0 = some c := atI_nat (xs := z.cps.toList) (j := 0) (by rw [ec]; rfl)
      have h4 : decide (1 ≤ z.length) = true := decide_eq_true (by omega)
      have h5 : decide (z.length ≤ 8) = true := decide_eq_true (by omega)
      have e0 : isName z = (decide (c ∈ lettersL) && allNam z) := by unfold isName firstIs; rw [h3, h4, h5, ec]; simp
      refine ⟨_, rfl, _, 0, c, rfl, rfl, hz, hat, c, _, rfl, rfl, _, rfl, ite2 (fun h6 => ?_) (fun h6 => ?_)⟩
      · have h6 : decide (c ∈ lettersL) = true := h6
        refine ⟨_, rfl, _, rfl, fun D hD => ?_⟩
        refine lc_signs (fun c => .bl (decide (c ∈ lettersL) || decide (c ∈ digitsL))) hD hz (fun c H Q hc q => ⟨_, rfl, c, _, rfl, rfl, _, rfl, ite2 (fun y => ?_) (fun y => ⟨_, rfl, c, _, rfl, rfl, ?_⟩)⟩) ?_
        · have y : decide (c ∈ lettersL) = true := y
          rw [y] at q; exact q
        · have y : decide (c ∈ lettersL) = false := (Bool.not_eq_true _).mp y
          rw [y] at q; exact q
        · refine ⟨D, z.cps.toList.map fun c => (decide (c ∈ lettersL) || decide (c ∈ digitsL)), rfl, SqL.of (by rw [List.map_map]; exact upd_same), ?_⟩
          have ea : (z.cps.toList.map fun c => (decide (c ∈ lettersL) || decide (c ∈ digitsL))).all id = isName z := by rw [List.all_map, e0, h6]; rfl
          rw [ea]
          exact q _ (sameNew hD)
      · have h6 : decide (c ∈ lettersL) = false := (Bool.not_eq_true _).mp h6
        exact no (by rw [e0, h6]; rfl)
  · have h1 : ¬ ((1 : Int) ≤ z.length) := by simpa using h1
    exact no (by unfold isName; rw [decide_eq_false (show ¬ 1 ≤ z.length by omega)]; simp)
theorem has_name_of (F : Facts w K mg) (PT : ProgT P) : Has P w K mg base (L2.CX P w) 3 "name_of" pNameOf (fun vs H Q E => ∃ v x, vs = [v] ∧ nd H v x ∧ x.wt ≤ 6000 ∧ Post (nameOf x) (fun s => ∀ H', Same H H' → Q (.str s) H') (Err (tC K) E H)) := by
  have h_word_of := has_word_of (base := base) F PT
  have h_is_name := has_is_name (P := P) (base := base) F
  refine has_X F.g_name_of F.f_name_of scNameOf bNameOf (fun vs H Q E h => by obtain ⟨_, _, rfl, _⟩ := h; rfl) fun cdv A outer s H vs Q E hr h => ?_
  obtain ⟨v, x, rfl, hn, hw, q⟩ := h
  refine ⟨_, (pss_cons (ps_set (i := 1) scNameOf.nd rfl (Or.inl rfl) (pe_callH h_word_of hr (by omega) rfl (passes_call tkX fun _ _ _ _ h => h) (pa_cons (pv 0) pa_nil)))
    (pss_cons (ps_if (pt_not (pt_val (pe_callH h_is_name hr (by omega) rfl pass0 (pa_cons (pv 1) pa_nil)))) (pss_one (ps_raiseT rfl PT F.tx hr tkX (pa_cons (pe_ix ix_tup (pv 0) pe_int (fun _ _ => rfl)) pa_nil)))
      pss_nil)
    (pss_one (ps_ret (pv 1))))), ?_⟩
  refine ⟨_, rfl, _, x, rfl, hn, ?_⟩
  cases x with
  | word w i =>
    intro H1 s1
    have hl : w.length ≤ sizeLine := by rw [line_eq]; simp only [Node.wt] at hw; omega
    refine ⟨_, rfl, w, rfl, hl, fun H2 s2 => ⟨_, rfl, ?_⟩⟩
    simp only [nameOf] at q
    refine ite2 (fun h1 => ?_) (fun h1 => ?_)
    · have h1 : isName w = false := by simpa using h1
      rw [h1, if_neg (by decide)] at q
      obtain ⟨a, rfl, ha⟩ := nd.fr (frS (s1.trans s2)) _ _ hn
      exact ⟨_, rfl, _, _, _, _, rfl, rfl, SqT.of ha, rfl, _, rfl, fun d hd => (Err.same q (s1.trans s2)).go d hd⟩
    · have h1 : isName w = true := by simpa using h1
      rw [h1, if_pos rfl] at q
      exact ⟨_, rfl, q H2 (s1.trans s2)⟩
  | form ps i => exact q
theorem has_numeral_of (F : Facts w K mg) (PT : ProgT P) : Has P w K mg base (L2.CX P w) 3 "numeral_of" pNumeralOf (spNum (tC K)) := by
  have h_word_of := has_word_of (base := base) F PT
  have h_is_numeral := has_is_numeral (P := P) (base := base) F
  refine has_X F.g_numeral_of F.f_numeral_of scNumeralOf bNumeralOf (fun vs H Q E h => by obtain ⟨_, _, _, _, rfl, _⟩ := h; rfl) fun cdv A outer s H vs Q E hr h => ?_
  obtain ⟨v, x, lo, hi, rfl, hn, hw, q⟩ := h
  refine ⟨_, (pss_cons (ps_set (i := 3) scNumeralOf.nd rfl (Or.inl rfl) (pe_callH h_word_of hr (by omega) rfl (passes_call tkX fun _ _ _ _ h => h) (pa_cons (pv 0) pa_nil)))
    (pss_cons (ps_if (PW.pt (pw_or (pt_not (pt_val (pe_callH h_is_numeral hr (by omega) rfl pass0 (pa_cons (pv 3) pa_nil)))) (pw_or1 (pt_not (pt_chain op_le op_le (pv 1) (pe_callTy call_int_str (by rfl) F.z_int (by decide +kernel) (pa_cons (pv 3) pa_nil)) (pv 2)))))) (pss_one (ps_raiseT rfl PT F.tx hr tkX (pa_cons (pe_ix ix_tup (pv 0) pe_int (fun _ _ => rfl)) pa_nil)))
      pss_nil)
    (pss_one (ps_ret (pe_callTy call_int_str (by rfl) F.z_int (by decide +kernel) (pa_cons (pv 3) pa_nil)))))), ?_⟩
  refine ⟨_, rfl, _, x, rfl, hn, ?_⟩
  cases x with
  | word w i =>
    intro H1 s1
    have hl : w.length ≤ sizeLine := by rw [line_eq]; simp only [Node.wt] at hw; omega
    refine ⟨_, rfl, w, rfl, hl, fun H2 s2 => ⟨_, rfl, ?_⟩⟩
    have er : Err (tC K) E H i → ∀ {H3}, Same H H3 → ∃ (v' : V), (L2.start nNumeralOf [v, V.int lo, V.int hi])[0]? = some (some v') ∧ ∃ p xs i' y, v' = .ref p ∧ (V.int 1) = .int i' ∧ SqT K H3 p xs ∧ atI xs i' = some y ∧ ∃ z, [y] = [z] ∧ ∀ d, H3 d = none → E (.ref (tC K)) (some d) (upd H3 d (.xd [(("at" : Str), z)])) := fun q H3 s3 => by
      obtain ⟨a, rfl, ha⟩ := nd.fr (frS s3) _ _ hn
      exact ⟨_, rfl, _, _, _, _, rfl, rfl, SqT.of ha, rfl, _, rfl, fun d hd => (Err.same q s3).go d hd⟩
    simp only [numOf] at q
    refine ite2 (fun h1 => ?_) (fun h1 => ?_)
    · have h1 : isNum w = false := by simpa using h1
      have e : numIn w lo hi = none := by unfold numIn; rw [if_neg (by rw [h1]; simp)]
      rw [e] at q
      exact er q (s1.trans s2)
    · have h1 : isNum w = true := by simpa using h1
      obtain ⟨t1, t2⟩ := isNum_text h1
      refine ⟨_, rfl, _, rfl, w, _, rfl, t1, t2, _, _, rfl, rfl, _, rfl, ?_⟩
      have bad : ¬ (lo ≤ numVal w ∧ numVal w ≤ hi) → Err (tC K) E H i := fun z => by
        have e : numIn w lo hi = none := by unfold numIn; rw [if_neg (fun y => z y.2)]
        rw [e] at q
        exact q
      refine ite2 (fun h2 => ⟨_, rfl, _, _, rfl, rfl, _, rfl, ite2 (fun h3 => ?_) (fun h3 => ?_)⟩) (fun h2 => ⟨_, rfl, iteT ?_⟩)
      · have h3 : ¬ (numVal w ≤ hi) := by simpa using h3
        exact er (bad fun z => h3 z.2) (s1.trans s2)
      · have h2 : lo ≤ numVal w := of_decide_eq_true h2
        have h3 : numVal w ≤ hi := by simpa using h3
        have e : numIn w lo hi = some (numVal w) := by unfold numIn; rw [if_pos ⟨h1, h2, h3⟩]
        rw [e] at q
        exact ⟨_, rfl, w, _, rfl, t1, t2, q H2 (s1.trans s2)⟩
      · have h2 : ¬ lo ≤ numVal w := by simpa using h2
        exact er (bad fun z => h2 z.1) (s1.trans s2)
  | form ps i => exact q
theorem has_head_of (F : Facts w K mg) (PT : ProgT P) : Has P w K mg base (L2.CX P w) 3 "head_of" pHeadOf (spStr (tC K) headOf) := by
  have h_is_word := has_is_word (P := P) (base := base) F
  have h_word_of := has_word_of (base := base) F PT
  refine has_X F.g_head_of F.f_head_of scHeadOf bHeadOf (fun vs H Q E h => by obtain ⟨_, _, rfl, _⟩ := h; rfl) fun cdv A outer s H vs Q E hr h => ?_
  obtain ⟨v, x, rfl, hn, q⟩ := h
  refine ⟨_, (pss_cons (ps_if (PW.pt (pw_or (pt_val (pe_callH h_is_word hr (by omega) rfl pass0 (pa_cons (pv 0) pa_nil))) (pw_or1 (pt_not (pt_truth (pe_ix ix_tup (pv 0) pe_int (fun _ _ => rfl)) (by intro _; rfl)))))) (pss_one (ps_raiseT rfl PT F.tx hr tkX (pa_cons (pe_ix ix_tup (pv 0) pe_int (fun _ _ => rfl)) pa_nil)))
      pss_nil)
    (pss_one (ps_ret (pe_callH h_word_of hr (by omega) rfl (passes_call tkX fun _ _ _ _ h => h) (pa_cons (pe_ix ix_list (pe_ix ix_tup (pv 0) pe_int (fun _ _ => rfl)) pe_int (fun _ _ => rfl)) pa_nil))))), ?_⟩
  refine ⟨_, rfl, _, x, rfl, hn, _, rfl, ?_⟩
  cases x with
  | word w i =>
    obtain ⟨a, rfl, ha⟩ := hn
    exact ⟨_, rfl, _, _, _, _, rfl, rfl, SqT.of ha, rfl, _, rfl, fun d hd => Err.go (at_ := i) q d hd⟩
  | form ps i =>
    obtain ⟨a, l, vs, rfl, ha, hl, hv⟩ := hn
    refine iteF ⟨_, rfl, _, _, _, _, rfl, rfl, SqT.of ha, rfl, _, .inl ⟨vs, SqL.of hl, rfl⟩, ?_⟩
    cases ps with
    | nil =>
      rw [show vs = [] from hv]
      exact ⟨_, rfl, _, _, _, _, rfl, rfl, SqT.of ha, rfl, _, rfl, fun d hd => Err.go (at_ := i) q d hd⟩
    | cons y r =>
      obtain ⟨u, ur, rfl, h1, h2⟩ := hv
      exact ⟨_, rfl, _, _, _, _, rfl, rfl, SqT.of ha, rfl, _, _, 0, _, rfl, rfl, SqL.of hl, at_of (j := 0) rfl rfl, u, y, rfl, h1, q⟩
end
end K10
/-! K10Prog2: indexes, places, expressions, tests. Printed by expand.py from K10Prog2.tpl. -/
namespace K10
open PySem PySem.Spec PyProof.Rows L2
section
variable {P : Program} {w : World} {K : PySem.W.Frag} {mg : Str → Option Value} {base : Heap}
def nReadIndex : List Str := ["part", "head", "parts", "index", "left"]
def pReadIndex : List Str := ["part"]
theorem scReadIndex : FnScope nReadIndex pReadIndex (defScope sReadIndex) := ⟨rfl, rfl, rfl, by decide +kernel, rfl, by decide +kernel, by decide +kernel⟩
theorem bReadIndex : BindsBy "read_index" sReadIndex pReadIndex := fun _ _ _ _ _ _ us hl => match us, hl with | [_], _ => rfl
def nReadPlace : List Str := ["part", "parts", "name"]
def pReadPlace : List Str := ["part"]
theorem scReadPlace : FnScope nReadPlace pReadPlace (defScope sReadPlace) := ⟨rfl, rfl, rfl, by decide +kernel, rfl, by decide +kernel, by decide +kernel⟩
theorem bReadPlace : BindsBy "read_place" sReadPlace pReadPlace := fun _ _ _ _ _ _ us hl => match us, hl with | [_], _ => rfl
def nReadExpression : List Str := ["part", "name", "index", "head", "parts", "left"]
def pReadExpression : List Str := ["part"]
theorem scReadExpression : FnScope nReadExpression pReadExpression (defScope sReadExpression) := ⟨rfl, rfl, rfl, by decide +kernel, rfl, by decide +kernel, by decide +kernel⟩
theorem bReadExpression : BindsBy "read_expression" sReadExpression pReadExpression := fun _ _ _ _ _ _ us hl => match us, hl with | [_], _ => rfl
def nReadTest : List Str := ["part", "head", "parts", "left"]
def pReadTest : List Str := ["part"]
theorem scReadTest : FnScope nReadTest pReadTest (defScope sReadTest) := ⟨rfl, rfl, rfl, by decide +kernel, rfl, by decide +kernel, by decide +kernel⟩
theorem bReadTest : BindsBy "read_test" sReadTest pReadTest := fun _ _ _ _ _ _ us hl => match us, hl with | [_], _ => rfl
def spName (C : Addr) : Sp := fun vs H Q E => ∃ v x, vs = [v] ∧ nd H v x ∧ x.wt ≤ 6000 ∧ Post (nameOf x) (fun s => ∀ H', Same H H' → Q (.str s) H') (Err C E H)
theorem lb {n : Nat} (h : Nat.ble n 1000 = true) : n ≤ sizeLine := l3 (Nat.le_of_ble_eq_true h)
theorem byCont {A B G : Prop} (g : (A → B) → G) (t : A → B) : G := g t
theorem iteNI {A B : Prop} {h : Str} {xs : List V} {l : List Str} (e : xs = l.map V.str) (h1 : ¬ h ∈ l → A) (h2 : h ∈ l → B) : if (if true = true then !inV (.str h) xs else inV (.str h) xs) = true then A else B := by
  subst e
  rw [if_pos rfl, inV_str]
  exact ite2 (fun z => h1 (by simpa using z)) (fun z => h2 (by simpa using z))
theorem iteIn {A B : Prop} {h : Str} {xs : List V} {l : List Str} (e : xs = l.map V.str) (h1 : h ∈ l → A) (h2 : ¬ h ∈ l → B) : if (if false = true then !inV (.str h) xs else inV (.str h) xs) = true then A else B := by
  subst e
  rw [if_neg Bool.false_ne_true, inV_str]
  exact ite2 (fun z => h1 (by simpa using z)) (fun z => h2 (by simpa using z))
theorem index_ok {h : Str} (m : h ∈ wIndex) : h ∈ [S "plus", S "minus", S "times"] ∨ h = S "rem" := by
  simp only [wIndex, List.mem_cons, List.not_mem_nil, or_false] at m ⊢
  rcases m with m | m | m | m
  · exact .inl (.inl m)
  · exact .inl (.inr (.inl m))
  · exact .inl (.inr (.inr m))
  · exact .inr m
theorem index_no {h : Str} (m : ¬ h ∈ wIndex) : ¬ h ∈ [S "plus", S "minus", S "times"] ∧ h ≠ S "rem" := by
  simp only [wIndex, List.mem_cons, List.not_mem_nil, or_false, not_or] at m ⊢
  exact ⟨⟨m.1, m.2.1, m.2.2.1⟩, m.2.2.2⟩
theorem has_read_index (F : Facts w K mg) (PT : ProgT P) : ∀ n : Nat, Has P w K mg base (L2.CX P w) (n + 4) "read_index" pReadIndex (spRead (tC K) n (rdIdx n))
  | 0 => by
    refine has_X F.g_read_index F.f_read_index scReadIndex bReadIndex (fun vs H Q E h => by obtain ⟨_, _, rfl, _⟩ := h; rfl) fun cdv A outer s H vs Q E hr h => ?_
    obtain ⟨v, x, rfl, hn, ok, q⟩ := h
    exact absurd ok.dep (Nat.not_lt_zero _)
  | n + 1 => by
    have h_read_index := has_read_index F PT n
    have h_is_word := has_is_word (P := P) (base := base) F
    have h_is_numeral := has_is_numeral (P := P) (base := base) F
    have h_numeral_of := has_numeral_of (base := base) F PT
    have h_name_of := has_name_of (base := base) F PT
    have h_head_of := has_head_of (base := base) F PT
    have h_counted := has_counted (base := base) F PT
    refine has_X F.g_read_index F.f_read_index scReadIndex bReadIndex (fun vs H Q E h => by obtain ⟨_, _, rfl, _⟩ := h; rfl) fun cdv A outer s H vs Q E hr h => ?_
    obtain ⟨v, x, rfl, hn, ok, q⟩ := h
    refine ⟨_, (pss_cons (ps_if (pt_val (pe_callH h_is_word hr (by omega) rfl pass0 (pa_cons (pv 0) pa_nil))) (pss_cons (ps_if (pt_cmpR op_eq (pe_ix ix_tup (pv 0) pe_int (fun _ _ => rfl)) pe_str (nomark _)) (pss_one (ps_ret (pe_tup (pa_cons pe_str pa_nil))))
        pss_nil)
      (pss_cons (ps_if (pt_val (pe_callH h_is_numeral hr (by omega) rfl pass0 (pa_cons (pe_ix ix_tup (pv 0) pe_int (fun _ _ => rfl)) pa_nil))) (pss_one (ps_ret (pe_tup (pa_cons pe_str (pa_cons (pe_callH h_numeral_of hr (by omega) rfl (passes_call tkX fun _ _ _ _ h => h) (pa_cons (pv 0) (pa_cons pe_int (pa_cons (pe_glob (v := .int 1000) rfl (F.i_MAX_INTEGER).choose_spec ⟨_, rfl⟩) pa_nil)))) pa_nil)))))
        pss_nil)
      (pss_one (ps_ret (pe_tup (pa_cons pe_str (pa_cons (pe_callH h_name_of hr (by omega) rfl (passes_call tkX fun _ _ _ _ h => h) (pa_cons (pv 0) pa_nil)) pa_nil)))))))
      pss_nil)
    (pss_cons (ps_set (i := 1) scReadIndex.nd rfl (Or.inl rfl) (pe_callH h_head_of hr (by omega) rfl (passes_call tkX fun _ _ _ _ h => h) (pa_cons (pv 0) pa_nil)))
    (pss_cons (ps_if (PW.pt (pw_and (pt_cmpR op_notIn_seq (pv 1) (pe_glob (v := .ref (He.ga K "INDEXES")) rfl F.g_INDEXES rfl) (by rfl)) (pw_and1 (pt_cmpR op_ne (pv 1) pe_str (nomark _))))) (pss_one (ps_raiseT rfl PT F.tx hr tkX (pa_cons (pe_ix ix_tup (pe_ix ix_list (pe_ix ix_tup (pv 0) pe_int (fun _ _ => rfl)) pe_int (fun _ _ => rfl)) pe_int (fun _ _ => rfl)) pa_nil)))
      pss_nil)
    (pss_cons (ps_set (i := 2) scReadIndex.nd rfl (Or.inl rfl) (pe_callH h_counted hr (by omega) rfl (passes_call tkX fun _ _ _ _ h => h) (pa_cons (pv 0) (pa_cons pe_int pa_nil))))
    (pss_cons (ps_if (pt_cmpR op_eq (pv 1) pe_str (nomark _)) (pss_cons (ps_set (i := 3) scReadIndex.nd rfl (Or.inl rfl) (pe_callH h_read_index hr (by omega) rfl (passes_call tkX fun _ _ _ _ h => h) (pa_cons (pe_ix ix_list (pv 2) pe_int (fun _ _ => rfl)) pa_nil)))
      (pss_one (ps_ret (pe_tup (pa_cons pe_str (pa_cons (pv 3) (pa_cons (pe_callH h_numeral_of hr (by omega) rfl (passes_call tkX fun _ _ _ _ h => h) (pa_cons (pe_ix ix_list (pv 2) pe_int (fun _ _ => rfl)) (pa_cons pe_int (pa_cons (pe_glob (v := .int 1000) rfl (F.i_MAX_INTEGER).choose_spec ⟨_, rfl⟩) pa_nil)))) pa_nil)))))))
      pss_nil)
    (pss_cons (ps_set (i := 4) scReadIndex.nd rfl (Or.inl rfl) (pe_callH h_read_index hr (by omega) rfl (passes_call tkX fun _ _ _ _ h => h) (pa_cons (pe_ix ix_list (pv 2) pe_int (fun _ _ => rfl)) pa_nil)))
    (pss_one (ps_ret (pe_tup (pa_cons (pv 1) (pa_cons (pv 4) (pa_cons (pe_callH h_read_index hr (by omega) rfl (passes_call tkX fun _ _ _ _ h => h) (pa_cons (pe_ix ix_list (pv 2) pe_int (fun _ _ => rfl)) pa_nil)) pa_nil)))))))))))), ?_⟩
    refine ⟨_, rfl, _, x, rfl, hn, _, rfl, ?_⟩
    rw [rdIdx] at q
    cases x with
    | word w i =>
      simp only [idxStep] at q
      refine iteT ?_
      obtain ⟨a, rfl, ha⟩ := id hn
      refine ⟨_, rfl, _, _, _, _, rfl, rfl, SqT.of ha, rfl, rfl, _, rfl, ite2 (fun h1 => ?_) (fun h1 => ?_)⟩
      · have h1 : w = S "beat" := by rw [str_eq] at h1; exact of_decide_eq_true h1
        rw [if_pos h1] at q
        exact ⟨lb rfl, fun p hp => q _ _ (sameNew hp) (dp_tup hp (.cons (.str _) .nil))⟩
      · have h1 : ¬ w = S "beat" := by rw [str_eq] at h1; simpa using h1
        rw [if_neg h1] at q
        refine ⟨_, rfl, _, _, _, _, rfl, rfl, SqT.of ha, rfl, w, rfl, ok.str, fun H1 s1 => ⟨_, rfl, ite2 (fun h2 => ?_) (fun h2 => ?_)⟩⟩
        · refine ⟨_, rfl, _, _, _, _, rfl, nd.fr (frS s1) _ _ hn, ok.wt, ?_⟩
          simp only [numOf]
          cases e : numIn w 0 1000 with
          | some k =>
            rw [e] at q
            exact fun H2 s2 => ⟨lb rfl, fun p hp => q _ _ ((s1.trans s2).trans (sameNew hp)) (dp_tup hp (.cons (.str _) (.cons (.int _) .nil)))⟩
          | none =>
            rw [e] at q
            simp only [isNum_not_name h2, if_neg (show ¬ (false = true) by decide)] at q
            exact Err.same q s1
        · have h2 : isNum w = false := by simpa using h2
          have e : numIn w 0 1000 = none := by unfold numIn; rw [if_neg (by rw [h2]; simp)]
          rw [e] at q
          refine ⟨_, rfl, _, _, rfl, nd.fr (frS s1) _ _ hn, ok.wt, ?_⟩
          simp only [nameOf]
          by_cases h3 : isName w = true
          · simp only [if_pos h3] at q ⊢
            exact fun H2 s2 => ⟨lb rfl, fun p hp => q _ _ ((s1.trans s2).trans (sameNew hp)) (dp_tup hp (.cons (.str _) (.cons (.str _) .nil)))⟩
          · simp only [if_neg h3] at q ⊢
            exact Err.same q s1
    | form ps i =>
      simp only [idxStep] at q
      refine iteF ⟨_, rfl, _, _, rfl, hn, ?_⟩
      refine (head_post q).mono (fun h _ hh => ?_) (fun _ _ z => z)
      obtain ⟨j, r, i', ex, hin, hout⟩ := hh
      cases ex
      intro H1 s1
      have hn1 := nd.fr (frS s1) _ _ hn
      refine byCont (A := h ∈ wIndex) (B := ?B) (fun cont => ?_) ?_
      rotate_left
      · refine ⟨_, rfl, _, _, rfl, .inr (F.u_INDEXES H1), rfl, rfl, _, rfl, iteNI (l := [S "plus", S "minus", S "times"]) rfl (fun z => ⟨_, rfl, rfl, _, rfl, ite2 (fun z2 => ?_) (fun z2 => ?_)⟩) (fun z => iteF ?_)⟩
        · have z2 : ¬ h = S "rem" := by rw [str_eq] at z2; simpa using z2
          exact raise_first rfl hn1 ((hout fun m => (index_ok m).elim z z2).same s1)
        · have z2 : h = S "rem" := by rw [str_eq] at z2; simpa using z2
          exact cont (by rw [z2]; decide +kernel)
        · exact cont (by simp only [wIndex, List.mem_cons, List.not_mem_nil, or_false] at z ⊢; rcases z with z | z | z <;> simp [z])
      · intro m
        refine ⟨_, rfl, _, _, 3, rfl, parts_post (lo := 3) (hi := 3) (hin m) hn1 (fun ps i l vs a ex ev h1 h2 h3 l1 l2 q => ?_) (fun _ z => z.same s1)⟩
        cases ex
        obtain ⟨x0, y, z, ep⟩ := len3 l1 l2
        rw [ep] at h3 q
        have oky : Ok n y := ok.part (by rw [ep]; simp)
        have okz : Ok n z := ok.part (by rw [ep]; simp)
        obtain ⟨v0, vy, vz, rfl, _, hy, hz⟩ := nds3 h3
        refine ⟨_, rfl, rfl, _, rfl, ite2 (fun c => ?_) (fun c => ?_)⟩
        · have c : h = S "rem" := by rw [str_eq] at c; exact of_decide_eq_true c
          simp only [if_pos c] at q
          refine ⟨_, rfl, _, _, 1, vy, rfl, rfl, SqL.of h2, at_of (j := 1) rfl rfl, vy, y, rfl, hy, oky, q.bind.mono (fun d ed q v1 H2 s2 d2 => ?_) (fun _ _ z => z.same s1)⟩
          have s12 := s1.trans s2
          refine ⟨_, rfl, _, rfl, _, _, 2, vz, rfl, rfl, SqL.of ((frS s2).lst h2), at_of (j := 2) rfl rfl, vz, z, 1, 1000, rfl, nd.fr (frS s2) _ _ hz, okz.wt, q.bind.mono (fun k ek q H3 s3 => ?_) (fun _ _ z => z.same s12)⟩
          refine ⟨lb rfl, fun p hp => q _ _ ((s12.trans s3).trans (sameNew hp)) (dp_tup hp (.cons ?_ (.cons (Tv.fr (frS s3) _ _ d2) (.cons (.int _) .nil))))⟩
          rw [c]
          exact .str _
        · have c : ¬ h = S "rem" := by rw [str_eq] at c; simpa using c
          simp only [if_neg c] at q
          refine ⟨_, rfl, _, _, 1, vy, rfl, rfl, SqL.of h2, at_of (j := 1) rfl rfl, vy, y, rfl, hy, oky, q.bind.mono (fun d ed q v1 H2 s2 d2 => ?_) (fun _ _ z => z.same s1)⟩
          have s12 := s1.trans s2
          refine ⟨_, rfl, _, rfl, _, rfl, _, _, 2, vz, rfl, rfl, SqL.of ((frS s2).lst h2), at_of (j := 2) rfl rfl, vz, z, rfl, nd.fr (frS s2) _ _ hz, okz, q.bind.mono (fun d' ed' q v2 H3 s3 d3 => ?_) (fun _ _ z => z.same s12)⟩
          exact ⟨lb rfl, fun p hp => q _ _ ((s12.trans s3).trans (sameNew hp)) (dp_tup hp (.cons (.str _) (.cons (Tv.fr (frS s3) _ _ d2) (.cons d3 .nil))))⟩
/-- a place: its name, its index or none -/
def spPlace (C : Addr) (n : Nat) (idx : Node → Rd PyData) : Sp := fun vs H Q E => ∃ v x, vs = [v] ∧ nd H v x ∧ Ok n x ∧
  Post (plcStep idx x) (fun d => ∀ p va H', Same H H' → H' p = some (.tup [.str d.1, va]) → Tv H' va d.2 → Q (.ref p) H') (Err C E H)
theorem has_read_place (F : Facts w K mg) (PT : ProgT P) (n : Nat) : Has P w K mg base (L2.CX P w) (n + 5) "read_place" pReadPlace (spPlace (tC K) (n + 1) (rdIdx n)) := by
  have h_read_index := has_read_index (base := base) F PT n
  have h_is_word := has_is_word (P := P) (base := base) F
  have h_name_of := has_name_of (base := base) F PT
  have h_head_of := has_head_of (base := base) F PT
  have h_counted := has_counted (base := base) F PT
  refine has_X F.g_read_place F.f_read_place scReadPlace bReadPlace (fun vs H Q E h => by obtain ⟨_, _, rfl, _⟩ := h; rfl) fun cdv A outer s H vs Q E hr h => ?_
  obtain ⟨v, x, rfl, hn, ok, q⟩ := h
  refine ⟨_, (pss_cons (ps_if (pt_val (pe_callH h_is_word hr (by omega) rfl pass0 (pa_cons (pv 0) pa_nil))) (pss_one (ps_ret (pe_tup (pa_cons (pe_callH h_name_of hr (by omega) rfl (passes_call tkX fun _ _ _ _ h => h) (pa_cons (pv 0) pa_nil)) (pa_cons pe_non pa_nil)))))
      pss_nil)
    (pss_cons (ps_if (pt_cmpR op_ne (pe_callH h_head_of hr (by omega) rfl (passes_call tkX fun _ _ _ _ h => h) (pa_cons (pv 0) pa_nil)) pe_str (nomark _)) (pss_one (ps_raiseT rfl PT F.tx hr tkX (pa_cons (pe_ix ix_tup (pe_ix ix_list (pe_ix ix_tup (pv 0) pe_int (fun _ _ => rfl)) pe_int (fun _ _ => rfl)) pe_int (fun _ _ => rfl)) pa_nil)))
      pss_nil)
    (pss_cons (ps_set (i := 1) scReadPlace.nd rfl (Or.inl rfl) (pe_callH h_counted hr (by omega) rfl (passes_call tkX fun _ _ _ _ h => h) (pa_cons (pv 0) (pa_cons pe_int pa_nil))))
    (pss_cons (ps_set (i := 2) scReadPlace.nd rfl (Or.inl rfl) (pe_callH h_name_of hr (by omega) rfl (passes_call tkX fun _ _ _ _ h => h) (pa_cons (pe_ix ix_list (pv 1) pe_int (fun _ _ => rfl)) pa_nil)))
    (pss_one (ps_ret (pe_tup (pa_cons (pv 2) (pa_cons (pe_callH h_read_index hr (by omega) rfl (passes_call tkX fun _ _ _ _ h => h) (pa_cons (pe_ix ix_list (pv 1) pe_int (fun _ _ => rfl)) pa_nil)) pa_nil))))))))), ?_⟩
  refine ⟨_, rfl, _, x, rfl, hn, _, rfl, ?_⟩
  cases x with
  | word w i =>
    simp only [plcStep] at q
    refine iteT ⟨_, rfl, _, _, rfl, hn, ok.wt, ?_⟩
    simp only [nameOf]
    by_cases h3 : isName w = true
    · simp only [if_pos h3] at q ⊢
      exact fun H2 s2 => ⟨lb rfl, fun p hp => q _ _ _ (s2.trans (sameNew hp)) upd_same .non⟩
    · simp only [if_neg h3] at q ⊢
      exact q
  | form ps i =>
    simp only [plcStep] at q
    refine iteF ⟨_, rfl, _, _, rfl, hn, ?_⟩
    refine (head_post q).mono (fun h _ hh => ?_) (fun _ _ z => z)
    obtain ⟨j, r, i', ex, hin, hout⟩ := hh
    cases ex
    intro H1 s1
    have hn1 := nd.fr (frS s1) _ _ hn
    refine ⟨rfl, _, rfl, ite2 (fun z => ?_) (fun z => ?_)⟩
    · have z : ¬ h = S "at" := by rw [str_eq] at z; simpa using z
      exact raise_first rfl hn1 ((hout (by simpa using z)).same s1)
    · have z : h = S "at" := by rw [str_eq] at z; simpa using z
      refine ⟨_, rfl, _, _, 3, rfl, parts_post (lo := 3) (hi := 3) (hin (by simp [z])) hn1 (fun ps i l vs a ex ev h1 h2 h3 l1 l2 q => ?_) (fun _ z => z.same s1)⟩
      cases ex
      obtain ⟨x0, y, z, ep⟩ := len3 l1 l2
      rw [ep] at h3 q
      have oky : Ok n y := ok.part (by rw [ep]; simp)
      have okz : Ok n z := ok.part (by rw [ep]; simp)
      obtain ⟨v0, vy, vz, rfl, _, hy, hz⟩ := nds3 h3
      refine ⟨_, rfl, _, _, 1, vy, rfl, rfl, SqL.of h2, at_of (j := 1) rfl rfl, vy, y, rfl, hy, oky.wt, q.bind.mono (fun d ed q H2 s2 => ?_) (fun _ _ z => z.same s1)⟩
      have s12 := s1.trans s2
      refine ⟨_, rfl, _, rfl, _, _, 2, vz, rfl, rfl, SqL.of ((frS s2).lst h2), at_of (j := 2) rfl rfl, vz, z, rfl, nd.fr (frS s2) _ _ hz, okz, q.bind.mono (fun d' ed' q v2 H3 s3 d3 => ?_) (fun _ _ z => z.same s12)⟩
      exact ⟨lb rfl, fun p hp => q _ _ _ ((s12.trans s3).trans (sameNew hp)) upd_same (Tv.fr (Fr.new hp) _ _ d3)⟩
end
end K10
/-! K10Prog3: expressions, tests. Printed by expand.py from K10Prog3.tpl. -/
namespace K10
open PySem PySem.Spec PyProof.Rows L2
section
variable {P : Program} {w : World} {K : PySem.W.Frag} {mg : Str → Option Value} {base : Heap}
theorem has_read_expression (F : Facts w K mg) (PT : ProgT P) : ∀ n : Nat, Has P w K mg base (L2.CX P w) (n + 7) "read_expression" pReadExpression (spRead (tC K) n (rdExpr n))
  | 0 => by
    refine has_X F.g_read_expression F.f_read_expression scReadExpression bReadExpression (fun vs H Q E h => by obtain ⟨_, _, rfl, _⟩ := h; rfl) fun cdv A outer s H vs Q E hr h => ?_
    obtain ⟨v, x, rfl, hn, ok, q⟩ := h
    exact absurd ok.dep (Nat.not_lt_zero _)
  | n + 1 => by
    have h_read_expression := has_read_expression F PT n
    have h_is_word := has_is_word (P := P) (base := base) F
    have h_is_numeral := has_is_numeral (P := P) (base := base) F
    have h_numeral_of := has_numeral_of (base := base) F PT
    have h_head_of := has_head_of (base := base) F PT
    have h_counted := has_counted (base := base) F PT
    have h_read_place := has_read_place (base := base) F PT (n + 1)
    refine has_X F.g_read_expression F.f_read_expression scReadExpression bReadExpression (fun vs H Q E h => by obtain ⟨_, _, rfl, _⟩ := h; rfl) fun cdv A outer s H vs Q E hr h => ?_
    obtain ⟨v, x, rfl, hn, ok, q⟩ := h
    refine ⟨_, (pss_cons (ps_if (PW.pt (pw_and (pt_val (pe_callH h_is_word hr (by omega) rfl pass0 (pa_cons (pv 0) pa_nil))) (pw_and1 (pt_val (pe_callH h_is_numeral hr (by omega) rfl pass0 (pa_cons (pe_ix ix_tup (pv 0) pe_int (fun _ _ => rfl)) pa_nil)))))) (pss_one (ps_ret (pe_tup (pa_cons pe_str (pa_cons (pe_callH h_numeral_of hr (by omega) rfl (passes_call tkX fun _ _ _ _ h => h) (pa_cons (pv 0) (pa_cons pe_int (pa_cons (pe_op op_sub (pe_glob (v := .int 2147483647) rfl (F.i_PRIME).choose_spec ⟨_, rfl⟩) pe_int) pa_nil)))) pa_nil)))))
      pss_nil)
    (pss_cons (ps_if (PW.pt (pw_or (pt_val (pe_callH h_is_word hr (by omega) rfl pass0 (pa_cons (pv 0) pa_nil))) (pw_or1 (pt_cmpR op_eq (pe_callH h_head_of hr (by omega) rfl (passes_call tkX fun _ _ _ _ h => h) (pa_cons (pv 0) pa_nil)) pe_str (nomark _))))) (pss_cons (ps_asg (pe_callH h_read_place hr (by omega) rfl (passes_call tkX fun _ _ _ _ h => h) (pa_cons (pv 0) pa_nil)) (pg_tup rfl (pgs_cons (pg_name (i := 1) scReadExpression.nd rfl (Or.inl rfl)) (pgs_cons (pg_name (i := 2) scReadExpression.nd rfl (Or.inl rfl)) pgs_nil))))
      (pss_one (ps_ret (pe_tup (pa_cons pe_str (pa_cons (pv 1) (pa_cons (pv 2) pa_nil)))))))
      pss_nil)
    (pss_cons (ps_set (i := 3) scReadExpression.nd rfl (Or.inl rfl) (pe_callH h_head_of hr (by omega) rfl (passes_call tkX fun _ _ _ _ h => h) (pa_cons (pv 0) pa_nil)))
    (pss_cons (ps_if (pt_cmpR op_notIn_seq (pv 3) (pe_glob (v := .ref (He.ga K "EXPRESSIONS")) rfl F.g_EXPRESSIONS rfl) (by rfl)) (pss_one (ps_raiseT rfl PT F.tx hr tkX (pa_cons (pe_ix ix_tup (pe_ix ix_list (pe_ix ix_tup (pv 0) pe_int (fun _ _ => rfl)) pe_int (fun _ _ => rfl)) pe_int (fun _ _ => rfl)) pa_nil)))
      pss_nil)
    (pss_cons (ps_set (i := 4) scReadExpression.nd rfl (Or.inl rfl) (pe_callH h_counted hr (by omega) rfl (passes_call tkX fun _ _ _ _ h => h) (pa_cons (pv 0) (pa_cons pe_int pa_nil))))
    (pss_cons (ps_set (i := 5) scReadExpression.nd rfl (Or.inl rfl) (pe_callH h_read_expression hr (by omega) rfl (passes_call tkX fun _ _ _ _ h => h) (pa_cons (pe_ix ix_list (pv 4) pe_int (fun _ _ => rfl)) pa_nil)))
    (pss_one (ps_ret (pe_tup (pa_cons (pv 3) (pa_cons (pv 5) (pa_cons (pe_callH h_read_expression hr (by omega) rfl (passes_call tkX fun _ _ _ _ h => h) (pa_cons (pe_ix ix_list (pv 4) pe_int (fun _ _ => rfl)) pa_nil)) pa_nil)))))))))))), ?_⟩
    refine ⟨_, rfl, _, x, rfl, hn, _, rfl, ?_⟩
    rw [rdExpr] at q
    cases x with
    | word w i =>
      simp only [exprStep] at q
      refine iteT ?_
      obtain ⟨a, rfl, ha⟩ := id hn
      refine ⟨_, rfl, _, _, _, _, rfl, rfl, SqT.of ha, rfl, w, rfl, ok.str, fun H1 s1 => ⟨_, rfl, ite2 (fun h2 => ?_) (fun h2 => ?_)⟩⟩
      · refine ⟨_, rfl, _, _, rfl, rfl, _, _, _, _, rfl, nd.fr (frS s1) _ _ hn, ok.wt, ?_⟩
        simp only [numOf]
        cases e : numIn w 0 2147483646 with
        | some k =>
          rw [e] at q
          rw [show (2147483647 - 1 : Int) = 2147483646 by decide, e]
          exact fun H2 s2 => ⟨lb rfl, fun p hp => q _ _ ((s1.trans s2).trans (sameNew hp)) (dp_tup hp (.cons (.str _) (.cons (.int _) .nil)))⟩
        | none =>
          rw [e] at q
          rw [show (2147483647 - 1 : Int) = 2147483646 by decide, e]
          simp only [isNum_not_name h2, if_neg (show ¬ (false = true) by decide)] at q
          exact Err.same q s1
      · have h2 : isNum w = false := by simpa using h2
        have e : numIn w 0 2147483646 = none := by unfold numIn; rw [if_neg (by rw [h2]; simp)]
        rw [e] at q
        have hn1 := nd.fr (frS s1) _ _ hn
        refine ⟨_, rfl, _, _, rfl, hn1, _, rfl, iteT ⟨_, rfl, _, _, rfl, hn1, ok.mono (Nat.le_succ _), ?_⟩⟩
        simp only [plcStep]
        by_cases h3 : isName w = true
        · simp only [if_pos h3] at q ⊢
          refine fun p va H2 s2 ht hd => ⟨p, _, rfl, SqT.of ht, rfl, _, _, rfl, _, _, rfl, rfl, _, rfl, _, rfl, lb rfl, fun p2 hp => q _ _ ((s1.trans s2).trans (sameNew hp)) (dp_tup hp (.cons (.str _) (.cons (.str _) (.cons hd .nil))))⟩
        · simp only [if_neg h3] at q ⊢
          exact Err.same q s1
    | form ps i =>
      simp only [exprStep] at q
      refine iteF ⟨_, rfl, _, _, rfl, hn, _, rfl, iteF ⟨_, rfl, _, _, rfl, hn, ?_⟩⟩
      refine (head_post q).mono (fun h _ hh => ?_) (fun _ _ z => z)
      obtain ⟨j, r, i', ex, hin, hout⟩ := hh
      cases ex
      intro H1 s1
      have hn1 := nd.fr (frS s1) _ _ hn
      refine ⟨rfl, _, rfl, ite2 (fun z => ?_) (fun z => ?_)⟩
      · have z : h = S "at" := by rw [str_eq] at z; simpa using z
        have q := hin (by rw [z]; decide +kernel)
        rw [if_pos z] at q
        refine ⟨_, rfl, _, _, rfl, hn1, ok.mono (Nat.le_succ _), q.bind.mono (fun d ed q => ?_) (fun _ _ y => y.same s1)⟩
        refine fun p va H2 s2 ht hd => ⟨p, _, rfl, SqT.of ht, rfl, _, _, rfl, _, _, rfl, rfl, _, rfl, _, rfl, lb rfl, fun p2 hp => q _ _ ((s1.trans s2).trans (sameNew hp)) (dp_tup hp (.cons (.str _) (.cons (.str _) (.cons hd .nil))))⟩
      · have z : ¬ h = S "at" := by rw [str_eq] at z; simpa using z
        refine ⟨_, rfl, _, _, rfl, hn1, ?_⟩
        refine fun H2 s2 => ?_
        have s12 := s1.trans s2
        have hn2 := nd.fr (frS s2) _ _ hn1
        refine ⟨_, rfl, _, _, rfl, .inr (F.u_EXPRESSIONS H2), rfl, rfl, _, rfl, iteNI (l := [S "add", S "sub", S "mul", S "div"]) rfl (fun m => ?_) (fun m => ?_)⟩
        · exact raise_first rfl hn2 ((hout fun y => (List.mem_cons.mp y).elim z m).same s12)
        · have q := hin (List.mem_cons_of_mem _ m)
          rw [if_neg z] at q
          refine ⟨_, rfl, _, _, 3, rfl, parts_post (lo := 3) (hi := 3) q hn2 (fun ps i l vs a ex ev h1 h2 h3 l1 l2 q => ?_) (fun _ z => z.same s12)⟩
          cases ex
          obtain ⟨x0, y, z, ep⟩ := len3 l1 l2
          rw [ep] at h3 q
          have oky : Ok n y := ok.part (by rw [ep]; simp)
          have okz : Ok n z := ok.part (by rw [ep]; simp)
          obtain ⟨v0, vy, vz, rfl, _, hy, hz⟩ := nds3 h3
          refine ⟨_, rfl, _, _, 1, vy, rfl, rfl, SqL.of h2, at_of (j := 1) rfl rfl, vy, y, rfl, hy, oky, q.bind.mono (fun d ed q v1 H3 s3 d2 => ?_) (fun _ _ z => z.same s12)⟩
          have s13 := s12.trans s3
          refine ⟨_, rfl, _, rfl, _, rfl, _, _, 2, vz, rfl, rfl, SqL.of ((frS s3).lst h2), at_of (j := 2) rfl rfl, vz, z, rfl, nd.fr (frS s3) _ _ hz, okz, q.bind.mono (fun d' ed' q v2 H4 s4 d3 => ?_) (fun _ _ z => z.same s13)⟩
          exact ⟨lb rfl, fun p hp => q _ _ ((s13.trans s4).trans (sameNew hp)) (dp_tup hp (.cons (.str _) (.cons (Tv.fr (frS s4) _ _ d2) (.cons d3 .nil))))⟩
theorem has_read_test (F : Facts w K mg) (PT : ProgT P) : ∀ n : Nat, Has P w K mg base (L2.CX P w) (n + 9) "read_test" pReadTest (spRead (tC K) n (rdTest n))
  | 0 => by
    refine has_X F.g_read_test F.f_read_test scReadTest bReadTest (fun vs H Q E h => by obtain ⟨_, _, rfl, _⟩ := h; rfl) fun cdv A outer s H vs Q E hr h => ?_
    obtain ⟨v, x, rfl, hn, ok, q⟩ := h
    exact absurd ok.dep (Nat.not_lt_zero _)
  | n + 1 => by
    have h_read_test := has_read_test F PT n
    have h_head_of := has_head_of (base := base) F PT
    have h_counted := has_counted (base := base) F PT
    have h_read_index := has_read_index (base := base) F PT (n + 1)
    have h_read_expression := has_read_expression (base := base) F PT (n + 1)
    refine has_X F.g_read_test F.f_read_test scReadTest bReadTest (fun vs H Q E h => by obtain ⟨_, _, rfl, _⟩ := h; rfl) fun cdv A outer s H vs Q E hr h => ?_
    obtain ⟨v, x, rfl, hn, ok, q⟩ := h
    refine ⟨_, (pss_cons (ps_set (i := 1) scReadTest.nd rfl (Or.inl rfl) (pe_callH h_head_of hr (by omega) rfl (passes_call tkX fun _ _ _ _ h => h) (pa_cons (pv 0) pa_nil)))
    (pss_cons (ps_if (pt_cmpR op_in_seq (pv 1) (pe_tup (pa_cons pe_str (pa_cons pe_str pa_nil))) (by rfl)) (pss_cons (ps_set (i := 2) scReadTest.nd rfl (Or.inl rfl) (pe_callH h_counted hr (by omega) rfl (passes_call tkX fun _ _ _ _ h => h) (pa_cons (pv 0) (pa_cons pe_int pa_nil))))
      (pss_cons (ps_set (i := 3) scReadTest.nd rfl (Or.inl rfl) (pe_callH h_read_index hr (by omega) rfl (passes_call tkX fun _ _ _ _ h => h) (pa_cons (pe_ix ix_list (pv 2) pe_int (fun _ _ => rfl)) pa_nil)))
      (pss_one (ps_ret (pe_tup (pa_cons (pv 1) (pa_cons (pv 3) (pa_cons (pe_callH h_read_index hr (by omega) rfl (passes_call tkX fun _ _ _ _ h => h) (pa_cons (pe_ix ix_list (pv 2) pe_int (fun _ _ => rfl)) pa_nil)) pa_nil))))))))
      pss_nil)
    (pss_cons (ps_if (pt_cmpR op_notIn_seq (pv 1) (pe_tup (pa_cons pe_str (pa_cons pe_str pa_nil))) (by rfl)) (pss_one (ps_raiseT rfl PT F.tx hr tkX (pa_cons (pe_ix ix_tup (pe_ix ix_list (pe_ix ix_tup (pv 0) pe_int (fun _ _ => rfl)) pe_int (fun _ _ => rfl)) pe_int (fun _ _ => rfl)) pa_nil)))
      pss_nil)
    (pss_cons (ps_set (i := 2) scReadTest.nd rfl (Or.inl rfl) (pe_callH h_counted hr (by omega) rfl (passes_call tkX fun _ _ _ _ h => h) (pa_cons (pv 0) (pa_cons pe_int pa_nil))))
    (pss_cons (ps_if (pt_cmpR op_eq (pv 1) pe_str (nomark _)) (pss_one (ps_ret (pe_tup (pa_cons pe_str (pa_cons (pe_callH h_read_expression hr (by omega) rfl (passes_call tkX fun _ _ _ _ h => h) (pa_cons (pe_ix ix_list (pv 2) pe_int (fun _ _ => rfl)) pa_nil)) pa_nil)))))
      pss_nil)
    (pss_one (ps_ret (pe_tup (pa_cons pe_str (pa_cons (pe_callH h_read_test hr (by omega) rfl (passes_call tkX fun _ _ _ _ h => h) (pa_cons (pe_ix ix_list (pv 2) pe_int (fun _ _ => rfl)) pa_nil)) pa_nil)))))))))), ?_⟩
    rw [rdTest, testStep] at q
    refine ⟨_, rfl, _, x, rfl, hn, ?_⟩
    refine (head_post q).mono (fun h _ hh => ?_) (fun _ _ z => z)
    obtain ⟨j, r, i', ex, hin, hout⟩ := hh
    cases ex
    intro H1 s1
    have hn1 := nd.fr (frS s1) _ _ hn
    refine ⟨_, rfl, lb rfl, fun p1 hp1 => ?_⟩
    have sA := s1.trans (sameNew (o := .tup [.str (S "less"), .str (S "equal")]) hp1)
    have hnA := nd.fr (frS sA) _ _ hn
    refine ⟨_, _, rfl, .inr (SqT.of upd_same), rfl, rfl, _, rfl, iteIn (l := [S "less", S "equal"]) rfl (fun m => ?_) (fun m => ?_)⟩
    · have m : h = S "less" ∨ h = S "equal" := by simpa using m
      have q := hin (by rcases m with m | m <;> rw [m] <;> decide +kernel)
      rw [if_pos m] at q
      refine ⟨_, rfl, _, _, 3, rfl, parts_post (lo := 3) (hi := 3) q hnA (fun ps i l vs a ex ev h1 h2 h3 l1 l2 q => ?_) (fun _ z => z.same sA)⟩
      cases ex
      obtain ⟨x0, y, z, ep⟩ := len3 l1 l2
      rw [ep] at h3 q
      have oky : Ok n y := ok.part (by rw [ep]; simp)
      have okz : Ok n z := ok.part (by rw [ep]; simp)
      obtain ⟨v0, vy, vz, rfl, _, hy, hz⟩ := nds3 h3
      refine ⟨_, rfl, _, _, 1, vy, rfl, rfl, SqL.of h2, at_of (j := 1) rfl rfl, vy, y, rfl, hy, oky.mono (Nat.le_succ _), q.bind.mono (fun d ed q v1 H3 s3 d2 => ?_) (fun _ _ z => z.same sA)⟩
      have s13 := sA.trans s3
      refine ⟨_, rfl, _, rfl, _, rfl, _, _, 2, vz, rfl, rfl, SqL.of ((frS s3).lst h2), at_of (j := 2) rfl rfl, vz, z, rfl, nd.fr (frS s3) _ _ hz, okz.mono (Nat.le_succ _), q.bind.mono (fun d' ed' q v2 H4 s4 d3 => ?_) (fun _ _ z => z.same s13)⟩
      exact ⟨lb rfl, fun p hp => q _ _ ((s13.trans s4).trans (sameNew hp)) (dp_tup hp (.cons (.str _) (.cons (Tv.fr (frS s4) _ _ d2) (.cons d3 .nil))))⟩
    · have m : ¬ (h = S "less" ∨ h = S "equal") := by simpa using m
      refine ⟨_, rfl, lb rfl, fun p2 hp2 => ?_⟩
      have sB := sA.trans (sameNew (o := .tup [.str (S "zero"), .str (S "not")]) hp2)
      have hnB := nd.fr (frS sB) _ _ hn
      refine ⟨_, _, rfl, .inr (SqT.of upd_same), rfl, rfl, _, rfl, iteNI (l := [S "zero", S "not"]) rfl (fun m2 => ?_) (fun m2 => ?_)⟩
      · refine raise_first rfl hnB ((hout fun y => ?_).same sB)
        simp only [wTest, List.mem_cons, List.not_mem_nil, or_false] at y m2
        rcases y with y | y | y | y
        · exact m (.inl y)
        · exact m (.inr y)
        · exact m2 (.inl y)
        · exact m2 (.inr y)
      · have m2 : h = S "zero" ∨ h = S "not" := by simpa using m2
        have q := hin (by rcases m2 with m | m <;> rw [m] <;> decide +kernel)
        rw [if_neg m] at q
        refine ⟨_, rfl, _, _, 2, rfl, parts_post (lo := 2) (hi := 2) q hnB (fun ps i l vs a ex ev h1 h2 h3 l1 l2 q => ?_) (fun _ z => z.same sB)⟩
        cases ex
        obtain ⟨x0, y, ep⟩ := len2 l1 l2
        rw [ep] at h3 q
        have oky : Ok n y := ok.part (by rw [ep]; simp)
        obtain ⟨v0, vy, rfl, _, hy⟩ := nds2 h3
        refine ⟨_, rfl, rfl, _, rfl, ite2 (fun c => ?_) (fun c => ?_)⟩
        · have c : h = S "zero" := by rw [str_eq] at c; exact of_decide_eq_true c
          simp only [if_pos c] at q
          refine ⟨_, rfl, _, _, 1, vy, rfl, rfl, SqL.of h2, at_of (j := 1) rfl rfl, vy, y, rfl, hy, oky.mono (Nat.le_succ _), q.bind.mono (fun d ed q v1 H3 s3 d2 => ?_) (fun _ _ z => z.same sB)⟩
          rw [c] at q
          exact ⟨lb rfl, fun p hp => q _ _ ((sB.trans s3).trans (sameNew hp)) (dp_tup hp (.cons (.str _) (.cons d2 .nil)))⟩
        · have c : ¬ h = S "zero" := by rw [str_eq] at c; simpa using c
          simp only [if_neg c] at q
          refine ⟨_, rfl, _, _, 1, vy, rfl, rfl, SqL.of h2, at_of (j := 1) rfl rfl, vy, y, rfl, hy, oky, q.bind.mono (fun d ed q v1 H3 s3 d2 => ?_) (fun _ _ z => z.same sB)⟩
          rw [m2.resolve_left c] at q
          exact ⟨lb rfl, fun p hp => q _ _ ((sB.trans s3).trans (sameNew hp)) (dp_tup hp (.cons (.str _) (.cons d2 .nil)))⟩
end
end K10
/-! K10Prog4: bodies, calls, statements. Printed by expand.py from K10Prog4.tpl. -/
namespace K10
open PySem PySem.Spec PyProof.Rows L2
theorem nds.back {H : Hp} : ∀ {ps : List Node} {vs : List V} {i : Nat} {v : V}, nds H vs ps → vs[i]? = some v → ∃ n, ps[i]? = some n ∧ nd H v n
  | [], vs, i, v, h, e => by rw [show vs = [] from h] at e; simp at e
  | m :: r, vs, 0, v, h, e => by
    obtain ⟨u, vr, rfl, h1, h2⟩ := h
    simp at e; subst e
    exact ⟨m, rfl, h1⟩
  | m :: r, vs, i + 1, v, h, e => by
    obtain ⟨u, vr, rfl, h1, h2⟩ := h
    obtain ⟨n, e1, e2⟩ := nds.back (ps := r) (i := i) (v := v) h2 (by simpa using e)
    exact ⟨n, by simpa using e1, e2⟩
theorem Same.at_new {H H1 : Hp} {D : Addr} {o : HO} (s : Same H H1) (n : H D = none) : Same H (upd H1 D o) := fun b u h => by
  rw [upd_ne (ne_of_none h n)]; exact s b u h
theorem drop_cons {α : Type} {l : List α} {k : Nat} {x : α} (h : l[k]? = some x) : l.drop k = x :: l.drop (k + 1) := by
  obtain ⟨h1, rfl⟩ := List.getElem?_eq_some_iff.mp h
  exact List.drop_eq_getElem_cons h1
/-- [f(part) for part in parts], f a reader that may raise -/
theorem lc_read {K : PySem.W.Frag} {C : Addr} {E : XK} {l D : Addr} {vs : List V} {ps : List Node} {i : Nat} {te : TE} {ws : List Nat} {σ : L2.St} {H1 : Hp} {Qd : Hp → Prop} {rd : Node → Rd PyData}
    (hl : H1 l = some (.lst vs)) (hn : nds H1 vs ps) (hz : vs.length ≤ 6000) (hD : H1 D = none)
    (q : Post (rdAll rd ps) (fun ds => ∀ H us, Same H1 H → H D = some (.lst us) → TvAll H us ds → Qd H) (Err C E H1))
    (ht : ∀ v y H Q, y ∈ ps → Same H1 H → nd H v y → Post (rd y) (fun d => ∀ v' H', Same H H' → Tv H' v' d → Q v' H') (Err C E H) → te ((wipe σ ws).set i (some v)) H Q)
    (hw : ∀ v, wipe ((wipe σ ws).set i (some v)) ws = wipe σ ws := by intro _; rfl) :
    ∃ W : Nat → Nat → Hp → Prop, (∃ m, W 0 m (upd H1 D (.lst []))) ∧ ∀ i' m H, W i' m H →
      ((Itl K l).stop i' H ∧ Qd H) ∨ ((Itl K l).go i' H ∧ ∃ Nx : Hp → Prop, (∀ H', Nx H' → ∃ m', m' < m ∧ W (i' + 1) m' H') ∧ ∀ x H', (Itl K l).yld i' H x H' → gName i x (wipe σ ws) H' fun σ2 H2 => wipe σ2 ws = wipe σ ws ∧ tYes σ2 H2 fun b H3 =>
        if b = true then te σ2 H3 fun y H4 => ∃ acc, H4 D = some (.lst acc) ∧ acc.length < sizeLine ∧ Nx (upd H4 D (.lst (acc ++ [y]))) else Nx H3) := by
  refine lc_list (xs := vs) (fun k H => ∃ us ds, Same H1 H ∧ H D = some (.lst us) ∧ us.length = k ∧ TvAll H us ds ∧
    Post (rdAll rd (ps.drop k)) (fun rest => ∀ H us, Same H1 H → H D = some (.lst us) → TvAll H us (ds ++ rest) → Qd H) (Err C E H1))
    ⟨[], [], Same.at_new (Same.refl _) hD, upd_same, rfl, .nil, by simpa using q⟩ (fun k H _ h => ?_) (fun k x H hx h => ?_) (fun H h => ?_)
  · obtain ⟨us, ds, s, _⟩ := h
    exact SqL.of (s _ _ hl)
  · obtain ⟨us, ds, s, hd, hk, ha, q⟩ := h
    obtain ⟨y, hy, hny⟩ := nds.back hn hx
    refine ⟨hw x, ?_⟩
    show te _ _ _
    rw [drop_cons hy, rdAll] at q
    refine ht x y H _ (List.mem_of_getElem? hy) s (nd.fr (frS s) _ _ hny) ?_
    have hkl : k < vs.length := (List.getElem?_eq_some_iff.mp hx).1
    cases e : rd y with
    | error er => rw [e] at q; exact Err.same q s
    | ok d =>
      rw [e] at q
      refine fun v' H' s' hv' => ⟨us, s' _ _ hd, by rw [line_eq]; omega, us ++ [v'], ds ++ [d], Same.at_new (s.trans s') hD, upd_same, by simp [hk], ?_, ?_⟩
      · have ft : Ft H' (upd H' D (.lst (us ++ [v']))) := Ft.upd (s' _ _ hd) (fun _ z => nomatch z)
        exact (TvAll.ft ft _ _ (TvAll.fr (frS s') _ _ ha)).append (.cons (Tv.ft ft _ _ hv') .nil)
      · refine Post.mono (r := rdAll rd (ps.drop (k + 1))) ?_ (fun xs _ h => h) (fun _ _ z => z)
        cases e2 : rdAll rd (ps.drop (k + 1)) with
        | error er => rw [e2] at q; exact q
        | ok xs =>
          rw [e2] at q
          intro H us s hd ha
          exact q H us s hd (by simpa using ha)
  · obtain ⟨us, ds, s, hd, hk, ha, q⟩ := h
    rw [nds.length hn, List.drop_length] at q
    exact q H us s hd (by simpa using ha)
section
variable {P : Program} {w : World} {K : PySem.W.Frag} {mg : Str → Option Value} {base : Heap}
def nReadBody : List Str := ["parts", "part"]
def pReadBody : List Str := ["parts"]
theorem scReadBody : FnScope nReadBody pReadBody (defScope sReadBody) := ⟨rfl, rfl, rfl, by decide +kernel, rfl, by decide +kernel, by decide +kernel⟩
theorem bReadBody : BindsBy "read_body" sReadBody pReadBody := fun _ _ _ _ _ _ us hl => match us, hl with | [_], _ => rfl
def nReadCall : List Str := ["parts", "name", "indexes", "index", "word"]
def pReadCall : List Str := ["parts"]
theorem scReadCall : FnScope nReadCall pReadCall (defScope sReadCall) := ⟨rfl, rfl, rfl, by decide +kernel, rfl, by decide +kernel, by decide +kernel⟩
theorem bReadCall : BindsBy "read_call" sReadCall pReadCall := fun _ _ _ _ _ _ us hl => match us, hl with | [_], _ => rfl
def nReadStatement : List Str := ["part", "head", "low", "high", "parts", "place", "test", "first", "name", "count", "value"]
def pReadStatement : List Str := ["part"]
theorem scReadStatement : FnScope nReadStatement pReadStatement (defScope sReadStatement) := ⟨rfl, rfl, rfl, by decide +kernel, rfl, by decide +kernel, by decide +kernel⟩
theorem bReadStatement : BindsBy "read_statement" sReadStatement pReadStatement := fun _ _ _ _ _ _ us hl => match us, hl with | [_], _ => rfl
/-- tuple([..]) of it -/
theorem tup_of {K : PySem.W.Frag} {H1 H : Hp} {D : Addr} {us : List V} {ds : List PyData} {Q : VK} (s : Same H1 H) (hd : H D = some (.lst us)) (ha : TvAll H us ds) (q : ∀ v' H', Same H1 H' → Tv H' v' (.tuple ds) → Q v' H') :
    ∃ p ys, [V.ref D] = [V.ref p] ∧ ((SqL K H p ys ∧ ∀ l, H l = none → Q (.ref l) (upd H l (.tup ys))) ∨ (SqT K H p ys ∧ Q (.ref p) H)) :=
  ⟨D, us, rfl, .inl ⟨SqL.of hd, fun l hl => q _ _ (s.trans (sameNew hl)) (dp_tup hl ha)⟩⟩
/-- a reader of a list of nodes: a body -/
def spBody (C : Addr) (n : Nat) (rd : Node → Rd PyData) : Sp := fun vs H Q E => ∃ l us ps, vs = [.ref l] ∧ H l = some (.lst us) ∧ nds H us ps ∧ us.length ≤ 6000 ∧ (∀ y ∈ ps, Ok n y) ∧
  Post (rdAll rd ps) (fun ds => ∀ v' H', Same H H' → Tv H' v' (.tuple ds) → Q v' H') (Err C E H)
theorem has_read_body (F : Facts w K mg) (PT : ProgT P) {k n : Nat} (h_read_statement : Has P w K mg base (L2.CX P w) k "read_statement" pReadStatement (spRead (tC K) n (rdStmt n))) :
    Has P w K mg base (L2.CX P w) (k + 1) "read_body" pReadBody (spBody (tC K) n (rdStmt n)) := by
  refine has_X F.g_read_body F.f_read_body scReadBody bReadBody (fun vs H Q E h => by obtain ⟨_, _, _, rfl, _⟩ := h; rfl) fun cdv A outer s H vs Q E hr h => ?_
  obtain ⟨l, us, ps, rfl, hl, hn, hz, ok, q⟩ := h
  refine ⟨_, (pss_one (ps_ret (pe_callTy call_tuple_of (by rfl) F.z_tuple (by decide +kernel) (pa_cons (pe_lcX (own := [("part", 1)]) (g := gName 1) rfl rfl rfl tkX (fun _ _ _ _ h => h) scReadBody.nd (pi_list (pv 0)) (blkOk_by (N := nReadBody) (sc := defScope sReadBody) (by decide +kernel)) (fun _ _ _ _ _ => (pg_name (i := 1) scReadBody.nd rfl (Or.inl rfl))) (fun _ _ _ _ _ _ hp => (pe_callH h_read_statement hr (by omega) rfl hp (pa_cons (pv 1) pa_nil)))) pa_nil)))), ?_⟩
  refine ⟨_, rfl, _, rfl, ⟨_, SqL.of hl⟩, fun D hD => lc_read hl hn hz hD (q.mono (fun ds _ q H' us' s' hd ha => ?_) fun _ _ z => z) (fun v y H' Q' hy s' hv q => ⟨_, rfl, v, y, rfl, hv, ok y hy, q⟩)⟩
  exact tup_of s' hd ha q
theorem body_post {β : Type} {rd : Node → Rd PyData} {x : Node} {f : PyData → Rd β} {ok : β → Prop} {er : Int → Prop} (q : Post (body rd x >>= f) ok er) :
    Post (partsIn 0 inf x >>= fun l => rdAll rd l >>= fun xs => f (.tuple xs)) ok er := by
  unfold body at q
  cases e : partsIn 0 inf x with
  | error i => rw [e] at q; exact q
  | ok l =>
    rw [e] at q
    show Post (rdAll rd l >>= fun xs => f (.tuple xs)) ok er
    have q : Post ((rdAll rd l >>= fun xs => (Except.ok (PyData.tuple xs) : Rd PyData)) >>= f) ok er := q
    cases e2 : rdAll rd l with
    | error i => rw [e2] at q; exact q
    | ok xs => rw [e2] at q; exact q
theorem nds4 {H : Hp} {vs : List V} {a b c d : Node} (h : nds H vs [a, b, c, d]) : ∃ va vb vc vd, vs = [va, vb, vc, vd] ∧ nd H va a ∧ nd H vb b ∧ nd H vc c ∧ nd H vd d := by
  obtain ⟨va, _, rfl, h1, vb, _, rfl, h2, vc, _, rfl, h3, vd, r, rfl, h4, rfl⟩ := h
  exact ⟨va, vb, vc, vd, rfl, h1, h2, h3, h4⟩
def callOf (idx : Node → Rd PyData) (n a b : Node) : Rd PyData := do
  let n ← nameOf n
  let x ← body idx a
  let y ← body nameD b
  .ok (.tuple [.str (S "call"), .str n, x, y])
def spCall (C : Addr) (n : Nat) (idx : Node → Rd PyData) : Sp := fun vs H Q E => ∃ l us x0 y a b, vs = [.ref l] ∧ H l = some (.lst us) ∧ nds H us [x0, y, a, b] ∧ Ok n y ∧ Ok n a ∧ Ok n b ∧
  Post (callOf idx y a b) (fun d => ∀ v' H', Same H H' → Tv H' v' d → Q v' H') (Err C E H)
theorem Ok.len {n : Nat} {ps : List Node} {i : Int} (h : Ok n (.form ps i)) : ps.length ≤ 6000 := by
  have a := h.good
  have b := h.wt
  rw [Node.good] at a
  rw [Node.wt] at b
  have := len_le_wts a.1
  omega
theorem Ok.sub {n : Nat} {ps : List Node} {i : Int} (h : Ok n (.form ps i)) {y : Node} (m : y ∈ ps) : Ok n y := by
  cases n with
  | zero => exact absurd h.dep (Nat.not_lt_zero _)
  | succ k => exact (h.part m).mono (Nat.le_succ _)
/-- nameD as name_of reads it -/
theorem nameD_post {x : Node} {ok : PyData → Prop} {er : Int → Prop} (q : Post (nameD x) ok er) : Post (nameOf x) (fun s => ok (.str s)) er := by
  unfold nameD at q
  cases e : nameOf x with
  | error i => rw [e] at q; exact q
  | ok s => rw [e] at q; exact q
theorem has_read_call (F : Facts w K mg) (PT : ProgT P) (n : Nat) : Has P w K mg base (L2.CX P w) (n + 5) "read_call" pReadCall (spCall (tC K) n (rdIdx n)) := by
  have h_name_of := has_name_of (base := base) F PT
  have h_parts_of_form := has_parts_of_form (base := base) F PT
  have h_read_index := has_read_index (base := base) F PT n
  refine has_X F.g_read_call F.f_read_call scReadCall bReadCall (fun vs H Q E h => by obtain ⟨_, _, _, _, _, _, rfl, _⟩ := h; rfl) fun cdv A outer s H vs Q E hr h => ?_
  obtain ⟨l, us, x0, y, a, b, rfl, hl, hn, oky, oka, okb, q⟩ := h
  obtain ⟨v0, vy, va, vb, rfl, _, hy, ha, hb⟩ := nds4 hn
  refine ⟨_, (pss_cons (ps_set (i := 1) scReadCall.nd rfl (Or.inl rfl) (pe_callH h_name_of hr (by omega) rfl (passes_call tkX fun _ _ _ _ h => h) (pa_cons (pe_ix ix_list (pv 0) pe_int (fun _ _ => rfl)) pa_nil)))
    (pss_cons (ps_set (i := 2) scReadCall.nd rfl (Or.inl rfl) (pe_callTy call_tuple_of (by rfl) F.z_tuple (by decide +kernel) (pa_cons (pe_lcX (own := [("index", 3)]) (g := gName 3) rfl rfl rfl tkX (fun _ _ _ _ h => h) scReadCall.nd (pi_list (pe_callH h_parts_of_form hr (by omega) rfl (passes_call tkX fun _ _ _ _ h => h) (pa_cons (pe_ix ix_list (pv 0) pe_int (fun _ _ => rfl)) (pa_cons pe_int (pa_cons (pe_glob (v := .int 6000) rfl (F.i_MAX_TEXT).choose_spec ⟨_, rfl⟩) pa_nil))))) (blkOk_by (N := nReadCall) (sc := defScope sReadCall) (by decide +kernel)) (fun _ _ _ _ _ => (pg_name (i := 3) scReadCall.nd rfl (Or.inl rfl))) (fun _ _ _ _ _ _ hp => (pe_callH h_read_index hr (by omega) rfl hp (pa_cons (pv 3) pa_nil)))) pa_nil)))
    (pss_one (ps_ret (pe_tup (pa_cons pe_str (pa_cons (pv 1) (pa_cons (pv 2) (pa_cons (pe_callTy call_tuple_of (by rfl) F.z_tuple (by decide +kernel) (pa_cons (pe_lcX (own := [("word", 4)]) (g := gName 4) rfl rfl rfl tkX (fun _ _ _ _ h => h) scReadCall.nd (pi_list (pe_callH h_parts_of_form hr (by omega) rfl (passes_call tkX fun _ _ _ _ h => h) (pa_cons (pe_ix ix_list (pv 0) pe_int (fun _ _ => rfl)) (pa_cons pe_int (pa_cons (pe_glob (v := .int 6000) rfl (F.i_MAX_TEXT).choose_spec ⟨_, rfl⟩) pa_nil))))) (blkOk_by (N := nReadCall) (sc := defScope sReadCall) (by decide +kernel)) (fun _ _ _ _ _ => (pg_name (i := 4) scReadCall.nd rfl (Or.inl rfl))) (fun _ _ _ _ _ _ hp => (pe_callH h_name_of hr (by omega) rfl hp (pa_cons (pv 4) pa_nil)))) pa_nil)) pa_nil))))))))), ?_⟩
  unfold callOf at q
  refine ⟨_, rfl, _, _, 1, vy, rfl, rfl, SqL.of hl, at_of (j := 1) rfl rfl, vy, y, rfl, hy, oky.wt, q.bind.mono (fun nm _ q H1 s1 => ?_) fun _ _ z => z⟩
  refine ⟨_, rfl, _, _, 2, va, rfl, rfl, SqL.of (s1 _ _ hl), at_of (j := 2) rfl rfl, va, a, _, _, rfl, parts_post (lo := 0) (hi := 6000) (body_post q) (nd.fr (frS s1) _ _ ha) (fun ps i l2 vs2 a2 ex ev h1 h2 h3 l1 l2 q2 => ?_) (fun _ z => z.same s1)⟩
  subst ex
  refine ⟨_, rfl, ⟨_, SqL.of h2⟩, fun D hD => lc_read h2 h3 (by rw [nds.length h3]; exact oka.len) hD (q2.bind.mono (fun ds _ q H2 us2 s2 hd had => ?_) fun _ _ z => z.same s1) (fun v y H' Q' hy s' hv q => ⟨_, rfl, v, y, rfl, hv, oka.sub hy, q⟩)⟩
  refine ⟨D, us2, rfl, .inl ⟨SqL.of hd, fun p3 hp3 => ?_⟩⟩
  have s3 := s2.trans (sameNew (o := .tup us2) hp3)
  have t3 := dp_tup hp3 had
  have s13 := s1.trans s3
  refine ⟨_, rfl, _, rfl, _, rfl, _, _, 3, vb, rfl, rfl, SqL.of (s13 _ _ hl), at_of (j := 3) rfl rfl, vb, b, _, _, rfl, parts_post (lo := 0) (hi := 6000) (body_post q) (nd.fr (frS s13) _ _ hb) (fun ps i l2 vs2 a2 ex ev h1 h2 h3 l1 l2 q3 => ?_) (fun _ z => z.same s13)⟩
  subst ex
  refine ⟨_, rfl, ⟨_, SqL.of h2⟩, fun D hD => lc_read h2 h3 (by rw [nds.length h3]; exact okb.len) hD (q3.bind.mono (fun ds _ q H4 us4 s4 hd had => ?_) fun _ _ z => z.same s13) (fun v y H' Q' hy s' hv q => ⟨_, rfl, v, y, rfl, hv, (okb.sub hy).wt, (nameD_post q).mono (fun s _ q H' s' => q _ _ s' (.str _)) fun _ _ z => z⟩)⟩
  refine ⟨D, us4, rfl, .inl ⟨SqL.of hd, fun p5 hp5 => ?_⟩⟩
  have s5 := s4.trans (sameNew (o := .tup us4) hp5)
  have t5 := dp_tup hp5 had
  exact ⟨lb rfl, fun p hp => q _ _ ((s13.trans s5).trans (sameNew hp)) (dp_tup hp (.cons (.str _) (.cons (.str _) (.cons (Tv.fr (frS s5) _ _ t3) (.cons t5 .nil)))))⟩
end
end K10
set_option maxHeartbeats 8000000
/-! K10Prog5: statements. Printed by expand.py from K10Prog5.tpl. -/
namespace K10
open PySem PySem.Spec PyProof.Rows L2
section
variable {P : Program} {w : World} {K : PySem.W.Frag} {mg : Str → Option Value} {base : Heap}
theorem len4 {ps : List Node} (a : 4 ≤ ps.length) (b : ps.length ≤ 4) : ∃ x y z t, ps = [x, y, z, t] := by
  match ps with
  | [x, y, z, t] => exact ⟨x, y, z, t, rfl⟩
  | [] => simp at a
  | [_] => simp at a
  | [_, _] => simp at a
  | [_, _, _] => simp at a
  | _ :: _ :: _ :: _ :: _ :: _ => simp at b
theorem lenM {ps : List Node} (a : 3 ≤ ps.length) : ∃ x y z r, ps = x :: y :: z :: r := by
  match ps with
  | x :: y :: z :: r => exact ⟨x, y, z, r, rfl⟩
  | [] => simp at a
  | [_] => simp at a
  | [_, _] => simp at a
theorem ndsM {H : Hp} {vs : List V} {a b c : Node} {r : List Node} (h : nds H vs (a :: b :: c :: r)) : ∃ va vb vc vr, vs = va :: vb :: vc :: vr ∧ nd H va a ∧ nd H vb b ∧ nd H vc c ∧ nds H vr r := by
  obtain ⟨va, _, rfl, h1, vb, _, rfl, h2, vc, vr, rfl, h3, h4⟩ := h
  exact ⟨va, vb, vc, vr, rfl, h1, h2, h3, h4⟩
theorem cut_from {xs : List V} (k : Nat) : cutV xs (some (k : Int)) none = xs.drop k := by
  unfold cutV
  rw [HT.sIx_nat, HT.sIx_none]
  by_cases h : k ≤ xs.length
  · rw [Nat.min_eq_left h, List.take_of_length_le]
    rw [List.length_drop]; omega
  · rw [Nat.min_eq_right (by omega), List.drop_length, List.drop_eq_nil_of_le (by omega), List.take_nil]
theorem cnt_of (F : Facts w K mg) {h : Str} (m : h ∈ wStmt) : ∃ a u, PySem.W.nsIn K (He.ga K "COUNTS") h = some (some u) ∧ KDct K w (He.ga K "COUNTS") h (.ref a) ∧ ∀ H, SqT K H a [.int (stLo h : Nat), .int (stHi h : Nat)] := by
  simp only [wStmt, List.mem_cons, List.not_mem_nil, or_false] at m
  rcases m with rfl | rfl | rfl | rfl | rfl
  · exact cntB_ok F (F.ex_ 4)
  · exact cntB_ok F (F.ex_ 5)
  · exact cntB_ok F (F.ex_ 6)
  · exact cntB_ok F (F.ex_ 7)
  · exact cntB_ok F (F.ex_ 8)
theorem has_read_statement (F : Facts w K mg) (PT : ProgT P) : ∀ n : Nat, Has P w K mg base (L2.CX P w) (2 * n + 11) "read_statement" pReadStatement (spRead (tC K) n (rdStmt n))
  | 0 => by
    refine has_X (k := 2 * 0 + 10) F.g_read_statement F.f_read_statement scReadStatement bReadStatement (fun vs H Q E h => by obtain ⟨_, _, rfl, _⟩ := h; rfl) fun cdv A outer s H vs Q E hr h => ?_
    obtain ⟨v, x, rfl, hn, ok, q⟩ := h
    exact absurd ok.dep (Nat.not_lt_zero _)
  | n + 1 => by
    have h_read_body := has_read_body F PT (has_read_statement F PT n)
    have h_head_of := has_head_of (base := base) F PT
    have h_name_of := has_name_of (base := base) F PT
    have h_parts_of_form := has_parts_of_form (base := base) F PT
    have h_read_index := has_read_index (base := base) F PT (n + 1)
    have h_read_place := has_read_place (base := base) F PT (n + 1)
    have h_read_expression := has_read_expression (base := base) F PT (n + 1)
    have h_read_test := has_read_test (base := base) F PT (n + 1)
    have h_read_call := has_read_call (base := base) F PT (n + 1)
    obtain ⟨es, en, KD⟩ := F.kd
    refine has_X (k := 2 * n + 12) F.g_read_statement F.f_read_statement scReadStatement bReadStatement (fun vs H Q E h => by obtain ⟨_, _, rfl, _⟩ := h; rfl) fun cdv A outer s H vs Q E hr h => ?_
    obtain ⟨v, x, rfl, hn, ok, q⟩ := h
    refine ⟨_, (pss_cons (ps_set (i := 1) scReadStatement.nd rfl (Or.inl rfl) (pe_callH h_head_of hr (by omega) rfl (passes_call tkX fun _ _ _ _ h => h) (pa_cons (pv 0) pa_nil)))
    (pss_cons (ps_if (pt_cmpR (op_notIn_kd KD) (pv 1) (pe_glob (v := .ref (He.ga K "COUNTS")) rfl F.g_COUNTS rfl) (by rfl)) (pss_one (ps_raiseT rfl PT F.tx hr tkX (pa_cons (pe_ix ix_tup (pe_ix ix_list (pe_ix ix_tup (pv 0) pe_int (fun _ _ => rfl)) pe_int (fun _ _ => rfl)) pe_int (fun _ _ => rfl)) pa_nil)))
      pss_nil)
    (pss_cons (ps_asg (pe_ix ix_kdict (pe_glob (v := .ref (He.ga K "COUNTS")) rfl F.g_COUNTS rfl) (pv 1) (fun _ _ => rfl)) (pg_tup rfl (pgs_cons (pg_name (i := 2) scReadStatement.nd rfl (Or.inl rfl)) (pgs_cons (pg_name (i := 3) scReadStatement.nd rfl (Or.inl rfl)) pgs_nil))))
    (pss_cons (ps_set (i := 4) scReadStatement.nd rfl (Or.inl rfl) (pe_callH h_parts_of_form hr (by omega) rfl (passes_call tkX fun _ _ _ _ h => h) (pa_cons (pv 0) (pa_cons (pv 2) (pa_cons (pv 3) pa_nil)))))
    (pss_cons (ps_if (pt_cmpR op_eq (pv 1) pe_str (nomark _)) (pss_cons (ps_set (i := 5) scReadStatement.nd rfl (Or.inl rfl) (pe_callH h_read_place hr (by omega) rfl (passes_call tkX fun _ _ _ _ h => h) (pa_cons (pe_ix ix_list (pv 4) pe_int (fun _ _ => rfl)) pa_nil)))
      (pss_one (ps_ret (pe_tup (pa_cons pe_str (pa_cons (pv 5) (pa_cons (pe_callH h_read_expression hr (by omega) rfl (passes_call tkX fun _ _ _ _ h => h) (pa_cons (pe_ix ix_list (pv 4) pe_int (fun _ _ => rfl)) pa_nil)) pa_nil)))))))
      pss_nil)
    (pss_cons (ps_if (pt_cmpR op_eq (pv 1) pe_str (nomark _)) (pss_cons (ps_set (i := 6) scReadStatement.nd rfl (Or.inl rfl) (pe_callH h_read_test hr (by omega) rfl (passes_call tkX fun _ _ _ _ h => h) (pa_cons (pe_ix ix_list (pv 4) pe_int (fun _ _ => rfl)) pa_nil)))
      (pss_cons (ps_set (i := 7) scReadStatement.nd rfl (Or.inl rfl) (pe_callH h_read_body hr (by omega) rfl (passes_call tkX fun _ _ _ _ h => h) (pa_cons (pe_callH h_parts_of_form hr (by omega) rfl (passes_call tkX fun _ _ _ _ h => h) (pa_cons (pe_ix ix_list (pv 4) pe_int (fun _ _ => rfl)) (pa_cons pe_int (pa_cons (pe_glob (v := .int 6000) rfl (F.i_MAX_TEXT).choose_spec ⟨_, rfl⟩) pa_nil)))) pa_nil)))
      (pss_one (ps_ret (pe_tup (pa_cons pe_str (pa_cons (pv 6) (pa_cons (pv 7) (pa_cons (pe_callH h_read_body hr (by omega) rfl (passes_call tkX fun _ _ _ _ h => h) (pa_cons (pe_callH h_parts_of_form hr (by omega) rfl (passes_call tkX fun _ _ _ _ h => h) (pa_cons (pe_ix ix_list (pv 4) pe_int (fun _ _ => rfl)) (pa_cons pe_int (pa_cons (pe_glob (v := .int 6000) rfl (F.i_MAX_TEXT).choose_spec ⟨_, rfl⟩) pa_nil)))) pa_nil)) pa_nil)))))))))
      pss_nil)
    (pss_cons (ps_if (pt_cmpR op_eq (pv 1) pe_str (nomark _)) (pss_one (ps_ret (pe_callH h_read_call hr (by omega) rfl (passes_call tkX fun _ _ _ _ h => h) (pa_cons (pv 4) pa_nil))))
      pss_nil)
    (pss_cons (ps_set (i := 8) scReadStatement.nd rfl (Or.inl rfl) (pe_callH h_name_of hr (by omega) rfl (passes_call tkX fun _ _ _ _ h => h) (pa_cons (pe_ix ix_list (pv 4) pe_int (fun _ _ => rfl)) pa_nil)))
    (pss_cons (ps_if (pt_cmpR op_eq (pv 1) pe_str (nomark _)) (pss_cons (ps_set (i := 9) scReadStatement.nd rfl (Or.inl rfl) (pe_callH h_read_index hr (by omega) rfl (passes_call tkX fun _ _ _ _ h => h) (pa_cons (pe_ix ix_list (pv 4) pe_int (fun _ _ => rfl)) pa_nil)))
      (pss_one (ps_ret (pe_tup (pa_cons pe_str (pa_cons (pv 8) (pa_cons (pv 9) (pa_cons (pe_callH h_read_body hr (by omega) rfl (passes_call tkX fun _ _ _ _ h => h) (pa_cons (pe_slice sl_list (pv 4) (po_some pe_int) po_none) pa_nil)) pa_nil))))))))
      pss_nil)
    (pss_cons (ps_set (i := 10) scReadStatement.nd rfl (Or.inl rfl) (pe_callH h_read_expression hr (by omega) rfl (passes_call tkX fun _ _ _ _ h => h) (pa_cons (pe_ix ix_list (pv 4) pe_int (fun _ _ => rfl)) pa_nil)))
    (pss_one (ps_ret (pe_tup (pa_cons pe_str (pa_cons (pv 8) (pa_cons (pv 10) (pa_cons (pe_callH h_read_body hr (by omega) rfl (passes_call tkX fun _ _ _ _ h => h) (pa_cons (pe_slice sl_list (pv 4) (po_some pe_int) po_none) pa_nil)) pa_nil))))))))))))))))), ?_⟩
    rw [rdStmt, stmtStep] at q
    refine ⟨_, rfl, _, x, rfl, hn, ?_⟩
    refine (head_post q).mono (fun h _ hh => ?_) (fun _ _ z => z)
    obtain ⟨j, r, i', ex, hin, hout⟩ := hh
    cases ex
    intro H1 s1
    have hn1 := nd.fr (frS s1) _ _ hn
    by_cases m : h ∈ wStmt
    rotate_left
    · exact ⟨_, rfl, h, none, rfl, rfl, F.cnt_not m, _, rfl, iteT (raise_first rfl hn1 ((hout m).same s1))⟩
    obtain ⟨ca, cu, c1, c2, c3⟩ := cnt_of F m
    refine ⟨_, rfl, h, some cu, rfl, rfl, c1, _, rfl, iteF ⟨_, rfl, _, h, _, rfl, rfl, c2, ca, _, rfl, c3 H1, rfl, _, _, rfl, _, _, rfl, rfl, ?_⟩⟩
    refine ⟨_, rfl, _, rfl, _, rfl, _, _, _, _, rfl, parts_post (hin m) hn1 (fun ps i l vs a ex ev h1 h2 h3 l1 l2 q => ?_) (fun _ z => z.same s1)⟩
    cases ex
    have okp : ∀ y ∈ Node.word h j :: r, Ok n y := fun y hy => ok.part hy
    generalize Node.word h j :: r = ps at *
    refine ⟨_, rfl, rfl, _, rfl, ite2 (fun c => ?_) (fun c => ?_)⟩
    · -- set
      have c : h = S "set" := by rw [str_eq] at c; exact of_decide_eq_true c
      rw [c, show stLo (S "set") = 3 by decide +kernel] at l1
      rw [c, show stHi (S "set") = 3 by decide +kernel] at l2
      obtain ⟨x0, y, z, ep⟩ := len3 l1 l2
      rw [if_pos c, ep] at q
      rw [ep] at h3
      have oky : Ok n y := okp y (by rw [ep]; simp)
      have okz : Ok n z := okp z (by rw [ep]; simp)
      obtain ⟨v0, vy, vz, rfl, _, hy, hz⟩ := nds3 h3
      refine ⟨_, rfl, _, _, 1, vy, rfl, rfl, SqL.of h2, at_of (j := 1) rfl rfl, vy, y, rfl, hy, oky.mono (by omega), q.bind.mono (fun d ed q pa va H3 s3 tp tv => ?_) (fun _ _ z => z.same s1)⟩
      have s13 := s1.trans s3
      refine ⟨_, rfl, _, rfl, _, _, 2, vz, rfl, rfl, SqL.of (s3 _ _ h2), at_of (j := 2) rfl rfl, vz, z, rfl, nd.fr (frS s3) _ _ hz, okz.mono (by omega), q.bind.mono (fun d' ed' q v2 H4 s4 d3 => ?_) (fun _ _ z => z.same s13)⟩
      rw [c] at q
      exact ⟨lb rfl, fun p hp => q _ _ ((s13.trans s4).trans (sameNew hp)) (dp_tup hp (.cons (.str _) (.cons (Tv.fr (frS s4) _ _ (.tup tp (.cons (.str _) (.cons tv .nil)))) (.cons d3 .nil))))⟩
    have c : ¬ h = S "set" := by rw [str_eq] at c; simpa using c
    rw [if_neg c] at q
    refine ⟨_, rfl, rfl, _, rfl, ite2 (fun c2 => ?_) (fun c2 => ?_)⟩
    · -- if
      have c2 : h = S "if" := by rw [str_eq] at c2; exact of_decide_eq_true c2
      rw [c2, show stLo (S "if") = 4 by decide +kernel] at l1
      rw [c2, show stHi (S "if") = 4 by decide +kernel] at l2
      obtain ⟨x0, t, y, z, ep⟩ := len4 l1 l2
      rw [if_pos c2, ep] at q
      rw [ep] at h3
      have okt : Ok n t := okp t (by rw [ep]; simp)
      have oky : Ok n y := okp y (by rw [ep]; simp)
      have okz : Ok n z := okp z (by rw [ep]; simp)
      obtain ⟨v0, vt, vy, vz, rfl, _, ht, hy, hz⟩ := nds4 h3
      refine ⟨_, rfl, _, _, 1, vt, rfl, rfl, SqL.of h2, at_of (j := 1) rfl rfl, vt, t, rfl, ht, okt.mono (by omega), q.bind.mono (fun d ed q v1 H2 s2 d1 => ?_) (fun _ _ z => z.same s1)⟩
      have s12 := s1.trans s2
      refine ⟨_, rfl, _, _, 2, vy, rfl, rfl, SqL.of (s2 _ _ h2), at_of (j := 2) rfl rfl, vy, y, _, _, rfl, parts_post (lo := 0) (hi := 6000) (body_post q) (nd.fr (frS s2) _ _ hy) (fun ps3 i3 l3 vs3 a3 ex ev g1 g2 g3 k1 k2 q3 => ?_) (fun _ z => z.same s12)⟩
      subst ex
      refine ⟨l3, vs3, ps3, rfl, g2, g3, by rw [nds.length g3]; exact oky.len, fun u hu => oky.sub hu, q3.bind.mono (fun ds _ q4 v2 H3 s3 d2 => ?_) (fun _ _ z => z.same s12)⟩
      have s13 := s12.trans s3
      refine ⟨_, rfl, _, rfl, _, rfl, _, _, 3, vz, rfl, rfl, SqL.of ((s2.trans s3) _ _ h2), at_of (j := 3) rfl rfl, vz, z, _, _, rfl, parts_post (lo := 0) (hi := 6000) (body_post q4) (nd.fr (frS (s2.trans s3)) _ _ hz) (fun ps5 i5 l5 vs5 a5 ex ev g1 g2 g3 k1 k2 q5 => ?_) (fun _ z => z.same s13)⟩
      subst ex
      refine ⟨l5, vs5, ps5, rfl, g2, g3, by rw [nds.length g3]; exact okz.len, fun u hu => okz.sub hu, q5.bind.mono (fun ds _ q6 v3 H4 s4 d3 => ?_) (fun _ _ z => z.same s13)⟩
      rw [c2] at q6
      exact ⟨lb rfl, fun p hp => q6 _ _ ((s13.trans s4).trans (sameNew hp)) (dp_tup hp (.cons (.str _) (.cons (Tv.fr (frS (s3.trans s4)) _ _ d1) (.cons (Tv.fr (frS s4) _ _ d2) (.cons d3 .nil)))))⟩
    have c2 : ¬ h = S "if" := by rw [str_eq] at c2; simpa using c2
    rw [if_neg c2] at q
    refine ⟨_, rfl, rfl, _, rfl, ite2 (fun c3 => ?_) (fun c3 => ?_)⟩
    · -- call
      have c3 : h = S "call" := by rw [str_eq] at c3; exact of_decide_eq_true c3
      rw [c3, show stLo (S "call") = 4 by decide +kernel] at l1
      rw [c3, show stHi (S "call") = 4 by decide +kernel] at l2
      obtain ⟨x0, t, y, z, ep⟩ := len4 l1 l2
      rw [if_pos c3, ep, c3] at q
      rw [ep] at h3
      have okt : Ok n t := okp t (by rw [ep]; simp)
      have oky : Ok n y := okp y (by rw [ep]; simp)
      have okz : Ok n z := okp z (by rw [ep]; simp)
      exact ⟨_, rfl, l, vs, x0, t, y, z, rfl, h2, h3, okt.mono (by omega), oky.mono (by omega), okz.mono (by omega), q.mono (fun d _ q v' H' s' tv => q v' H' (s1.trans s') tv) (fun _ _ z => z.same s1)⟩
    have c3 : ¬ h = S "call" := by rw [str_eq] at c3; simpa using c3
    rw [if_neg c3] at q
    have l1 : 3 ≤ ps.length := by
      rw [show stLo h = 3 by unfold stLo; rw [if_neg (by rintro (z | z); exact c2 z; exact c3 z)]] at l1
      exact l1
    obtain ⟨x0, y, z, r', ep⟩ := lenM l1
    rw [ep] at h3 q
    have oky : Ok n y := okp y (by rw [ep]; simp)
    have okz : Ok n z := okp z (by rw [ep]; simp)
    have okr : ∀ u ∈ r', Ok n u := fun u hu => okp u (by rw [ep]; simp [hu])
    have hlen : r'.length ≤ 6000 := by
      have a1 := ok.len
      rw [ep] at a1
      simp at a1
      omega
    obtain ⟨v0, vy, vz, vr, rfl, _, hy, hz, hvr⟩ := ndsM h3
    refine ⟨_, rfl, _, _, 1, vy, rfl, rfl, SqL.of h2, at_of (j := 1) rfl rfl, vy, y, rfl, hy, oky.wt, q.bind.mono (fun nm _ q H2 s2 => ?_) (fun _ _ z => z.same s1)⟩
    have s12 := s1.trans s2
    have cut : cutV (v0 :: vy :: vz :: vr) (some (3 : Int)) none = vr := cut_from 3
    refine ⟨_, rfl, rfl, _, rfl, ite2 (fun c4 => ?_) (fun c4 => ?_)⟩
    · -- loop
      have c4 : h = S "loop" := by rw [str_eq] at c4; exact of_decide_eq_true c4
      simp only [if_pos c4] at q
      refine ⟨_, rfl, _, _, 2, vz, rfl, rfl, SqL.of (s2 _ _ h2), at_of (j := 2) rfl rfl, vz, z, rfl, nd.fr (frS s2) _ _ hz, okz.mono (by omega), q.bind.mono (fun d ed q v1 H3 s3 d1 => ?_) (fun _ _ z => z.same s12)⟩
      have s13 := s12.trans s3
      refine ⟨_, rfl, _, rfl, _, rfl, _, rfl, _, _, rfl, SqL.of ((s2.trans s3) _ _ h2), fun p hp => ?_⟩
      have sp := sameNew (o := .lst (cutV (v0 :: vy :: vz :: vr) (some (3 : Int)) none)) hp
      refine ⟨p, vr, r', rfl, by rw [cut]; exact upd_same, nds.fr (frS ((s2.trans s3).trans sp)) _ _ hvr, by rw [nds.length hvr]; exact hlen, okr, q.bind.mono (fun ds _ q v2 H4 s4 d2 => ?_) (fun _ _ z => z.same (s13.trans sp))⟩
      rw [c4] at q
      exact ⟨lb rfl, fun p hp => q _ _ (((s13.trans sp).trans s4).trans (sameNew hp)) (dp_tup hp (.cons (.str _) (.cons (.str _) (.cons (Tv.fr (frS (sp.trans s4)) _ _ d1) (.cons d2 .nil)))))⟩
    · -- let
      have c4 : ¬ h = S "loop" := by rw [str_eq] at c4; simpa using c4
      simp only [if_neg c4] at q
      have eh : h = S "let" := by
        simp only [wStmt, List.mem_cons, List.not_mem_nil, or_false] at m
        rcases m with m | m | m | m | m
        · exact absurd m c
        · exact absurd m c4
        · exact absurd m c2
        · exact absurd m c3
        · exact m
      refine ⟨_, rfl, _, _, 2, vz, rfl, rfl, SqL.of (s2 _ _ h2), at_of (j := 2) rfl rfl, vz, z, rfl, nd.fr (frS s2) _ _ hz, okz.mono (by omega), q.bind.mono (fun d ed q v1 H3 s3 d1 => ?_) (fun _ _ z => z.same s12)⟩
      have s13 := s12.trans s3
      refine ⟨_, rfl, _, rfl, _, rfl, _, rfl, _, _, rfl, SqL.of ((s2.trans s3) _ _ h2), fun p hp => ?_⟩
      have sp := sameNew (o := .lst (cutV (v0 :: vy :: vz :: vr) (some (3 : Int)) none)) hp
      refine ⟨p, vr, r', rfl, by rw [cut]; exact upd_same, nds.fr (frS ((s2.trans s3).trans sp)) _ _ hvr, by rw [nds.length hvr]; exact hlen, okr, q.bind.mono (fun ds _ q v2 H4 s4 d2 => ?_) (fun _ _ z => z.same (s13.trans sp))⟩
      rw [eh] at q
      exact ⟨lb rfl, fun p hp => q _ _ (((s13.trans sp).trans s4).trans (sameNew hp)) (dp_tup hp (.cons (.str _) (.cons (.str _) (.cons (Tv.fr (frS (sp.trans s4)) _ _ d1) (.cons d2 .nil)))))⟩
end
end K10
/-! K10Prog6: variables, procedures, declarations. Printed by expand.py from K10Prog6.tpl. -/
namespace K10
open PySem PySem.Spec PyProof.Rows L2
section
variable {P : Program} {w : World} {K : PySem.W.Frag} {mg : Str → Option Value} {base : Heap}
def nReadVariable : List Str := ["parts", "name"]
def pReadVariable : List Str := ["parts"]
theorem scReadVariable : FnScope nReadVariable pReadVariable (defScope sReadVariable) := ⟨rfl, rfl, rfl, by decide +kernel, rfl, by decide +kernel, by decide +kernel⟩
theorem bReadVariable : BindsBy "read_variable" sReadVariable pReadVariable := fun _ _ _ _ _ _ us hl => match us, hl with | [_], _ => rfl
def nReadProcedure : List Str := ["part", "parts", "name", "indexes", "references", "reference", "word"]
def pReadProcedure : List Str := ["part"]
theorem scReadProcedure : FnScope nReadProcedure pReadProcedure (defScope sReadProcedure) := ⟨rfl, rfl, rfl, by decide +kernel, rfl, by decide +kernel, by decide +kernel⟩
theorem bReadProcedure : BindsBy "read_procedure" sReadProcedure pReadProcedure := fun _ _ _ _ _ _ us hl => match us, hl with | [_], _ => rfl
def nReadDeclaration : List Str := ["part", "stage", "head", "group"]
def pReadDeclaration : List Str := ["part", "stage"]
theorem scReadDeclaration : FnScope nReadDeclaration pReadDeclaration (defScope sReadDeclaration) := ⟨rfl, rfl, rfl, by decide +kernel, rfl, by decide +kernel, by decide +kernel⟩
theorem bReadDeclaration : BindsBy "read_declaration" sReadDeclaration pReadDeclaration := fun _ _ _ _ _ _ us hl => match us, hl with | [_, _], _ => rfl
theorem int_eq (a b : Int) : decide (V.int a = V.int b) = decide (a = b) := by
  by_cases y : a = b
  · subst y; simp
  · rw [decide_eq_false y, decide_eq_false]
    intro h
    injection h with h
    exact y h
/-- a reader of a variable's parts -/
def spVar (C : Addr) : Sp := fun vs H Q E => ∃ l us ps, vs = [.ref l] ∧ H l = some (.lst us) ∧ nds H us ps ∧ 1 ≤ ps.length ∧ (∀ y ∈ ps, y.wt ≤ 6000) ∧
  Post (varOf ps) (fun d => ∀ v' H', Same H H' → Tv H' v' d → Q v' H') (Err C E H)
theorem has_read_variable (F : Facts w K mg) (PT : ProgT P) : Has P w K mg base (L2.CX P w) 4 "read_variable" pReadVariable (spVar (tC K)) := by
  have h_name_of := has_name_of (base := base) F PT
  have h_numeral_of := has_numeral_of (base := base) F PT
  refine has_X F.g_read_variable F.f_read_variable scReadVariable bReadVariable (fun vs H Q E h => by obtain ⟨_, _, _, rfl, _⟩ := h; rfl) fun cdv A outer s H vs Q E hr h => ?_
  obtain ⟨l, us, ps, rfl, hl, hn, h1, ok, q⟩ := h
  refine ⟨_, (pss_cons (ps_set (i := 1) scReadVariable.nd rfl (Or.inl rfl) (pe_callH h_name_of hr (by omega) rfl (passes_call tkX fun _ _ _ _ h => h) (pa_cons (pe_ix ix_list (pv 0) pe_int (fun _ _ => rfl)) pa_nil)))
    (pss_cons (ps_if (pt_cmpR op_eq (pe_callB call_len_seq (by rfl) F.z_len (by decide +kernel) (pa_cons (pv 0) pa_nil)) pe_int (nomark _)) (pss_one (ps_ret (pe_tup (pa_cons (pv 1) (pa_cons pe_int pa_nil)))))
      pss_nil)
    (pss_one (ps_ret (pe_tup (pa_cons (pv 1) (pa_cons (pe_callH h_numeral_of hr (by omega) rfl (passes_call tkX fun _ _ _ _ h => h) (pa_cons (pe_ix ix_list (pv 0) pe_int (fun _ _ => rfl)) (pa_cons pe_int (pa_cons (pe_glob (v := .int 8) rfl (F.i_MAX_SIZE).choose_spec ⟨_, rfl⟩) pa_nil)))) pa_nil))))))), ?_⟩
  match ps, h1, hn, ok, q with
  | [a], _, hn, ok, q =>
    obtain ⟨va, r, rfl, ha, rfl⟩ := hn
    simp only [varOf] at q
    refine ⟨_, rfl, _, _, 0, va, rfl, rfl, SqL.of hl, at_of (j := 0) rfl rfl, va, a, rfl, ha, ok a (by simp), q.bind.mono (fun nm _ q H1 s1 => ?_) fun _ _ z => z⟩
    refine ⟨_, rfl, _, _, rfl, .inl (SqL.of (s1 _ _ hl)), rfl, _, rfl, iteT ⟨_, rfl, lb rfl, fun p hp => q _ _ (s1.trans (sameNew hp)) (dp_tup hp (.cons (.str _) (.cons (.int _) .nil)))⟩⟩
  | a :: b :: r, _, hn, ok, q =>
    obtain ⟨va, _, rfl, ha, vb, vr, rfl, hb, hr⟩ := hn
    simp only [varOf] at q
    refine ⟨_, rfl, _, _, 0, va, rfl, rfl, SqL.of hl, at_of (j := 0) rfl rfl, va, a, rfl, ha, ok a (by simp), q.bind.mono (fun nm _ q H1 s1 => ?_) fun _ _ z => z⟩
    refine ⟨_, rfl, _, _, rfl, .inl (SqL.of (s1 _ _ hl)), rfl, _, rfl, ite2 (fun z => ?_) (fun z => ?_)⟩
    · rw [int_eq] at z
      have z := of_decide_eq_true z
      simp at z
      omega
    · refine ⟨_, rfl, _, rfl, _, _, 1, vb, rfl, rfl, SqL.of (s1 _ _ hl), at_of (j := 1) rfl rfl, vb, b, 1, 8, rfl, nd.fr (frS s1) _ _ hb, ok b (by simp), q.bind.mono (fun k _ q H2 s2 => ?_) fun _ _ z => z.same s1⟩
      exact ⟨lb rfl, fun p hp => q _ _ ((s1.trans s2).trans (sameNew hp)) (dp_tup hp (.cons (.str _) (.cons (.int _) .nil)))⟩
theorem lenP {ps : List Node} (a : 4 ≤ ps.length) : ∃ x y z t r, ps = x :: y :: z :: t :: r := by
  match ps with
  | x :: y :: z :: t :: r => exact ⟨x, y, z, t, r, rfl⟩
  | [] => simp at a
  | [_] => simp at a
  | [_, _] => simp at a
  | [_, _, _] => simp at a
theorem refOf_post {β : Type} {x : Node} {f : PyData → Rd β} {ok : β → Prop} {er : Int → Prop} (q : Post (refOf x >>= f) ok er) : Post (partsIn 1 2 x >>= fun ps => varOf ps >>= f) ok er := by
  unfold refOf at q
  cases e : partsIn 1 2 x with
  | error i => rw [e] at q; exact q
  | ok l => rw [e] at q; exact q
theorem refOf_post0 {x : Node} {ok : PyData → Prop} {er : Int → Prop} (q : Post (refOf x) ok er) : Post (partsIn 1 2 x >>= varOf) ok er := q
theorem has_read_procedure (F : Facts w K mg) (PT : ProgT P) (n : Nat) : Has P w K mg base (L2.CX P w) (2 * n + 13) "read_procedure" pReadProcedure (spRead (tC K) n (procOf (rdStmt n))) := by
  have h_name_of := has_name_of (base := base) F PT
  have h_parts_of_form := has_parts_of_form (base := base) F PT
  have h_read_variable := has_read_variable (base := base) F PT
  have h_read_body := has_read_body F PT (has_read_statement (base := base) F PT n)
  refine has_X (k := 2 * n + 12) F.g_read_procedure F.f_read_procedure scReadProcedure bReadProcedure (fun vs H Q E h => by obtain ⟨_, _, rfl, _⟩ := h; rfl) fun cdv A outer s H vs Q E hr h => ?_
  obtain ⟨v, x, rfl, hn, ok, q⟩ := h
  refine ⟨_, (pss_cons (ps_set (i := 1) scReadProcedure.nd rfl (Or.inl rfl) (pe_callH h_parts_of_form hr (by omega) rfl (passes_call tkX fun _ _ _ _ h => h) (pa_cons (pv 0) (pa_cons pe_int (pa_cons (pe_glob (v := .int 6000) rfl (F.i_MAX_TEXT).choose_spec ⟨_, rfl⟩) pa_nil)))))
    (pss_cons (ps_set (i := 2) scReadProcedure.nd rfl (Or.inl rfl) (pe_callH h_name_of hr (by omega) rfl (passes_call tkX fun _ _ _ _ h => h) (pa_cons (pe_ix ix_list (pv 1) pe_int (fun _ _ => rfl)) pa_nil)))
    (pss_cons (ps_set (i := 3) scReadProcedure.nd rfl (Or.inl rfl) (pe_callTy call_tuple_of (by rfl) F.z_tuple (by decide +kernel) (pa_cons (pe_lcX (own := [("word", 6)]) (g := gName 6) rfl rfl rfl tkX (fun _ _ _ _ h => h) scReadProcedure.nd (pi_list (pe_callH h_parts_of_form hr (by omega) rfl (passes_call tkX fun _ _ _ _ h => h) (pa_cons (pe_ix ix_list (pv 1) pe_int (fun _ _ => rfl)) (pa_cons pe_int (pa_cons (pe_glob (v := .int 6000) rfl (F.i_MAX_TEXT).choose_spec ⟨_, rfl⟩) pa_nil))))) (blkOk_by (N := nReadProcedure) (sc := defScope sReadProcedure) (by decide +kernel)) (fun _ _ _ _ _ => (pg_name (i := 6) scReadProcedure.nd rfl (Or.inl rfl))) (fun _ _ _ _ _ _ hp => (pe_callH h_name_of hr (by omega) rfl hp (pa_cons (pv 6) pa_nil)))) pa_nil)))
    (pss_cons (ps_set (i := 4) scReadProcedure.nd rfl (Or.inl rfl) (pe_lst pa_nil))
    (pss_cons (ps_for (passes_of rfl) rfl (pi_list (pe_callH h_parts_of_form hr (by omega) rfl (passes_call tkX fun _ _ _ _ h => h) (pa_cons (pe_ix ix_list (pv 1) pe_int (fun _ _ => rfl)) (pa_cons pe_int (pa_cons (pe_glob (v := .int 6000) rfl (F.i_MAX_TEXT).choose_spec ⟨_, rfl⟩) pa_nil))))) (pg_name (i := 5) scReadProcedure.nd rfl (Or.inl rfl))
      (pss_one (ps_expr (pe_bm PySem.F.plainAttrs_list PySem.F.slot_list_append PySem.F.type_list_append mt_append (pv 4) (pa_cons (pe_callH h_read_variable hr (by omega) rfl (passes_call tkX fun _ _ _ _ h => h) (pa_cons (pe_callH h_parts_of_form hr (by omega) rfl (passes_call tkX fun _ _ _ _ h => h) (pa_cons (pv 5) (pa_cons pe_int (pa_cons pe_int pa_nil)))) pa_nil)) pa_nil)))))
    (pss_one (ps_ret (pe_tup (pa_cons (pv 2) (pa_cons (pv 3) (pa_cons (pe_callTy call_tuple_of (by rfl) F.z_tuple (by decide +kernel) (pa_cons (pv 4) pa_nil)) (pa_cons (pe_callH h_read_body hr (by omega) rfl (passes_call tkX fun _ _ _ _ h => h) (pa_cons (pe_slice sl_list (pv 1) (po_some pe_int) po_none) pa_nil)) pa_nil)))))))))))), ?_⟩
  unfold procOf at q
  refine ⟨_, rfl, v, x, _, _, rfl, parts_post (lo := 4) (hi := 6000) q hn (fun ps i l vs a ex ev h1 h2 h3 l1 l2 q1 => ?_) (fun _ z => z)⟩
  subst ex
  obtain ⟨x0, y, b, c, r', ep⟩ := lenP l1
  have oky : Ok n y := ok.sub (by rw [ep]; simp)
  have okb : Ok n b := ok.sub (by rw [ep]; simp)
  have okc : Ok n c := ok.sub (by rw [ep]; simp)
  have okr : ∀ u ∈ r', Ok n u := fun u hu => ok.sub (by rw [ep]; simp [hu])
  have hlen : r'.length ≤ 6000 := by
    have a1 := ok.len
    rw [ep] at a1
    simp at a1
    omega
  rw [ep] at h3 q1
  obtain ⟨v0, _, rfl, _, vy, vb, vc, vr, rfl, hy, hb, hc, hvr⟩ : ∃ v0 u, vs = v0 :: u ∧ nd H v0 x0 ∧ ∃ vy vb vc vr, u = vy :: vb :: vc :: vr ∧ nd H vy y ∧ nd H vb b ∧ nd H vc c ∧ nds H vr r' := by
    obtain ⟨v0, u, e, h0, h4⟩ := h3
    exact ⟨v0, u, e, h0, ndsM h4⟩
  refine ⟨_, rfl, _, _, 1, vy, rfl, rfl, SqL.of h2, at_of (j := 1) rfl rfl, vy, y, rfl, hy, oky.wt, q1.bind.mono (fun nm _ q1 H1 s1 => ?_) (fun _ _ z => z)⟩
  refine ⟨_, rfl, _, _, 2, vb, rfl, rfl, SqL.of (s1 _ _ h2), at_of (j := 2) rfl rfl, vb, b, _, _, rfl, parts_post (lo := 0) (hi := 6000) (body_post q1) (nd.fr (frS s1) _ _ hb) (fun ps3 i3 l3 vs3 a3 ex ev g1 g2 g3 k1 k2 q3 => ?_) (fun _ z => z.same s1)⟩
  subst ex
  refine ⟨_, rfl, ⟨_, SqL.of g2⟩, fun D hD => lc_read g2 g3 (by rw [nds.length g3]; exact okb.len) hD (q3.bind.mono (fun ds _ q3 H2 us2 s2 hd had => ?_) fun _ _ z => z.same s1) (fun v y H' Q' hy s' hv q => ⟨_, rfl, v, y, rfl, hv, (okb.sub hy).wt, (nameD_post q).mono (fun s _ q H' s' => q _ _ s' (.str _)) fun _ _ z => z⟩)⟩
  refine ⟨D, us2, rfl, .inl ⟨SqL.of hd, fun p3 hp3 => ?_⟩⟩
  have s3 := s2.trans (sameNew (o := .tup us2) hp3)
  have t3 := dp_tup hp3 had
  refine ⟨lb rfl, fun R hR => ?_⟩
  have s13 := s1.trans s3
  have sR := sameNew (o := .lst []) hR
  refine ⟨_, rfl, _, _, 3, vc, rfl, rfl, SqL.of ((s13.trans sR) _ _ h2), at_of (j := 3) rfl rfl, vc, c, _, _, rfl, parts_post (lo := 0) (hi := 6000) (body_post q3) (nd.fr (frS (s13.trans sR)) _ _ hc) (fun ps5 i5 l5 vs5 a5 ex ev g1 g2 g3 k1 k2 q5 => ?_) (fun _ z => z.same (s13.trans sR))⟩
  subst ex
  refine ⟨_, rfl, ⟨_, SqL.of g2⟩, ?_⟩
  generalize hB : upd H2 p3 (.tup us2) = HB at *
  have g3' : nds HB vs5 ps5 ∧ HB l5 = some (.lst vs5) := by
    obtain ⟨a6, l6, vs6, e6, f1, f2, f3⟩ := nd.fr (frS s13) _ _ hc
    rw [e6] at ev
    cases ev
    rw [sR _ _ f1] at g1
    cases g1
    rw [sR _ _ f2] at g2
    cases g2
    exact ⟨f3, f2⟩
  obtain ⟨G, hG, q6⟩ : ∃ G : List PyData → Prop, (∀ xs, G xs → Post (rdAll (rdStmt n) r' >>= fun z => (Except.ok (PyData.tuple [.str nm, .tuple ds, .tuple xs, .tuple z]) : Rd PyData)) (fun d => ∀ v' H', Same H H' → Tv H' v' d → Q v' H') (Err (tC K) E H)) ∧ Post (rdAll refOf ps5) G (Err (tC K) E H) := ⟨_, fun _ h => h, q5.bind⟩
  refine for_list (xs := vs5) (fun k σ H3 => ∃ z us ds, σ = [some v, some (.ref l), some (.str nm), some (.ref p3), some (.ref R), z, none] ∧ Same HB H3 ∧ H3 R = some (.lst us) ∧ us.length = k ∧ TvAll H3 us ds ∧
    Post (rdAll refOf (ps5.drop k)) (fun rest => G (ds ++ rest)) (Err (tC K) E H)) ⟨none, [], [], rfl, sR, upd_same, rfl, .nil, by simpa using q6⟩ (fun k σ H3 _ h => ?_) (fun k x σ H3 hx h => ?_) (fun σ H3 h => ?_)
  · obtain ⟨z, us, ds, _, s, _⟩ := h
    exact SqL.of (s _ _ g3'.2)
  · obtain ⟨z, us, ds, rfl, s, hd, hk, ha, q⟩ := h
    obtain ⟨y, hy, hny⟩ := nds.back g3'.1 hx
    have hkl : k < vs5.length := (List.getElem?_eq_some_iff.mp hx).1
    have hlen5 : vs5.length ≤ 6000 := by rw [nds.length g3'.1]; exact okc.len
    have oy : Ok n y := okc.sub (List.mem_of_getElem? hy)
    rw [drop_cons hy, rdAll] at q
    have q7 : Post (refOf y) (fun d => Post (rdAll refOf (ps5.drop (k + 1))) (fun rest => G (ds ++ (d :: rest))) (Err (tC K) E H)) (Err (tC K) E H) := by
      cases e : refOf y with
      | error er => rw [e] at q; exact q
      | ok d =>
        rw [e] at q
        cases e2 : rdAll refOf (ps5.drop (k + 1)) with
        | error er => rw [e2] at q; exact q
        | ok xs => rw [e2] at q; exact q
    refine ⟨_, rfl, .inl ⟨rfl, _, SqL.of hd⟩, _, rfl, _, y, _, _, rfl, parts_post (lo := 1) (hi := 2) (refOf_post0 q7) (nd.fr (frS s) _ _ hny) (fun ps8 i8 l8 vs8 a8 ex ev g1 g2 g3 k1 k2 q8 => ?_) (fun _ z => z.same (s13.trans s))⟩
    subst ex
    refine ⟨l8, vs8, ps8, rfl, g2, g3, k1, fun u hu => (oy.sub hu).wt, q8.mono (fun d _ q9 v' H' s' tv => ?_) (fun _ _ z => z.same (s13.trans s))⟩
    refine ⟨_, _, _, rfl, rfl, s' _ _ hd, by rw [line_eq]; omega, some x, us ++ [v'], ds ++ [d], rfl, Same.at_new (s.trans s') hR, upd_same, by simp [hk], ?_, q9.mono (fun rest _ g => by simpa using g) fun _ _ z => z⟩
    have ft : Ft H' (upd H' R (.lst (us ++ [v']))) := Ft.upd (s' _ _ hd) (fun _ z => nomatch z)
    exact (TvAll.ft ft _ _ (TvAll.fr (frS s') _ _ ha)).append (.cons (Tv.ft ft _ _ tv) .nil)
  · obtain ⟨z, us, ds5, rfl, s, hd, hk, ha, q⟩ := h
    rw [nds.length g3'.1, List.drop_length] at q
    have q := hG _ (show G (ds5 ++ []) from q)
    rw [List.append_nil] at q
    have s1n := s13.trans s
    refine ⟨_, rfl, _, rfl, _, rfl, R, us, rfl, .inl ⟨SqL.of hd, fun p9 hp9 => ?_⟩⟩
    have s9 := s.trans (sameNew (o := .tup us) hp9)
    have t9 := dp_tup hp9 ha
    refine ⟨_, rfl, _, rfl, _, _, rfl, SqL.of ((s13.trans s9) _ _ h2), fun p hp => ?_⟩
    have cut : cutV (v0 :: vy :: vb :: vc :: vr) (some (4 : Int)) none = vr := cut_from 4
    have sp := sameNew (o := .lst (cutV (v0 :: vy :: vb :: vc :: vr) (some (4 : Int)) none)) hp
    refine ⟨p, vr, r', rfl, by rw [cut]; exact upd_same, nds.fr (frS ((s13.trans s9).trans sp)) _ _ hvr, by rw [nds.length hvr]; exact hlen, okr, q.bind.mono (fun ds _ q v2 H4 s4 d2 => ?_) (fun _ _ z => z.same ((s13.trans s9).trans sp))⟩
    exact ⟨lb rfl, fun p hp => q _ _ ((((s13.trans s9).trans sp).trans s4).trans (sameNew hp)) (dp_tup hp (.cons (.str _) (.cons (Tv.fr (frS ((s9.trans sp).trans s4)) _ _ t3) (.cons (Tv.fr (frS (sp.trans s4)) _ _ t9) (.cons d2 .nil)))))⟩
theorem ordB_ok (F : Facts w K mg) : ∃ o, K.lookup (He.ga K "ORDER") = some o ∧ o.cls = .type "tuple" ∧ o.dict = none := by
  have h : ordB K = true := F.ex_ 33
  unfold ordB at h
  split at h
  · rename_i c dt sl hl
    have e : c = "tuple" := of_decide_eq_true h
    subst e
    exact ⟨_, hl, rfl, rfl⟩
  · cases h
theorem u_order (F : Facts w K mg) (H : Hp) : SqT K H (He.ga K "ORDER") (wDecl.map V.str) := F.u_ORDER H
theorem decl_idx {h : Str} (m : h ∈ wDecl) : ∃ g : Nat, g < 4 ∧ wDecl[g]? = some h ∧ (∀ m : Nat, m < g → wDecl[m]? ≠ some h) ∧ (∀ st : Nat, st < 4 → (h ∈ mayCome st ↔ ¬ ((g : Int) < (st : Nat)) ∧ st ≠ 3)) ∧ (h = S "beat" ↔ g = 3) ∧ (h = S "procedure" ↔ g = 2) ∧ (h = S "state" ↔ g = 0) := by
  simp only [wDecl, List.mem_cons, List.not_mem_nil, or_false] at m
  rcases m with rfl | rfl | rfl | rfl
  · exact ⟨0, by decide +kernel⟩
  · exact ⟨1, by decide +kernel⟩
  · exact ⟨2, by decide +kernel⟩
  · exact ⟨3, by decide +kernel⟩
theorem may_sub {h : Str} {st : Nat} (m : h ∈ mayCome st) : h ∈ wDecl := by
  unfold mayCome at m
  split at m
  · exact List.mem_of_mem_drop m
  · cases m
/-- a reader of one declaration -/
def spDecl (C : Addr) (n : Nat) : Sp := fun vs H Q E => ∃ v x, ∃ st : Nat, vs = [v, .int (st : Nat)] ∧ nd H v x ∧ Ok n x ∧ st < 4 ∧
  Post (declOf (rdStmt n) st x) (fun kx => ∀ p va H', Same H H' → H' p = some (.tup [.int (kx.1 : Nat), va]) → Tv H' va kx.2 → Q (.ref p) H') (Err C E H)
theorem has_read_declaration (F : Facts w K mg) (PT : ProgT P) (n : Nat) : Has P w K mg base (L2.CX P w) (2 * n + 14) "read_declaration" pReadDeclaration (spDecl (tC K) n) := by
  have h_head_of := has_head_of (base := base) F PT
  have h_parts_of_form := has_parts_of_form (base := base) F PT
  have h_read_variable := has_read_variable (base := base) F PT
  have h_read_procedure := has_read_procedure (base := base) F PT n
  have h_read_body := has_read_body F PT (has_read_statement (base := base) F PT n)
  refine has_X (k := 2 * n + 13) F.g_read_declaration F.f_read_declaration scReadDeclaration bReadDeclaration (fun vs H Q E h => by obtain ⟨_, _, _, rfl, _⟩ := h; rfl) fun cdv A outer s H vs Q E hr h => ?_
  obtain ⟨v, x, st, rfl, hn, ok, hst, q⟩ := h
  refine ⟨_, (pss_cons (ps_set (i := 2) scReadDeclaration.nd rfl (Or.inl rfl) (pe_callH h_head_of hr (by omega) rfl (passes_call tkX fun _ _ _ _ h => h) (pa_cons (pv 0) pa_nil)))
    (pss_cons (ps_if (PW.pt (pw_or (pt_cmpR op_notIn_seq (pv 2) (pe_glob (v := .ref (He.ga K "ORDER")) rfl F.g_ORDER rfl) (by rfl)) (pw_or (pt_cmpR op_lt (pe_bm PySem.F.plainAttrs_tuple PySem.F.slot_tuple_index PySem.F.type_tuple_index mt_tup_index (pe_glob (v := .ref (He.ga K "ORDER")) rfl F.g_ORDER rfl) (pa_cons (pv 2) pa_nil)) (pv 1) (nomark _)) (pw_or1 (pt_cmpR op_eq (pv 1) (pe_op op_sub (pe_callB call_len_seq (by rfl) F.z_len (by decide +kernel) (pa_cons (pe_glob (v := .ref (He.ga K "ORDER")) rfl F.g_ORDER rfl) pa_nil)) pe_int) (nomark _)))))) (pss_one (ps_raiseT rfl PT F.tx hr tkX (pa_cons (pe_ix ix_tup (pe_ix ix_list (pe_ix ix_tup (pv 0) pe_int (fun _ _ => rfl)) pe_int (fun _ _ => rfl)) pe_int (fun _ _ => rfl)) pa_nil)))
      pss_nil)
    (pss_cons (ps_set (i := 3) scReadDeclaration.nd rfl (Or.inl rfl) (pe_bm PySem.F.plainAttrs_tuple PySem.F.slot_tuple_index PySem.F.type_tuple_index mt_tup_index (pe_glob (v := .ref (He.ga K "ORDER")) rfl F.g_ORDER rfl) (pa_cons (pv 2) pa_nil)))
    (pss_cons (ps_if (pt_cmpR op_eq (pv 2) pe_str (nomark _)) (pss_one (ps_ret (pe_tup (pa_cons (pv 3) (pa_cons (pe_callH h_read_body hr (by omega) rfl (passes_call tkX fun _ _ _ _ h => h) (pa_cons (pe_slice sl_list (pe_ix ix_tup (pv 0) pe_int (fun _ _ => rfl)) (po_some pe_int) po_none) pa_nil)) pa_nil)))))
      pss_nil)
    (pss_cons (ps_if (pt_cmpR op_eq (pv 2) pe_str (nomark _)) (pss_one (ps_ret (pe_tup (pa_cons (pv 3) (pa_cons (pe_callH h_read_procedure hr (by omega) rfl (passes_call tkX fun _ _ _ _ h => h) (pa_cons (pv 0) pa_nil)) pa_nil)))))
      pss_nil)
    (pss_one (ps_ret (pe_tup (pa_cons (pv 3) (pa_cons (pe_callH h_read_variable hr (by omega) rfl (passes_call tkX fun _ _ _ _ h => h) (pa_cons (pe_slice sl_list (pe_callH h_parts_of_form hr (by omega) rfl (passes_call tkX fun _ _ _ _ h => h) (pa_cons (pv 0) (pa_cons pe_int (pa_cons pe_int pa_nil)))) (po_some pe_int) po_none) pa_nil)) pa_nil)))))))))), ?_⟩
  unfold declOf at q
  obtain ⟨oo, o1, o2, o3⟩ := ordB_ok F
  refine ⟨_, rfl, _, x, rfl, hn, ?_⟩
  refine (head_post q).mono (fun h _ hh => ?_) (fun _ _ z => z)
  obtain ⟨j, r, i', ex, hin, hout⟩ := hh
  cases ex
  intro H1 s1
  have hn1 := nd.fr (frS s1) _ _ hn
  refine ⟨_, rfl, _, _, rfl, .inr (u_order F H1), rfl, flat_str _, _, rfl, iteNI (l := wDecl) rfl (fun z => iteT (raise_first rfl hn1 ((hout fun y => z (may_sub y)).same s1))) (fun z => ?_)⟩
  obtain ⟨g, g4, gi, gm, gs, gb, gp, gt⟩ := decl_idx z
  refine ⟨.inr (.inl ⟨rfl, oo, o1, o2, o3⟩), _, rfl, ⟨_, wDecl, h, g, rfl, rfl, u_order F H1, gi, gm, _, rfl, _, _, rfl, rfl, _, rfl, ?_⟩⟩
  refine ite2 (fun y => iteT (raise_first rfl hn1 ((hout fun t => ((gs st hst).mp t).1 (of_decide_eq_true y)).same s1))) (fun y => ?_)
  have y : ¬ ((g : Int) < (st : Nat)) := by simpa using y
  refine ⟨_, rfl, _, _, rfl, .inr (u_order F H1), _, _, rfl, rfl, rfl, _, rfl, ?_⟩
  rw [int_eq]
  refine ite2 (fun t => raise_first rfl hn1 ((hout fun t2 => ((gs st hst).mp t2).2 ?_).same s1)) (fun t => ?_)
  · have t := of_decide_eq_true t
    have e : ((wDecl.map V.str).length : Int) = 4 := rfl
    rw [e] at t
    omega
  have t : ¬ ((st : Nat) : Int) = ((wDecl.map V.str).length : Int) - 1 := by simpa using t
  have e : ((wDecl.map V.str).length : Int) = 4 := rfl
  rw [e] at t
  have q := hin ((gs st hst).mpr ⟨y, by omega⟩)
  refine ⟨.inr (.inl ⟨rfl, oo, o1, o2, o3⟩), _, rfl, ⟨_, wDecl, h, g, rfl, rfl, u_order F H1, gi, gm, ?_⟩⟩
  obtain ⟨a, l, us, rfl, ha, hl, hps⟩ := id hn1
  refine ⟨_, rfl, rfl, _, rfl, ite2 (fun c => ?_) (fun c => ?_)⟩
  · -- beat
    have c : h = S "beat" := by rw [str_eq] at c; exact of_decide_eq_true c
    rw [if_pos c] at q
    have eg := gb.mp c
    subst eg
    obtain ⟨u0, ur, rfl, _, hr'⟩ := hps
    refine ⟨_, rfl, _, rfl, _, _, _, _, rfl, rfl, SqT.of ha, rfl, _, rfl, _, _, rfl, SqL.of hl, fun p hp => ?_⟩
    have cut : cutV (u0 :: ur) (some (1 : Int)) none = ur := cut_from 1
    have sp := sameNew (o := .lst (cutV (u0 :: ur) (some (1 : Int)) none)) hp
    refine ⟨p, ur, r, rfl, by rw [cut]; exact upd_same, nds.fr (frS sp) _ _ hr', ?_, fun u hu => ok.sub (by simp [hu]), q.bind.mono (fun ds _ q v2 H4 s4 d2 => ?_) (fun _ _ z => z.same (s1.trans sp))⟩
    · have := ok.len
      rw [nds.length hr']
      simp at this
      omega
    · exact ⟨lb rfl, fun p hp => q _ _ _ (((s1.trans sp).trans s4).trans (sameNew hp)) upd_same (Tv.fr (Fr.new hp) _ _ d2)⟩
  have c : ¬ h = S "beat" := by rw [str_eq] at c; simpa using c
  rw [if_neg c] at q
  refine ⟨_, rfl, rfl, _, rfl, ite2 (fun c2 => ?_) (fun c2 => ?_)⟩
  · -- procedure
    have c2 : h = S "procedure" := by rw [str_eq] at c2; exact of_decide_eq_true c2
    rw [if_pos c2] at q
    have eg := gp.mp c2
    subst eg
    refine ⟨_, rfl, _, rfl, _, _, rfl, hn1, ok, q.bind.mono (fun d _ q v2 H4 s4 d2 => ?_) (fun _ _ z => z.same s1)⟩
    exact ⟨lb rfl, fun p hp => q _ _ _ ((s1.trans s4).trans (sameNew hp)) upd_same (Tv.fr (Fr.new hp) _ _ d2)⟩
  have c2 : ¬ h = S "procedure" := by rw [str_eq] at c2; simpa using c2
  rw [if_neg c2] at q
  refine ⟨_, rfl, _, rfl, _, _, _, _, rfl, parts_post (lo := 2) (hi := 3) q hn1 (fun ps i l vs a ex ev h1 h2 h3 l1 l2 q1 => ?_) (fun _ z => z.same s1)⟩
  · cases ex
    refine ⟨_, rfl, _, _, rfl, SqL.of h2, fun p hp => ?_⟩
    have cut : cutV vs (some (1 : Int)) none = vs.drop 1 := cut_from 1
    have sp := sameNew (o := .lst (cutV vs (some (1 : Int)) none)) hp
    refine ⟨p, vs.drop 1, _, rfl, by rw [cut]; exact upd_same, nds.fr (frS sp) _ _ (nds.drop 1 h3), ?_, fun u hu => (ok.sub (List.mem_of_mem_drop hu)).wt, q1.bind.mono (fun d _ q v2 H4 s4 d2 => ?_) (fun _ _ z => z.same (s1.trans sp))⟩
    · rw [List.length_drop]; omega
    · refine ⟨lb rfl, fun p hp => q _ _ _ (((s1.trans sp).trans s4).trans (sameNew hp)) ?_ (Tv.fr (Fr.new hp) _ _ d2)⟩
      have eg : g = if h = S "state" then 0 else 1 := by
        by_cases c3 : h = S "state"
        · rw [if_pos c3]; exact gt.mp c3
        · rw [if_neg c3]
          have a1 : ¬ g = 0 := fun z => c3 (gt.mpr z)
          have a2 : ¬ g = 2 := fun z => c2 (gp.mpr z)
          have a3 : ¬ g = 3 := fun z => c (gb.mpr z)
          omega
      rw [← eg]
      exact upd_same
end
end K10
/-! K10Prog7: signs, words. Printed by expand.py from K10Prog7.tpl. -/
namespace K10
open PySem PySem.Spec PyProof.Rows L2
theorem lt1 (a b : Nat) : decide ([a] < [b]) = decide (a < b) := by
  by_cases h : a < b
  · rw [decide_eq_true h]; exact decide_eq_true (List.cons_lt_cons_iff.mpr (.inl h))
  · rw [decide_eq_false h]
    refine decide_eq_false fun z => ?_
    rcases List.cons_lt_cons_iff.mp z with z | ⟨_, z⟩
    · exact h z
    · exact absurd z (by simp)
theorem s_nl : Str.ofString "\n" = ⟨#[10]⟩ := by decide +kernel
theorem s_sp : (Str.ofString " ").cps.toList = [32] := by decide +kernel
theorem s_ti : (Str.ofString "~").cps.toList = [126] := by decide +kernel
theorem s_sep : (Str.ofString " \n()").cps.toList = [32, 10, 40, 41] := by decide +kernel
theorem s_par : (Str.ofString "()").cps.toList = [40, 41] := by decide +kernel
theorem sep_eq (c : Nat) : decide (c ∈ (Str.ofString " \n()").cps.toList) = isSep c := by
  rw [s_sep]
  unfold isSep
  by_cases h1 : c = 32
  · subst h1; rfl
  by_cases h2 : c = 10
  · subst h2; rfl
  by_cases h3 : c = 40
  · subst h3; rfl
  by_cases h4 : c = 41
  · subst h4; rfl
  simp [h1, h2, h3, h4]
theorem par_eq (c : Nat) : decide (c ∈ (Str.ofString "()").cps.toList) = isPar c := by
  rw [s_par]
  unfold isPar
  by_cases h3 : c = 40
  · subst h3; rfl
  by_cases h4 : c = 41
  · subst h4; rfl
  simp [h3, h4]
/-! ### the words of a text, by places -/
def td (t : Tok1) : PyData := .tuple [.str t.1, .int t.2]
def splitOf (cs : List Nat) : Rd (List Tok1) := if cs.length > 6000 then .error 0 else match badAt 0 cs with
  | some i => .error (i : Nat)
  | none => .ok (lex 0 [] cs)
/-- the word that is being read: none, or from place a on -/
def Cur (cs : List Nat) (k : Nat) (cur : List Nat) (st : Int) : Prop := (cur = [] ∧ st = -1) ∨ ∃ a : Nat, st = (a : Int) ∧ a < k ∧ cur = (cs.drop a).take (k - a) ∧ cur.length = k - a
theorem Cur.go {cs cur : List Nat} {k c : Nat} {st : Int} (h : Cur cs k cur st) (hc : cs[k]? = some c) : (st < 0 → Cur cs (k + 1) (cur ++ [c]) (k : Int)) ∧ (¬ st < 0 → Cur cs (k + 1) (cur ++ [c]) st) := by
  rcases h with ⟨rfl, rfl⟩ | ⟨a, rfl, ha, e, hl⟩
  · refine ⟨fun _ => .inr ⟨k, rfl, Nat.lt_succ_self k, ?_, by simp⟩, fun z => absurd (by decide) z⟩
    rw [drop_cons hc]
    simp
  · refine ⟨fun z => absurd z (by omega), fun _ => .inr ⟨a, rfl, by omega, ?_, by simp [hl]; omega⟩⟩
    have h1 : (cs.drop a)[k - a]? = some c := by rw [List.getElem?_drop]; rw [show a + (k - a) = k by omega]; exact hc
    rw [show k + 1 - a = (k - a) + 1 by omega, List.take_add_one, h1, e]
    rfl
theorem Cur.word {cs cur : List Nat} {k a : Nat} (h : Cur cs k cur (a : Int)) : wordTok (k : Int) cur = [(⟨((cs.drop a).take (k - a)).toArray⟩, (a : Int))] ∧ a < k := by
  rcases h with ⟨rfl, e⟩ | ⟨b, e1, ha, e, hl⟩
  · omega
  · have : a = b := by omega
    subst this
    refine ⟨?_, ha⟩
    rw [← e]
    unfold wordTok
    cases cur with
    | nil => simp at hl; omega
    | cons c r =>
      simp only [List.cons.injEq, and_true]
      rw [hl]
      congr 1
      omega
theorem Cur.none {cs cur : List Nat} {k : Nat} {st : Int} (h : Cur cs k cur st) (z : st < 0) : cur = [] ∧ st = -1 := by
  rcases h with h | ⟨a, e, _⟩
  · exact h
  · omega
theorem lex_sep {k c : Nat} {cur r : List Nat} (h : isSep c = true) : lex (k : Int) cur (c :: r) = wordTok (k : Int) cur ++ ((if isPar c = true then [((⟨#[c]⟩ : Str), (k : Int))] else []) ++ lex ((k + 1 : Nat) : Int) [] r) := by
  rw [lex, if_pos h] <;> rfl
theorem lex_go {k c : Nat} {cur r : List Nat} (h : ¬ isSep c = true) : lex (k : Int) cur (c :: r) = lex ((k + 1 : Nat) : Int) (cur ++ [c]) r := by
  rw [lex, if_neg h] <;> rfl
theorem cutS_ab {z : Str} {a b : Nat} (h : a ≤ b) (h2 : b ≤ z.length) : cutS z (some (a : Int)) (some (b : Int)) = ⟨((z.cps.toList.drop a).take (b - a)).toArray⟩ := by
  unfold cutS
  rw [HT.sIx_nat, HT.sIx_nat, Nat.min_eq_left (show a ≤ z.length by omega), Nat.min_eq_left h2]
theorem cutS_a {z : Str} {a : Nat} (h : a ≤ z.length) : cutS z (some (a : Int)) none = ⟨((z.cps.toList.drop a).take (z.length - a)).toArray⟩ := by
  unfold cutS
  rw [HT.sIx_nat, HT.sIx_none, Nat.min_eq_left h]
theorem len_toList (z : Str) : z.cps.toList.length = z.length := Array.length_toList
/-- a token is laid into the list of tokens -/
theorem tok_push {H0 H : Hp} {W p : Addr} {us : List V} {done : List Tok1} {a : Str} {b : Int} (s : Same H0 H) (nW : H0 W = none) (hW : H W = some (.lst us)) (ha : TvAll H us (done.map td)) (hp : H p = none) :
    (upd H p (.tup [.str a, .int b])) W = some (.lst us) ∧ Same H0 (upd (upd H p (.tup [.str a, .int b])) W (.lst (us ++ [.ref p]))) ∧
    (upd (upd H p (.tup [.str a, .int b])) W (.lst (us ++ [.ref p]))) W = some (.lst (us ++ [.ref p])) ∧ TvAll (upd (upd H p (.tup [.str a, .int b])) W (.lst (us ++ [.ref p]))) (us ++ [.ref p]) ((done ++ [(a, b)]).map td) := by
  have s1 := sameNew (o := .tup [.str a, .int b]) hp
  have hW1 := s1 _ _ hW
  have ft := Ft.upd (u := .lst (us ++ [.ref p])) hW1 (fun _ z => nomatch z)
  refine ⟨hW1, Same.at_new (s.trans s1) nW, upd_same, ?_⟩
  rw [List.map_append]
  refine (TvAll.ft ft _ _ (TvAll.fr (frS s1) _ _ ha)).append (.cons ?_ .nil)
  exact Tv.ft ft _ _ (.tup upd_same (.cons (.str _) (.cons (.int _) .nil)))
def SplInv (t : Str) (H0 : Hp) (W : Addr) (k : Nat) (σ : L2.St) (H : Hp) : Prop := ∃ us done cur st z1 z2, σ = [some (.str t), some (.ref W), some (.int st), z1, z2] ∧ Same H0 H ∧ H W = some (.lst us) ∧ TvAll H us (done.map td) ∧ us.length ≤ 2 * k ∧
  Cur t.cps.toList k cur st ∧ badAt k (t.cps.toList.drop k) = badAt 0 t.cps.toList ∧ done ++ lex (k : Int) cur (t.cps.toList.drop k) = lex 0 [] t.cps.toList
section
variable {P : Program} {w : World} {K : PySem.W.Frag} {mg : Str → Option Value} {base : Heap}
def nIsSign : List Str := ["sign"]
def pIsSign : List Str := ["sign"]
theorem scIsSign : FnScope nIsSign pIsSign (defScope sIsSign) := ⟨rfl, rfl, rfl, by decide +kernel, rfl, by decide +kernel, by decide +kernel⟩
theorem bIsSign : BindsBy "is_sign" sIsSign pIsSign := fun _ _ _ _ _ _ us hl => match us, hl with | [_], _ => rfl
def nSplit : List Str := ["text", "words", "start", "index", "sign"]
def pSplit : List Str := ["text"]
theorem scSplit : FnScope nSplit pSplit (defScope sSplit) := ⟨rfl, rfl, rfl, by decide +kernel, rfl, by decide +kernel, by decide +kernel⟩
theorem bSplit : BindsBy "split" sSplit pSplit := fun _ _ _ _ _ _ us hl => match us, hl with | [_], _ => rfl
def spIsSign : Sp := fun vs H Q _ => ∃ c : Nat, vs = [.str ⟨#[c]⟩] ∧ Q (.bl (legal c)) H
theorem has_is_sign (F : Facts w K mg) : Has P w K mg base CX0 1 "is_sign" pIsSign spIsSign := by
  refine has_0 F.g_is_sign F.f_is_sign scIsSign bIsSign (fun vs H Q E h => by obtain ⟨_, rfl, _⟩ := h; rfl) fun cdv A outer s H vs Q E hr h => ?_
  obtain ⟨c, rfl, q⟩ := h
  refine ⟨_, (pss_one (ps_ret (pe_or (pe_cmpR op_eq (pv 0) pe_str (nomark _)) (pe_one (pe_and (pe_chain op_le_str op_le_str pe_str (pv 0) pe_str) (pe_one (pe_cmpR op_ne (pe_callB call_ord (by rfl) F.z_ord (by decide +kernel) (pa_cons (pv 0) pa_nil)) pe_int (nomark _)))))))), ?_⟩
  refine ⟨_, rfl, rfl, _, rfl, ite2 (fun z => ?_) (fun z => ?_)⟩
  · rw [s_nl, sign_eq] at z
    have z := of_decide_eq_true z
    have e : legal c = true := by unfold legal; simp [z]
    rw [← e]
    exact q
  · rw [s_nl, sign_eq] at z
    have z : ¬ c = 10 := by simpa using z
    refine ⟨_, rfl, _, _, rfl, rfl, _, rfl, ite2 (fun y => ⟨_, _, rfl, rfl, _, rfl, ite2 (fun x => ?_) (fun x => ?_)⟩) (fun y => ⟨_, rfl, iteF ?_⟩)⟩
    · rw [s_sp, lt1] at y
      rw [s_ti, lt1] at x
      have y : 32 ≤ c := by simpa using y
      have x : c ≤ 126 := by simpa using x
      refine ⟨_, rfl, _, rfl, rfl, rfl, ?_⟩
      have e : (!decide (V.int ((⟨#[c]⟩ : Str).cps.getD 0 0 : Nat) = V.int 37)) = legal c := by
        rw [int_eq]
        have e1 : ((⟨#[c]⟩ : Str).cps.getD 0 0) = c := rfl
        rw [e1]
        unfold legal
        by_cases v : c = 37
        · subst v; rfl
        · rw [decide_eq_false (by omega)]
          simp [y, x, v]
      rw [e]
      exact q
    · rw [s_ti, lt1] at x
      have x : ¬ c ≤ 126 := by simpa using x
      have e : legal c = false := by unfold legal; simp [z]; omega
      rw [← e]
      exact q
    · rw [s_sp, lt1] at y
      have y : ¬ 32 ≤ c := by simpa using y
      have e : legal c = false := by unfold legal; simp [z]; omega
      rw [← e]
      exact q
def spSplit (C : Addr) : Sp := fun vs H Q E => ∃ t : Str, vs = [.str t] ∧ t.length ≤ sizeLine ∧ Post (splitOf t.cps.toList) (fun toks => ∀ l us H', Same H H' → H l = none → H' l = some (.lst us) → TvAll H' us (toks.map td) → us.length ≤ 20000 → Q (.ref l) H') (Err C E H)
theorem has_split (F : Facts w K mg) (PT : ProgT P) : Has P w K mg base (L2.CX P w) 2 "split" pSplit (spSplit (tC K)) := by
  have h_is_sign := has_is_sign (P := P) (base := base) F
  refine has_X F.g_split F.f_split scSplit bSplit (fun vs H Q E h => by obtain ⟨_, rfl, _⟩ := h; rfl) fun cdv A outer s H vs Q E hr h => ?_
  obtain ⟨t, rfl, ht, q⟩ := h
  refine ⟨_, (pss_cons (ps_if (pt_cmpR op_gt (pe_callB call_len_str (by rfl) F.z_len (by decide +kernel) (pa_cons (pv 0) pa_nil)) (pe_glob (v := .int 6000) rfl (F.i_MAX_TEXT).choose_spec ⟨_, rfl⟩) (nomark _)) (pss_one (ps_raiseT rfl PT F.tx hr tkX (pa_cons pe_int pa_nil)))
      pss_nil)
    (pss_cons (ps_set (i := 1) scSplit.nd rfl (Or.inl rfl) (pe_lst pa_nil))
    (pss_cons (ps_set (i := 2) scSplit.nd rfl (Or.inl rfl) (pe_un un_neg pe_int))
    (pss_cons (ps_for (passes_of rfl) rfl (pi_enumS (by rfl) F.z_enumerate (pa_cons (pv 0) pa_nil)) (pg_tup rfl (pgs_cons (pg_name (i := 3) scSplit.nd rfl (Or.inl rfl)) (pgs_cons (pg_name (i := 4) scSplit.nd rfl (Or.inl rfl)) pgs_nil)))
      (pss_cons (ps_if (pt_not (pt_val (pe_callH h_is_sign hr (by omega) rfl pass0 (pa_cons (pv 4) pa_nil)))) (pss_one (ps_raiseT rfl PT F.tx hr tkX (pa_cons (pv 3) pa_nil)))
        pss_nil)
      (pss_one (ps_if (pt_cmpR op_in_sign (pv 4) pe_str (by rfl)) (pss_cons (ps_if (pt_cmpR op_ge (pv 2) pe_int (nomark _)) (pss_one (ps_expr (pe_bm PySem.F.plainAttrs_list PySem.F.slot_list_append PySem.F.type_list_append mt_append (pv 1) (pa_cons (pe_tup (pa_cons (pe_slice sl_str (pv 0) (po_some (pv 2)) (po_some (pv 3))) (pa_cons (pv 2) pa_nil))) pa_nil))))
          pss_nil)
        (pss_cons (ps_set (i := 2) scSplit.nd rfl (Or.inl rfl) (pe_un un_neg pe_int))
        (pss_one (ps_if (pt_cmpR op_in_sign (pv 4) pe_str (by rfl)) (pss_one (ps_expr (pe_bm PySem.F.plainAttrs_list PySem.F.slot_list_append PySem.F.type_list_append mt_append (pv 1) (pa_cons (pe_tup (pa_cons (pv 4) (pa_cons (pv 3) pa_nil))) pa_nil))))
          pss_nil))))
        (pss_one (ps_if (pt_cmpR op_lt (pv 2) pe_int (nomark _)) (pss_one (ps_set (i := 2) scSplit.nd rfl (Or.inl rfl) (pv 3)))
          pss_nil))))))
    (pss_cons (ps_if (pt_cmpR op_ge (pv 2) pe_int (nomark _)) (pss_one (ps_expr (pe_bm PySem.F.plainAttrs_list PySem.F.slot_list_append PySem.F.type_list_append mt_append (pv 1) (pa_cons (pe_tup (pa_cons (pe_slice sl_str (pv 0) (po_some (pv 2)) po_none) (pa_cons (pv 2) pa_nil))) pa_nil))))
      pss_nil)
    (pss_one (ps_ret (pv 1)))))))), ?_⟩
  have hL := len_toList t
  refine ⟨_, rfl, t, rfl, ht, _, _, rfl, rfl, _, rfl, ite2 (fun z => ?_) (fun z => ?_)⟩
  · have z : (t.length : Int) > 6000 := of_decide_eq_true z
    unfold splitOf at q
    rw [if_pos (by omega)] at q
    exact ⟨_, rfl, fun d hd => Err.go (at_ := 0) q d hd⟩
  have z : ¬ (t.length : Int) > 6000 := by simpa using z
  unfold splitOf at q
  rw [if_neg (by omega)] at q
  refine ⟨lb rfl, fun W nW => ⟨_, rfl, ?_⟩⟩
  refine ⟨_, rfl, t, rfl, ?_⟩
  have hsz : t.cps.size = t.length := rfl
  refine for_it walk_enumS (fun k σ H3 => SplInv t H W k σ H3) ?_ (fun _ _ _ _ _ => trivial) (fun k x σ H1 H2 hk h hY => ?_) (fun σ H3 h => ?_)
  · exact ⟨[], [], [], -1, none, none, rfl, Same.at_new (Same.refl _) nW, upd_same, .nil, Nat.le_refl _, .inl ⟨rfl, rfl⟩, rfl, rfl⟩
  · obtain ⟨us, done, cur, st, z1, z2, rfl, s1, hW, ha, hl, hcur, hb, hx⟩ := h
    obtain ⟨T, c, rfl, hT, rfl, hc⟩ := hY
    have hc' : t.cps.toList[k]? = some c := by rw [Array.getElem?_toList]; exact hc
    rw [drop_cons hc'] at hb hx
    have sT := sameNew (o := .tup [.int (k : Nat), .str ⟨#[c]⟩]) hT
    refine ⟨T, _, rfl, SqT.of upd_same, rfl, _, _, rfl, _, _, rfl, rfl, ?_⟩
    refine ⟨_, rfl, c, rfl, _, rfl, ite2 (fun y => ?_) (fun y => ?_)⟩
    · have y : legal c = false := by simpa using y
      rw [badAt, if_neg (by rw [y]; decide)] at hb
      rw [← hb] at q
      exact ⟨_, rfl, _, rfl, fun d hd => (Err.same (at_ := (k : Nat)) q (s1.trans sT)).go d hd⟩
    have y : legal c = true := by simpa using y
    rw [badAt, if_pos y] at hb
    have s2 := s1.trans sT
    have hW2 := sT _ _ hW
    have ha2 := TvAll.fr (frS sT) _ _ ha
    generalize hH2 : upd H1 T (.tup [.int (k : Nat), .str ⟨#[c]⟩]) = H2 at *
    refine ⟨_, rfl, c, _, rfl, rfl, _, rfl, ?_⟩
    rw [sep_eq]
    refine ite2 (fun y2 => ?_) (fun y2 => ?_)
    · rw [lex_sep y2] at hx
      refine ⟨_, rfl, _, _, rfl, rfl, _, rfl, ite2 (fun y3 => ?_) (fun y3 => ?_)⟩
      · have y3 : st ≥ 0 := of_decide_eq_true y3
        obtain ⟨a, rfl⟩ : ∃ a : Nat, st = (a : Int) := ⟨st.toNat, by omega⟩
        obtain ⟨e1, e2⟩ := hcur.word
        refine ⟨_, rfl, .inl ⟨rfl, _, SqL.of hW2⟩, _, rfl, _, rfl, _, rfl, _, rfl, _, rfl, t, rfl, ht, _, rfl, lb rfl, fun p hp => ?_⟩
        rw [cutS_ab (Nat.le_of_lt e2) (by omega)]
        obtain ⟨w1, w2, w3, w4⟩ := tok_push (a := ⟨((t.cps.toList.drop a).take (k - a)).toArray⟩) (b := (a : Int)) s2 nW hW2 ha2 hp
        refine ⟨_, _, _, rfl, rfl, w1, by rw [line_eq]; omega, _, rfl, ?_⟩
        generalize upd (upd H2 p _) W _ = H4 at *
        rw [e1] at hx
        refine ⟨_, rfl, c, _, rfl, rfl, _, rfl, ?_⟩
        rw [par_eq]
        refine ite2 (fun y4 => ?_) (fun y4 => ?_)
        · refine ⟨_, rfl, .inl ⟨rfl, _, SqL.of w3⟩, _, rfl, _, rfl, lb rfl, fun p2 hp2 => ?_⟩
          obtain ⟨v1, v2, v3, v4⟩ := tok_push (a := ⟨#[c]⟩) (b := (k : Int)) w2 nW w3 w4 hp2
          rw [if_pos y4] at hx
          exact ⟨_, _, _, rfl, rfl, v1, by rw [line_eq]; simp; omega, _, _, [], _, _, _, rfl, v2, v3, v4, by simp; omega, .inl ⟨rfl, rfl⟩, hb, by simpa using hx⟩
        · rw [if_neg y4] at hx
          exact ⟨_, _, [], _, _, _, rfl, w2, w3, w4, by simp; omega, .inl ⟨rfl, rfl⟩, hb, by simpa using hx⟩
      · have y3 : st < 0 := by have : ¬ st ≥ 0 := by simpa using y3
                               omega
        obtain ⟨rfl, rfl⟩ := hcur.none y3
        refine ⟨_, rfl, ?_⟩
        refine ⟨_, rfl, c, _, rfl, rfl, _, rfl, ?_⟩
        rw [par_eq]
        refine ite2 (fun y4 => ?_) (fun y4 => ?_)
        · refine ⟨_, rfl, .inl ⟨rfl, _, SqL.of hW2⟩, _, rfl, _, rfl, lb rfl, fun p2 hp2 => ?_⟩
          obtain ⟨v1, v2, v3, v4⟩ := tok_push (a := ⟨#[c]⟩) (b := (k : Int)) s2 nW hW2 ha2 hp2
          rw [if_pos y4] at hx
          exact ⟨_, _, _, rfl, rfl, v1, by rw [line_eq]; omega, _, _, [], _, _, _, rfl, v2, v3, v4, by simp; omega, .inl ⟨rfl, rfl⟩, hb, by simpa [wordTok] using hx⟩
        · rw [if_neg y4] at hx
          exact ⟨_, _, [], _, _, _, rfl, s2, hW2, ha2, by omega, .inl ⟨rfl, rfl⟩, hb, by simpa [wordTok] using hx⟩
    · rw [lex_go y2] at hx
      refine ⟨_, rfl, _, _, rfl, rfl, _, rfl, ite2 (fun y3 => ⟨_, rfl, ?_⟩) (fun y3 => ?_)⟩
      · exact ⟨_, _, _, _, _, _, rfl, s2, hW2, ha2, by omega, (hcur.go hc').1 (of_decide_eq_true y3), hb, hx⟩
      · exact ⟨_, _, _, _, _, _, rfl, s2, hW2, ha2, by omega, (hcur.go hc').2 (by simpa using y3), hb, hx⟩
  · obtain ⟨us, done, cur, st, z1, z2, rfl, s1, hW, ha, hl, hcur, hb, hx⟩ := h
    rw [hsz, ← hL, List.drop_length] at hb hx
    rw [← hb] at q
    have q : ∀ l us H', Same H H' → H l = none → H' l = some (.lst us) → TvAll H' us ((lex 0 [] t.cps.toList).map td) → us.length ≤ 20000 → Q (.ref l) H' := q
    refine ⟨_, rfl, _, _, rfl, rfl, _, rfl, ite2 (fun y3 => ?_) (fun y3 => ?_)⟩
    · have y3 : st ≥ 0 := of_decide_eq_true y3
      obtain ⟨a, rfl⟩ : ∃ a : Nat, st = (a : Int) := ⟨st.toNat, by omega⟩
      obtain ⟨e1, e2⟩ := hcur.word
      refine ⟨_, rfl, .inl ⟨rfl, _, SqL.of hW⟩, _, rfl, _, rfl, _, rfl, t, rfl, ht, _, rfl, lb rfl, fun p hp => ?_⟩
      rw [cutS_a (by omega)]
      obtain ⟨w1, w2, w3, w4⟩ := tok_push (a := ⟨((t.cps.toList.drop a).take (t.length - a)).toArray⟩) (b := (a : Int)) s1 nW hW ha hp
      refine ⟨_, _, _, rfl, rfl, w1, by rw [line_eq]; omega, _, rfl, ?_⟩
      refine q _ _ _ w2 nW w3 ?_ (by simp; omega)
      rw [← hx]
      have e3 : lex ((t.cps.toList.length : Nat) : Int) cur [] = wordTok ((t.cps.toList.length : Nat) : Int) cur := rfl
      rw [hsz, ← hL] at e1
      rw [e3, e1, hL]
      exact w4
    · have y3 : st < 0 := by have : ¬ st ≥ 0 := by simpa using y3
                             omega
      obtain ⟨rfl, rfl⟩ := hcur.none y3
      refine ⟨_, rfl, q _ _ _ s1 nW hW ?_ (by omega)⟩
      rw [← hx]
      have e3 : lex ((t.cps.toList.length : Nat) : Int) [] [] = [] := rfl
      rw [e3, List.append_nil]
      exact ha
end
end K10
set_option maxHeartbeats 4000000
/-! K10Forms: the forms of a text: their bounds; the open lists in the heap. -/
namespace K10
open PySem PySem.Spec PyProof.Rows L2
/-! ### bounds -/
def toksW : List Tok1 → Nat
  | [] => 0
  | t :: r => t.1.length + toksW r
theorem toksW_append : ∀ a b : List Tok1, toksW (a ++ b) = toksW a + toksW b
  | [], b => by simp [toksW]
  | t :: r, b => by rw [List.cons_append, toksW, toksW, toksW_append r b]; omega
def upW : List (List Node × Int) → Nat
  | [] => 0
  | p :: r => wts p.1 + 1 + upW r
def upG : List (List Node × Int) → Prop
  | [] => True
  | p :: r => goods p.1 ∧ 0 ≤ p.2 ∧ upG r
def upD : List (List Node × Int) → Prop
  | [] => True
  | p :: r => depths p.1 + r.length ≤ 20 ∧ upD r
structure FB (f : FS) (n : Nat) : Prop where
  w : wts f.top + upW f.up ≤ n
  g : goods f.top ∧ 0 ≤ f.ix ∧ upG f.up
  d : depths f.top + f.up.length ≤ 20 ∧ upD f.up
theorem push_ok {f g : FS} {t : Tok1} {n : Nat} (h : FB f n) (ht : 0 < t.1.length) (hi : 0 ≤ t.2) (e : f.push t = .ok g) : FB g (n + t.1.length) := by
  obtain ⟨hw, ⟨g1, g2, g3⟩, d1, d2⟩ := h
  unfold FS.push at e
  split at e
  · rename_i c
    split at e
    · cases e
    · rename_i c2
      cases e
      have : t.1.length = 1 := by rw [c]; decide +kernel
      refine ⟨?_, ⟨trivial, hi, g1, g2, g3⟩, ?_, ?_⟩
      · simp only [wts, upW]; omega
      · simp only [depths, List.length_cons]; omega
      · exact ⟨d1, d2⟩
  · split at e
    · cases e
    · rename_i p j r hup
      rw [hup] at hw g3 d1 d2
      split at e
      · cases e
        refine ⟨?_, ⟨goods_append g3.1 ⟨⟨g1, g2⟩, trivial⟩, g3.2.1, g3.2.2⟩, ?_, d2.2⟩
        · simp only [wts_append, wts, Node.wt, upW] at hw ⊢; omega
        · simp only [depths_append, depths, Node.depth, List.length_cons] at d1 d2 ⊢
          have : depths p + r.length ≤ 20 := d2.1
          omega
      · cases e
        refine ⟨?_, ⟨goods_append g1 ⟨⟨ht, hi⟩, trivial⟩, g2, ?_⟩, ?_, ?_⟩
        · simp only [wts_append, wts, Node.wt, hup] at hw ⊢; omega
        · rw [hup]; exact g3
        · simp only [depths_append, depths, Node.depth, hup, List.length_cons] at d1 ⊢
          omega
        · rw [hup]; exact d2
theorem run_ok : ∀ {ts : List Tok1} {f g : FS} {n : Nat}, FB f n → (∀ t ∈ ts, 0 < t.1.length ∧ 0 ≤ t.2) → f.run ts = .ok g → FB g (n + toksW ts)
  | [], f, g, n, h, _, e => by cases e; exact h
  | t :: r, f, g, n, h, ht, e => by
    rw [FS.run] at e
    cases e1 : f.push t with
    | error er => rw [e1] at e; cases e
    | ok f1 =>
      rw [e1] at e
      have := run_ok (push_ok h (ht t (by simp)).1 (ht t (by simp)).2 e1) (fun u hu => ht u (by simp [hu])) e
      rw [toksW, ← Nat.add_assoc]
      exact this
theorem wordTok_ok {i : Int} {cur : List Nat} (h : (cur.length : Int) ≤ i) : (∀ t ∈ wordTok i cur, 0 < t.1.length ∧ 0 ≤ t.2) ∧ toksW (wordTok i cur) = cur.length := by
  cases cur with
  | nil => exact ⟨fun t ht => (by cases ht), rfl⟩
  | cons c r =>
    have e : (⟨(c :: r).toArray⟩ : Str).length = r.length + 1 := by show (c :: r).toArray.size = _; simp
    refine ⟨fun t ht => ?_, ?_⟩
    · rcases List.mem_singleton.mp ht with rfl
      refine ⟨by show 0 < (⟨(c :: r).toArray⟩ : Str).length; omega, ?_⟩
      show 0 ≤ i - _
      omega
    · show (⟨(c :: r).toArray⟩ : Str).length + 0 = _
      rw [e]; simp
theorem lex_ok : ∀ {cs cur : List Nat} {i : Int}, (cur.length : Int) ≤ i → (∀ t ∈ lex i cur cs, 0 < t.1.length ∧ 0 ≤ t.2) ∧ toksW (lex i cur cs) ≤ cur.length + cs.length
  | [], cur, i, h => by
    obtain ⟨a, b⟩ := wordTok_ok h
    rw [lex]
    exact ⟨a, by rw [b]; simp⟩
  | c :: cs, cur, i, h => by
    rw [lex]
    obtain ⟨a, b⟩ := wordTok_ok h
    by_cases y : isSep c = true
    · rw [if_pos y]
      obtain ⟨a2, b2⟩ := lex_ok (cs := cs) (cur := []) (i := i + 1) (by simp; omega)
      have e1 : (⟨#[c]⟩ : Str).length = 1 := rfl
      refine ⟨fun t ht => ?_, ?_⟩
      · rcases List.mem_append.mp ht with ht | ht
        · exact a t ht
        · rcases List.mem_append.mp ht with ht | ht
          · by_cases z : isPar c = true
            · rw [if_pos z] at ht
              rcases List.mem_singleton.mp ht with rfl
              exact ⟨by show 0 < (⟨#[c]⟩ : Str).length; omega, by show 0 ≤ i; omega⟩
            · rw [if_neg z] at ht; cases ht
          · exact a2 t ht
      · rw [toksW_append, toksW_append, b]
        simp only [List.length_nil, Nat.zero_add] at b2
        have : toksW (if isPar c = true then [((⟨#[c]⟩ : Str), i)] else []) ≤ 1 := by
          by_cases z : isPar c = true
          · rw [if_pos z]; exact Nat.le_refl _
          · rw [if_neg z]; exact Nat.zero_le _
        simp only [List.length_cons]
        omega
    · rw [if_neg y]
      obtain ⟨a2, b2⟩ := lex_ok (cs := cs) (cur := cur ++ [c]) (i := i + 1) (by simp; omega)
      refine ⟨a2, ?_⟩
      simp at b2 ⊢
      omega
def formsT (cs : List Nat) : Rd (List Node) := match splitOf cs with
  | .error e => .error e
  | .ok toks => match fs0.run toks with
    | .error e => .error e
    | .ok f => f.fin (cs.length : Nat)
theorem forms_ok {cs : List Nat} {ns : List Node} (h : formsOf cs = .ok ns) (hl : cs.length ≤ 6000) : goods ns ∧ wts ns ≤ 6000 ∧ depths ns ≤ 20 := by
  unfold formsOf at h
  cases e : fs0.run (lex 0 [] cs) with
  | error er => rw [e] at h; cases h
  | ok f =>
    rw [e] at h
    obtain ⟨a, b⟩ := lex_ok (cs := cs) (cur := []) (i := 0) (by simp)
    have := run_ok (f := fs0) (n := 0) ⟨Nat.le_refl _, ⟨trivial, Int.le_refl _, trivial⟩, by show 0 + 0 ≤ 20; omega, trivial⟩ a e
    simp only [FS.fin] at h
    split at h
    · cases h
      refine ⟨this.g.1, ?_, ?_⟩
      · have := this.w; simp only [List.length_nil] at b; omega
      · have := this.d.1; omega
    · cases h
theorem formsT_ok {cs : List Nat} {ns : List Node} (h : formsT cs = .ok ns) : formsOf cs = .ok ns ∧ cs.length ≤ 6000 ∧ badAt 0 cs = none := by
  unfold formsT splitOf at h
  by_cases z : cs.length > 6000
  · rw [if_pos z] at h; cases h
  · rw [if_neg z] at h
    cases e : badAt 0 cs with
    | some i => rw [e] at h; cases h
    | none => rw [e] at h; exact ⟨h, by omega, rfl⟩
/-! ### the open lists in the heap: Hc holds what is closed -/
def Up (H Hc : Hp) : Addr → Int → List Addr → List (List Node × Int) → Prop
  | _, _, [], [] => True
  | l, ix, l' :: ls, (p, j) :: r => ∃ vs' t, H l' = some (.lst (vs' ++ [.ref t])) ∧ Hc t = some (.tup [.ref l, .int ix]) ∧ nds Hc vs' p ∧ Up H Hc l' j ls r
  | _, _, _, _ => False
theorem Up.len {H Hc : Hp} : ∀ {l : Addr} {ix : Int} {ls : List Addr} {up : List (List Node × Int)}, Up H Hc l ix ls up → up.length = ls.length
  | _, _, [], [], _ => rfl
  | _, _, l' :: ls, (p, j) :: r, h => by
    obtain ⟨_, _, _, _, _, h⟩ := h
    simp [Up.len h]
  | _, _, [], _ :: _, h => h.elim
  | _, _, _ :: _, [], h => h.elim
theorem Up.mono {H Hc H2 Hc2 : Hp} (s : Same Hc Hc2) : ∀ {l : Addr} {ix : Int} {ls : List Addr} {up : List (List Node × Int)}, (∀ a ∈ ls, ∀ o, H a = some o → H2 a = some o) → Up H Hc l ix ls up → Up H2 Hc2 l ix ls up
  | _, _, [], [], _, _ => trivial
  | _, _, l' :: ls, (p, j) :: r, e, h => by
    obtain ⟨vs', t, h1, h2, h3, h4⟩ := h
    exact ⟨vs', t, e l' (by simp) _ h1, s _ _ h2, nds.fr (frS s) _ _ h3, Up.mono s (fun a ha => e a (by simp [ha])) h4⟩
  | _, _, [], _ :: _, _, h => h.elim
  | _, _, _ :: _, [], _, h => h.elim
structure FI (H0 Hc H : Hp) (P F0 l : Addr) (ls : List Addr) (f : FS) : Prop where
  same : Same H0 H
  cl : Same Hc H
  apart : ∀ b, Hc b ≠ none → H0 b = none
  opn : ∀ a ∈ l :: ls, Hc a = none ∧ H0 a = none ∧ a ≠ P
  nP : Hc P = none ∧ H0 P = none
  nd : (l :: ls).Nodup
  rows : H P = some (.lst (ls.reverse.map V.ref ++ [.ref l]))
  last : ∃ pre, l :: ls = pre ++ [F0]
  top : ∃ vs, H l = some (.lst vs) ∧ nds Hc vs f.top
  up : Up H Hc l f.ix ls f.up
theorem FI.word {H0 Hc H : Hp} {P F0 l t : Addr} {ls : List Addr} {f : FS} {vs : List V} {w : Str} {i : Int} (h : FI H0 Hc H P F0 l ls f) (hl : H l = some (.lst vs)) (ht : H t = none) :
    FI H0 (upd Hc t (.tup [.str w, .int i])) (upd (upd H t (.tup [.str w, .int i])) l (.lst (vs ++ [.ref t]))) P F0 l ls { f with top := f.top ++ [.word w i] } := by
  have ne : ∀ {a o}, H a = some o → a ≠ t := fun {a o} e => ne_of_none e ht
  have h0t : H0 t = none := Same.free h.same ht
  have hct : Hc t = none := Same.free h.cl ht
  have hl0 := h.opn l (by simp)
  obtain ⟨vs', hl', hv⟩ := h.top
  rw [hl] at hl'
  cases hl'
  have ltn : l ≠ t := ne hl
  have sc : Same Hc (upd Hc t (.tup [.str w, .int i])) := sameNew hct
  constructor
  · exact Same.at_new (Same.at_new h.same h0t) hl0.2.1
  · intro b o hb
    by_cases e : b = t
    · subst e
      rw [upd_same] at hb
      rw [upd_ne (Ne.symm ltn), upd_same]
      exact hb
    · rw [upd_ne e] at hb
      have bl : b ≠ l := fun z => by rw [z, hl0.1] at hb; cases hb
      rw [upd_ne bl, upd_ne e]
      exact h.cl _ _ hb
  · intro b hb
    by_cases e : b = t
    · subst e; exact h0t
    · rw [upd_ne e] at hb; exact h.apart b hb
  · intro a ha
    obtain ⟨a1, a2, a3⟩ := h.opn a ha
    refine ⟨?_, a2, a3⟩
    have : a ≠ t := by
      rcases List.mem_cons.mp ha with rfl | ha
      · exact ltn
      · intro z
        subst z
        have : ∀ {l : Addr} {ix : Int} {ls : List Addr} {up : List (List Node × Int)}, Up H Hc l ix ls up → a ∈ ls → H a ≠ none := by
          intro l ix ls
          induction ls generalizing l ix with
          | nil => intro up _ m; cases m
          | cons b r ih =>
            intro up u m
            cases up with
            | nil => exact u.elim
            | cons p q =>
              obtain ⟨_, _, x1, _, _, x2⟩ := u
              rcases List.mem_cons.mp m with rfl | m
              · rw [x1]; exact fun z => nomatch z
              · exact ih x2 m
        exact this h.up ha ht
    rw [upd_ne this]; exact a1
  · refine ⟨?_, h.nP.2⟩
    rw [upd_ne (ne h.rows)]; exact h.nP.1
  · exact h.nd
  · rw [upd_ne (Ne.symm hl0.2.2), upd_ne (ne h.rows)]; exact h.rows
  · exact h.last
  · refine ⟨_, upd_same, ?_⟩
    exact nds.append (nds.fr (frS sc) _ _ hv) ⟨_, [], rfl, ⟨t, rfl, upd_same⟩, rfl⟩
  · refine Up.mono sc (fun a ha o e => ?_) h.up
    have al : a ≠ l := fun z => by subst z; exact (List.nodup_cons.mp h.nd).1 ha
    rw [upd_ne al, upd_ne (ne e)]; exact e
theorem FI.push {H0 Hc H : Hp} {P F0 l q t : Addr} {ls : List Addr} {f : FS} {vs : List V} {i : Int} (h : FI H0 Hc H P F0 l ls f) (hl : H l = some (.lst vs)) (hq : H q = none) (ht : upd H q (.lst []) t = none) :
    FI H0 (upd Hc t (.tup [.ref q, .int i])) (upd (upd (upd (upd H q (.lst [])) t (.tup [.ref q, .int i])) l (.lst (vs ++ [.ref t]))) P (.lst ((ls.reverse.map V.ref ++ [.ref l]) ++ [.ref q]))) P F0 q (l :: ls) ⟨[], i, (f.top, f.ix) :: f.up⟩ := by
  have qt : t ≠ q := fun z => by rw [z, upd_same] at ht; cases ht
  have ht' : H t = none := by rw [upd_ne qt] at ht; exact ht
  have ne : ∀ {a o}, H a = some o → a ≠ t := fun {a o} e => ne_of_none e ht'
  have neq : ∀ {a o}, H a = some o → a ≠ q := fun {a o} e => ne_of_none e hq
  have h0t : H0 t = none := Same.free h.same ht'
  have hct : Hc t = none := Same.free h.cl ht'
  have h0q : H0 q = none := Same.free h.same hq
  have hcq : Hc q = none := Same.free h.cl hq
  have hl0 := h.opn l (by simp)
  obtain ⟨vs', hl', hv⟩ := h.top
  rw [hl] at hl'
  cases hl'
  have sc : Same Hc (upd Hc t (.tup [.ref q, .int i])) := sameNew hct
  have there : ∀ a ∈ l :: ls, H a ≠ none := by
    intro a ha
    have : ∀ {l : Addr} {ix : Int} {ls : List Addr} {up : List (List Node × Int)}, Up H Hc l ix ls up → a ∈ ls → H a ≠ none := by
      intro l ix ls
      induction ls generalizing l ix with
      | nil => intro up _ m; cases m
      | cons b r ih =>
        intro up u m
        cases up with
        | nil => exact u.elim
        | cons p q =>
          obtain ⟨_, _, x1, _, _, x2⟩ := u
          rcases List.mem_cons.mp m with rfl | m
          · rw [x1]; exact fun z => nomatch z
          · exact ih x2 m
    rcases List.mem_cons.mp ha with rfl | ha
    · rw [hl]; exact fun z => nomatch z
    · exact this h.up ha
  have Pq : P ≠ q := neq h.rows
  have Pt : P ≠ t := ne h.rows
  have lq : l ≠ q := neq hl
  have lt : l ≠ t := ne hl
  constructor
  · exact Same.at_new (Same.at_new (Same.at_new (Same.at_new h.same h0q) h0t) hl0.2.1) h.nP.2
  · intro b o hb
    by_cases e : b = t
    · subst e
      rw [upd_same] at hb
      rw [upd_ne (Ne.symm Pt), upd_ne (Ne.symm lt), upd_same]
      exact hb
    · rw [upd_ne e] at hb
      have bl : b ≠ l := fun z => by rw [z, hl0.1] at hb; cases hb
      have bP : b ≠ P := fun z => by rw [z, h.nP.1] at hb; cases hb
      have z := h.cl _ _ hb
      rw [upd_ne bP, upd_ne bl, upd_ne e, upd_ne (neq z)]
      exact z
  · intro b hb
    by_cases e : b = t
    · subst e; exact h0t
    · rw [upd_ne e] at hb; exact h.apart b hb
  · intro a ha
    rcases List.mem_cons.mp ha with rfl | ha
    · exact ⟨by rw [upd_ne (Ne.symm qt)]; exact hcq, h0q, Ne.symm Pq⟩
    · obtain ⟨a1, a2, a3⟩ := h.opn a ha
      refine ⟨?_, a2, a3⟩
      have : a ≠ t := fun z => by subst z; exact there a ha ht'
      rw [upd_ne this]; exact a1
  · refine ⟨?_, h.nP.2⟩
    rw [upd_ne Pt]; exact h.nP.1
  · refine List.nodup_cons.mpr ⟨fun m => there q m hq, h.nd⟩
  · rw [upd_same]
    simp
  · obtain ⟨pre, e⟩ := h.last
    exact ⟨q :: pre, by rw [e]; rfl⟩
  · refine ⟨[], ?_, rfl⟩
    rw [upd_ne (Ne.symm Pq), upd_ne (Ne.symm lq), upd_ne (Ne.symm qt), upd_same]
  · refine ⟨vs, t, ?_, upd_same, nds.fr (frS sc) _ _ hv, ?_⟩
    · rw [upd_ne hl0.2.2, upd_same]
    · refine Up.mono sc (fun a ha o e => ?_) h.up
      have al : a ≠ l := fun z => by subst z; exact (List.nodup_cons.mp h.nd).1 ha
      have aP := (h.opn a (by simp [ha])).2.2
      rw [upd_ne aP, upd_ne al, upd_ne (ne e), upd_ne (neq e)]; exact e
theorem FI.pop {H0 Hc H : Hp} {P F0 l : Addr} {ls : List Addr} {top : List Node} {ix j : Int} {p : List Node} {r : List (List Node × Int)} (h : FI H0 Hc H P F0 l ls ⟨top, ix, (p, j) :: r⟩) :
    ∃ l' lr, ls = l' :: lr ∧ ∃ Hc', FI H0 Hc' (upd H P (.lst (ls.reverse.map V.ref ++ [V.ref l]).dropLast)) P F0 l' lr ⟨p ++ [.form top ix], j, r⟩ := by
  obtain ⟨vs, hl, hv⟩ := h.top
  have u := h.up
  cases ls with
  | nil => exact u.elim
  | cons l' lr =>
    obtain ⟨vs', t, h1, h2, h3, h4⟩ := u
    have hl0 := h.opn l (by simp)
    have nd1 := List.nodup_cons.mp h.nd
    have sc : Same Hc (upd Hc l (.lst vs)) := sameNew hl0.1
    refine ⟨l', lr, rfl, upd Hc l (.lst vs), ?_⟩
    have tl : Hc t ≠ none := by rw [h2]; exact fun z => nomatch z
    constructor
    · exact Same.at_new h.same h.nP.2
    · intro b o hb
      by_cases e : b = l
      · subst e
        rw [upd_same] at hb
        rw [upd_ne hl0.2.2, hl]
        exact hb
      · rw [upd_ne e] at hb
        have bP : b ≠ P := fun z => by rw [z, h.nP.1] at hb; cases hb
        rw [upd_ne bP]; exact h.cl _ _ hb
    · intro b hb
      by_cases e : b = l
      · subst e; exact hl0.2.1
      · rw [upd_ne e] at hb; exact h.apart b hb
    · intro a ha
      obtain ⟨a1, a2, a3⟩ := h.opn a (List.mem_cons_of_mem _ ha)
      have : a ≠ l := fun z => by subst z; exact nd1.1 ha
      exact ⟨by rw [upd_ne this]; exact a1, a2, a3⟩
    · exact ⟨by rw [upd_ne (Ne.symm hl0.2.2)]; exact h.nP.1, h.nP.2⟩
    · exact nd1.2
    · rw [upd_same, List.dropLast_concat]
      simp
    · obtain ⟨pre, e⟩ := h.last
      cases pre with
      | nil => simp at e
      | cons b pre =>
        rw [List.cons_append] at e
        exact ⟨pre, (List.cons.inj e).2⟩
    · refine ⟨vs' ++ [.ref t], ?_, ?_⟩
      · rw [upd_ne (h.opn l' (by simp)).2.2]; exact h1
      · exact nds.append (nds.fr (frS sc) _ _ h3) ⟨_, [], rfl, ⟨t, l, vs, rfl, sc _ _ h2, upd_same, nds.fr (frS sc) _ _ hv⟩, rfl⟩
    · refine Up.mono sc (fun a ha o e => ?_) h4
      have aP := (h.opn a (by simp [ha])).2.2
      rw [upd_ne aP]; exact e
theorem FI.done {H0 Hc H : Hp} {P F0 l : Addr} {f : FS} (h : FI H0 Hc H P F0 l [] f) : f.up = [] ∧ l = F0 ∧ ∃ us Hn, Same Hn H ∧ (∀ b, Hn b ≠ none → H0 b = none) ∧ Hn l = some (.lst us) ∧ nds Hn us f.top := by
  have e := Up.len h.up
  refine ⟨List.length_eq_zero_iff.mp (by simpa using e), ?_, ?_⟩
  · obtain ⟨pre, e⟩ := h.last
    cases pre with
    | nil => simpa using e
    | cons b pre => simp at e
  · obtain ⟨vs, hl, hv⟩ := h.top
    have hl0 := h.opn l (by simp)
    refine ⟨vs, upd Hc l (.lst vs), fun b o hb => ?_, fun b hb => ?_, upd_same, nds.fr (frS (sameNew hl0.1)) _ _ hv⟩
    · by_cases e : b = l
      · subst e; rw [upd_same] at hb; rw [hl]; exact hb
      · rw [upd_ne e] at hb; exact h.cl _ _ hb
    · by_cases e : b = l
      · subst e; exact hl0.2.1
      · rw [upd_ne e] at hb; exact h.apart b hb
theorem FI.start {H0 H : Hp} {P F0 : Addr} (hF : H0 F0 = none) (hP : H0 P = none) (PF : P ≠ F0) (s : Same H0 H) (h1 : H F0 = some (.lst [])) (h2 : H P = some (.lst [.ref F0])) : FI H0 (fun _ => none) H P F0 F0 [] fs0 := by
  constructor
  · exact s
  · exact fun b o z => nomatch z
  · exact fun b z => absurd rfl z
  · intro a ha
    rcases List.mem_singleton.mp ha with rfl
    exact ⟨rfl, hF, Ne.symm PF⟩
  · exact ⟨rfl, hP⟩
  · simp
  · exact h2
  · exact ⟨[], rfl⟩
  · exact ⟨[], h1, rfl⟩
  · trivial
theorem TvAll.get {H : Hp} : ∀ {us : List V} {ds : List PyData} {k : Nat} {x : V}, TvAll H us ds → us[k]? = some x → ∃ d, ds[k]? = some d ∧ Tv H x d
  | _, _, k, x, .nil, e => by simp at e
  | _, _, 0, x, .cons a b, e => by simp at e; subst e; exact ⟨_, rfl, a⟩
  | _, _, k + 1, x, .cons a b, e => by
    obtain ⟨d, e1, e2⟩ := TvAll.get (k := k) (x := x) b (by simpa using e)
    exact ⟨d, by simpa using e1, e2⟩
theorem td_inv {H : Hp} {x : V} {t : Tok1} (h : Tv H x (td t)) : ∃ a, x = .ref a ∧ H a = some (.tup [.str t.1, .int t.2]) := by
  unfold td at h
  cases h with
  | tup h ha =>
    cases ha with
    | cons h1 h2 =>
      cases h1
      cases h2 with
      | cons h3 h4 => cases h3; cases h4; exact ⟨_, rfl, h⟩
theorem FB.len {f : FS} {n : Nat} (h : FB f n) (hn : n ≤ 6000) : f.top.length ≤ 6000 ∧ f.up.length ≤ 20 := by
  have a := len_le_wts h.g.1
  have b := h.w
  have c := h.d.1
  omega
theorem fb0 : FB fs0 0 := ⟨Nat.le_refl _, ⟨trivial, Int.le_refl _, trivial⟩, by show 0 + 0 ≤ 20; omega, trivial⟩
end K10
set_option maxHeartbeats 8000000
/-! K10Prog8: forms, the tree. Printed by expand.py from K10Prog8.tpl. -/
namespace K10
open PySem PySem.Spec PyProof.Rows L2
section
variable {P : Program} {w : World} {K : PySem.W.Frag} {mg : Str → Option Value} {base : Heap}
def nReadForms : List Str := ["text", "forms", "parts_of", "word", "index", "parts"]
def pReadForms : List Str := ["text"]
theorem scReadForms : FnScope nReadForms pReadForms (defScope sReadForms) := ⟨rfl, rfl, rfl, by decide +kernel, rfl, by decide +kernel, by decide +kernel⟩
theorem bReadForms : BindsBy "read_forms" sReadForms pReadForms := fun _ _ _ _ _ _ us hl => match us, hl with | [_], _ => rfl
def nReadTree : List Str := ["text", "groups", "stage", "part", "declaration"]
def pReadTree : List Str := ["text"]
theorem scReadTree : FnScope nReadTree pReadTree (defScope sReadTree) := ⟨rfl, rfl, rfl, by decide +kernel, rfl, by decide +kernel, by decide +kernel⟩
theorem bReadTree : BindsBy "read_tree" sReadTree pReadTree := fun _ _ _ _ _ _ us hl => match us, hl with | [_], _ => rfl
def nReadProgram : List Str := ["text"]
def pReadProgram : List Str := ["text"]
theorem scReadProgram : FnScope nReadProgram pReadProgram (defScope sReadProgram) := ⟨rfl, rfl, rfl, by decide +kernel, rfl, by decide +kernel, by decide +kernel⟩
theorem bReadProgram : BindsBy "read_program" sReadProgram pReadProgram := fun _ _ _ _ _ _ us hl => match us, hl with | [_], _ => rfl
def spForms (C : Addr) : Sp := fun vs H Q E => ∃ t : Str, vs = [.str t] ∧ t.length ≤ sizeLine ∧ Post (formsT t.cps.toList) (fun ns => ∀ l us H' Hn, Same H H' → Same Hn H' → (∀ b, Hn b ≠ none → H b = none) → Hn l = some (.lst us) → nds Hn us ns → Q (.ref l) H') (Err C E H)
theorem has_read_forms (F : Facts w K mg) (PT : ProgT P) : Has P w K mg base (L2.CX P w) 3 "read_forms" pReadForms (spForms (tC K)) := by
  have h_split := has_split (base := base) F PT
  refine has_X F.g_read_forms F.f_read_forms scReadForms bReadForms (fun vs H Q E h => by obtain ⟨_, rfl, _⟩ := h; rfl) fun cdv A outer s H vs Q E hr h => ?_
  obtain ⟨t, rfl, ht, q⟩ := h
  refine ⟨_, (pss_cons (ps_set (i := 1) scReadForms.nd rfl (Or.inl rfl) (pe_lst pa_nil))
    (pss_cons (ps_set (i := 2) scReadForms.nd rfl (Or.inl rfl) (pe_lst (pa_cons (pv 1) pa_nil)))
    (pss_cons (ps_for (passes_of rfl) rfl (pi_list (pe_callH h_split hr (by omega) rfl (passes_call tkX fun _ _ _ _ h => h) (pa_cons (pv 0) pa_nil))) (pg_tup rfl (pgs_cons (pg_name (i := 3) scReadForms.nd rfl (Or.inl rfl)) (pgs_cons (pg_name (i := 4) scReadForms.nd rfl (Or.inl rfl)) pgs_nil)))
      (pss_one (ps_if (pt_cmpR op_eq (pv 3) pe_str (nomark _)) (pss_cons (ps_if (pt_cmpR op_gt (pe_callB call_len_seq (by rfl) F.z_len (by decide +kernel) (pa_cons (pv 2) pa_nil)) (pe_glob (v := .int 20) rfl (F.i_MAX_FORMS).choose_spec ⟨_, rfl⟩) (nomark _)) (pss_one (ps_raiseT rfl PT F.tx hr tkX (pa_cons (pv 4) pa_nil)))
          pss_nil)
        (pss_cons (ps_set (i := 5) scReadForms.nd rfl (Or.inl rfl) (pe_lst pa_nil))
        (pss_cons (ps_expr (pe_bm PySem.F.plainAttrs_list PySem.F.slot_list_append PySem.F.type_list_append mt_append (pe_ix ix_list (pv 2) (pe_un un_neg pe_int) (fun _ _ => rfl)) (pa_cons (pe_tup (pa_cons (pv 5) (pa_cons (pv 4) pa_nil))) pa_nil)))
        (pss_one (ps_expr (pe_bm PySem.F.plainAttrs_list PySem.F.slot_list_append PySem.F.type_list_append mt_append (pv 2) (pa_cons (pv 5) pa_nil)))))))
        (pss_one (ps_if (pt_cmpR op_eq (pe_callB call_len_seq (by rfl) F.z_len (by decide +kernel) (pa_cons (pv 2) pa_nil)) pe_int (nomark _)) (pss_one (ps_raiseT rfl PT F.tx hr tkX (pa_cons (pv 4) pa_nil)))
          (pss_one (ps_if (pt_cmpR op_eq (pv 3) pe_str (nomark _)) (pss_one (ps_expr (pe_bm0 PySem.F.plainAttrs_list PySem.F.slot_list_pop PySem.F.type_list_pop mt_pop (pv 2))))
            (pss_one (ps_expr (pe_bm PySem.F.plainAttrs_list PySem.F.slot_list_append PySem.F.type_list_append mt_append (pe_ix ix_list (pv 2) (pe_un un_neg pe_int) (fun _ _ => rfl)) (pa_cons (pe_tup (pa_cons (pv 3) (pa_cons (pv 4) pa_nil))) pa_nil)))))))))))
    (pss_cons (ps_if (pt_cmpR op_gt (pe_callB call_len_seq (by rfl) F.z_len (by decide +kernel) (pa_cons (pv 2) pa_nil)) pe_int (nomark _)) (pss_one (ps_raiseT rfl PT F.tx hr tkX (pa_cons (pe_callB call_len_str (by rfl) F.z_len (by decide +kernel) (pa_cons (pv 0) pa_nil)) pa_nil)))
      pss_nil)
    (pss_one (ps_ret (pv 1))))))), ?_⟩
  have hL := len_toList t
  refine ⟨lb rfl, fun F0 hF => ⟨_, rfl, lb rfl, fun Pa hP => ⟨_, rfl, t, rfl, ht, ?_⟩⟩⟩
  have PF : Pa ≠ F0 := fun z => by rw [z, upd_same] at hP; cases hP
  have hP' : H Pa = none := by rw [upd_ne PF] at hP; exact hP
  have sP := Same.trans (sameNew (o := .lst []) hF) (sameNew (o := .lst [.ref F0]) hP)
  have hPF : (upd (upd H F0 (.lst [])) Pa (.lst [.ref F0])) F0 = some (.lst []) := by rw [upd_ne (Ne.symm PF), upd_same]
  have hPP : (upd (upd H F0 (.lst [])) Pa (.lst [.ref F0])) Pa = some (.lst [.ref F0]) := upd_same
  generalize upd (upd H F0 (.lst [])) Pa (.lst [.ref F0]) = HP at *
  unfold formsT at q
  cases esp : splitOf t.cps.toList with
  | error er => rw [esp] at q; exact Err.same (at_ := er) q sP
  | ok toks =>
  rw [esp] at q
  intro l us H' s' nl hl hus hlen
  have hF' := s' _ _ hPF
  have hPa' := s' _ _ hPP
  have lF : l ≠ F0 := fun z => by rw [z, hPF] at nl; cases nl
  have lP : l ≠ Pa := fun z => by rw [z, hPP] at nl; cases nl
  -- the heap but the two lists
  obtain ⟨H0, h0a, h0F, h0P⟩ : ∃ H0 : Hp, (∀ b, b ≠ F0 → b ≠ Pa → H0 b = H' b) ∧ H0 F0 = none ∧ H0 Pa = none :=
    ⟨fun b => if b = F0 ∨ b = Pa then none else H' b, fun b h1 h2 => if_neg (by simp [h1, h2]), if_pos (.inl rfl), if_pos (.inr rfl)⟩
  have sH0 : Same H H0 := fun b o h => by
    rw [h0a b (ne_of_none h hF) (ne_of_none h hP')]
    exact (sP.trans s') _ _ h
  have s0' : Same H0 H' := fun b o h => by
    have b1 : b ≠ F0 := fun z => by rw [z, h0F] at h; cases h
    have b2 : b ≠ Pa := fun z => by rw [z, h0P] at h; cases h
    rw [h0a b b1 b2] at h; exact h
  have ft : Ft H' H0 := fun b xs h => by
    have b1 : b ≠ F0 := fun z => by rw [z, hF'] at h; cases h
    have b2 : b ≠ Pa := fun z => by rw [z, hPa'] at h; cases h
    rw [h0a b b1 b2]; exact h
  have hl0 : H0 l = some (.lst us) := by rw [h0a l lF lP]; exact hl
  have hus0 := TvAll.ft ft _ _ hus
  have etoks : toks = lex 0 [] t.cps.toList ∧ t.length ≤ 6000 := by
    unfold splitOf at esp
    by_cases z : t.cps.toList.length > 6000
    · rw [if_pos z] at esp; cases esp
    · rw [if_neg z] at esp
      cases e : badAt 0 t.cps.toList with
      | some i => rw [e] at esp; cases esp
      | none => rw [e] at esp; cases esp; exact ⟨rfl, by omega⟩
  obtain ⟨tok1, tok2⟩ := lex_ok (cs := t.cps.toList) (cur := []) (i := 0) (by simp)
  rw [← etoks.1] at tok1 tok2
  simp only [List.length_nil, Nat.zero_add] at tok2
  refine ⟨l, rfl, ⟨us, SqL.of hl⟩, ?_⟩
  refine for_list (xs := us) (fun k σ H3 => ∃ f Hc lc ls n z3 z4 z5, σ = [some (.str t), some (.ref F0), some (.ref Pa), z3, z4, z5] ∧ FI H0 Hc H3 Pa F0 lc ls f ∧ FB f n ∧ n + toksW (toks.drop k) ≤ 6000 ∧
    Post (match f.run (toks.drop k) with | .error e => .error e | .ok g => g.fin (t.cps.toList.length : Nat)) (fun ns => ∀ l us H' Hn, Same H H' → Same Hn H' → (∀ b, Hn b ≠ none → H b = none) → Hn l = some (.lst us) → nds Hn us ns → Q (.ref l) H') (Err (tC K) E H))
    ⟨fs0, _, F0, [], 0, none, none, none, rfl, FI.start h0F h0P PF s0' hF' hPa', fb0, by simp only [List.drop_zero]; omega, q⟩ (fun k σ H3 _ h => ?_) (fun k x σ H3 hx h => ?_) (fun σ H3 h => ?_)
  · obtain ⟨f, Hc, lc, ls, n, z3, z4, z5, _, fi, _⟩ := h
    exact SqL.of (fi.same _ _ hl0)
  · obtain ⟨f, Hc, lc, ls, n, z3, z4, z5, rfl, fi, fb, hn, q⟩ := h
    obtain ⟨d, hd, htv⟩ := TvAll.get hus0 hx
    rw [List.getElem?_map] at hd
    obtain ⟨tk, htk, rfl⟩ := Option.map_eq_some_iff.mp hd
    obtain ⟨a, rfl, ha⟩ := td_inv htv
    have s3 := sH0.trans fi.same
    have ul := fi.up.len
    obtain ⟨vs, hlc, hvs⟩ := fi.top
    have hrl : (ls.reverse.map V.ref ++ [V.ref lc]).length = ls.length + 1 := by simp
    have bl := fb.len (by omega)
    have vl := nds.length hvs
    have tin := tok1 tk (List.mem_of_getElem? htk)
    have hat : atI (ls.reverse.map V.ref ++ [V.ref lc]) (-1) = some (V.ref lc) := atI_last _ _
    rw [drop_cons htk] at q hn
    rw [toksW] at hn
    rw [FS.run] at q
    refine ⟨a, _, rfl, SqT.of (fi.same _ _ ha), rfl, _, _, rfl, _, _, rfl, rfl, ?_⟩
    refine ⟨_, rfl, rfl, _, rfl, ite2 (fun y => ?_) (fun y => ?_)⟩
    · have y : tk.1 = S "(" := by rw [str_eq] at y; exact of_decide_eq_true y
      have ep : f.push tk = (if f.up.length + 1 > 20 then .error tk.2 else .ok ⟨[], tk.2, (f.top, f.ix) :: f.up⟩) := by unfold FS.push; rw [if_pos y]
      refine ⟨_, rfl, Pa, _, rfl, .inl (SqL.of fi.rows), _, _, rfl, rfl, _, rfl, ite2 (fun y2 => ?_) (fun y2 => ?_)⟩
      · have y2 := of_decide_eq_true y2
        rw [hrl] at y2
        rw [ep, if_pos (by omega)] at q
        exact ⟨_, rfl, _, rfl, fun d hd => (Err.same (at_ := tk.2) q s3).go d hd⟩
      · have y2 : ¬ _ := fun z => y2 (decide_eq_true z)
        rw [hrl] at y2
        have ep : f.push tk = .ok ⟨[], tk.2, (f.top, f.ix) :: f.up⟩ := by rw [ep, if_neg (by omega)]
        rw [ep] at q
        refine ⟨lb rfl, fun Lq hq => ?_⟩
        have r1 := sameNew (o := .lst []) hq
        refine ⟨_, rfl, _, rfl, _, _, _, _, rfl, rfl, SqL.of (r1 _ _ fi.rows), hat, .inl ⟨rfl, _, SqL.of (r1 _ _ hlc)⟩, _, rfl, _, rfl, lb rfl, fun tt htt => ?_⟩
        have r2 := r1.trans (sameNew (o := .tup [.ref Lq, .int tk.2]) htt)
        have fi2 := fi.push hlc hq htt (i := tk.2)
        have lcP := (fi.opn lc (by simp)).2.2
        refine ⟨_, _, _, rfl, rfl, r2 _ _ hlc, by rw [line_eq]; omega, ?_⟩
        have hr3 : (upd (upd (upd H3 Lq (.lst [])) tt (.tup [.ref Lq, .int tk.2])) lc (.lst (vs ++ [.ref tt]))) Pa = some (.lst (ls.reverse.map V.ref ++ [.ref lc])) := by
          rw [upd_ne (Ne.symm lcP)]; exact r2 _ _ fi.rows
        refine ⟨_, rfl, .inl ⟨rfl, _, SqL.of hr3⟩, _, rfl, _, _, _, rfl, rfl, hr3, by rw [line_eq]; omega, ?_⟩
        exact ⟨_, _, _, _, _, _, _, _, rfl, fi2, push_ok fb tin.1 tin.2 ep, by omega, q⟩
    · have y : ¬ tk.1 = S "(" := by rw [str_eq] at y; simpa using y
      refine ⟨_, rfl, Pa, _, rfl, .inl (SqL.of fi.rows), rfl, _, rfl, ?_⟩
      rw [int_eq]
      refine ite2 (fun y2 => ?_) (fun y2 => ?_)
      · have y2 := of_decide_eq_true y2
        rw [hrl] at y2
        have eu : f.up = [] := List.length_eq_zero_iff.mp (by omega)
        have ep : f.push tk = .error tk.2 := by unfold FS.push; rw [if_neg y, eu]
        rw [ep] at q
        exact ⟨_, rfl, _, rfl, fun d hd => (Err.same (at_ := tk.2) q s3).go d hd⟩
      · have y2 : ¬ _ := fun z => y2 (decide_eq_true z)
        rw [hrl] at y2
        obtain ⟨top, ix, up⟩ := f
        cases up with
        | nil => simp at ul; omega
        | cons pj r =>
        obtain ⟨p, j⟩ := pj
        refine ⟨_, rfl, rfl, _, rfl, ite2 (fun y3 => ?_) (fun y3 => ?_)⟩
        · have y3 : tk.1 = S ")" := by rw [str_eq] at y3; exact of_decide_eq_true y3
          have ep : FS.push ⟨top, ix, (p, j) :: r⟩ tk = .ok ⟨p ++ [.form top ix], j, r⟩ := by unfold FS.push; rw [if_neg y]; show (if tk.1 = S ")" then _ else _) = _; rw [if_pos y3]
          rw [ep] at q
          obtain ⟨l', lr, rfl, Hc', fi2⟩ := fi.pop
          refine ⟨_, rfl, .inl ⟨rfl, _, SqL.of fi.rows⟩, _, _, V.ref lc, rfl, rfl, fi.rows, by simp, ?_⟩
          exact ⟨_, _, _, _, _, _, _, _, rfl, fi2, push_ok fb tin.1 tin.2 ep, by omega, q⟩
        · have y3 : ¬ tk.1 = S ")" := by rw [str_eq] at y3; simpa using y3
          have ep : FS.push ⟨top, ix, (p, j) :: r⟩ tk = .ok ⟨top ++ [.word tk.1 tk.2], ix, (p, j) :: r⟩ := by unfold FS.push; rw [if_neg y]; show (if tk.1 = S ")" then _ else _) = _; rw [if_neg y3]
          rw [ep] at q
          refine ⟨_, rfl, _, rfl, _, _, _, _, rfl, rfl, SqL.of fi.rows, hat, .inl ⟨rfl, _, SqL.of hlc⟩, _, rfl, _, rfl, lb rfl, fun tt htt => ?_⟩
          have r2 := sameNew (o := .tup [.str tk.1, .int tk.2]) htt
          refine ⟨_, _, _, rfl, rfl, r2 _ _ hlc, by rw [line_eq]; simp only at bl vl; omega, ?_⟩
          exact ⟨_, _, _, _, _, _, _, _, rfl, fi.word hlc htt (w := tk.1) (i := tk.2), push_ok fb tin.1 tin.2 ep, by omega, q⟩
  · obtain ⟨f, Hc, lc, ls, n, z3, z4, z5, rfl, fi, fb, hn, q⟩ := h
    have el : us.length = toks.length := by
      have := hus0
      have g : ∀ {us : List V} {ds : List PyData}, TvAll H0 us ds → us.length = ds.length := by
        intro us
        induction us with
        | nil => intro ds h; cases h; rfl
        | cons a r ih => intro ds h; cases h with | cons _ h2 => simp [ih h2]
      rw [g this, List.length_map]
    rw [el, List.drop_length] at q
    have ul := fi.up.len
    have s3 := sH0.trans fi.same
    have hrl : (ls.reverse.map V.ref ++ [V.ref lc]).length = ls.length + 1 := by simp
    refine ⟨_, rfl, Pa, _, rfl, .inl (SqL.of fi.rows), _, _, rfl, rfl, _, rfl, ite2 (fun y2 => ?_) (fun y2 => ?_)⟩
    · have y2 := of_decide_eq_true y2
      rw [hrl] at y2
      obtain ⟨top, ix, up⟩ := f
      cases up with
      | nil => simp at ul; omega
      | cons pj r =>
      have q : Err (tC K) E H (t.cps.toList.length : Nat) := q
      rw [hL] at q
      exact ⟨_, rfl, t, rfl, ht, _, rfl, fun d hd => (Err.same q s3).go d hd⟩
    · have y2 : ¬ _ := fun z => y2 (decide_eq_true z)
      rw [hrl] at y2
      have e : ls = [] := List.length_eq_zero_iff.mp (by omega)
      subst e
      obtain ⟨e1, e2, us2, Hn, d1, d2, d3, d4⟩ := fi.done
      obtain ⟨top, ix, up⟩ := f
      simp only at e1
      subst e1 e2
      exact ⟨_, rfl, q _ us2 _ Hn s3 d1 (fun b hb => Same.free sH0 (d2 b hb)) d3 d4⟩
/-- the whole reading of a text -/
def textOf (cs : List Nat) : Rd PyData := match formsT cs with
  | .error e => .error e
  | .ok ns => readNodes (cs.length : Nat) ns
def spTree (C : Addr) : Sp := fun vs H Q E => ∃ t : Str, vs = [.str t] ∧ t.length ≤ sizeLine ∧ Post (textOf t.cps.toList) (fun d => ∀ v' H', Same H H' → Tv H' v' d → Q v' H') (Err C E H)
/-- the four lists of the groups -/
structure GI (H : Hp) (G : Addr) (as : List Addr) (us : List (List V)) (gs : List (List PyData)) : Prop where
  at_ : H G = some (.lst (as.map V.ref))
  l4 : as.length = 4 ∧ us.length = 4 ∧ gs.length = 4
  nd : as.Nodup ∧ G ∉ as
  each : ∀ (i : Nat) (a : Addr) (u : List V) (g : List PyData), as[i]? = some a → us[i]? = some u → gs[i]? = some g → H a = some (.lst u) ∧ TvAll H u g
def Gr.list (g : Gr) : List (List PyData) := [g.a, g.b, g.c, g.d]
theorem Gr.list_put (g : Gr) {k : Nat} (hk : k < 4) (x : PyData) : ∃ l, g.list[k]? = some l ∧ (g.put k x).list = g.list.set k (l ++ [x]) := by
  match k, hk with
  | 0, _ => exact ⟨_, rfl, rfl⟩
  | 1, _ => exact ⟨_, rfl, rfl⟩
  | 2, _ => exact ⟨_, rfl, rfl⟩
  | 3, _ => exact ⟨_, rfl, rfl⟩
theorem GI.fr {H H' : Hp} {G : Addr} {as : List Addr} {us : List (List V)} {gs : List (List PyData)} (h : GI H G as us gs) (e : Fr H H') : GI H' G as us gs :=
  ⟨e.lst h.at_, h.l4, h.nd, fun i a u g h1 h2 h3 => ⟨e.lst (h.each i a u g h1 h2 h3).1, TvAll.fr e _ _ (h.each i a u g h1 h2 h3).2⟩⟩
theorem GI.put {H : Hp} {G a : Addr} {as : List Addr} {us : List (List V)} {gs : List (List PyData)} {k : Nat} {u : List V} {l : List PyData} {v : V} {d : PyData} (h : GI H G as us gs) (h1 : as[k]? = some a) (h2 : us[k]? = some u) (h3 : gs[k]? = some l) (hv : Tv H v d) :
    GI (upd H a (.lst (u ++ [v]))) G as (us.set k (u ++ [v])) (gs.set k (l ++ [d])) := by
  have ha := h.each k a u l h1 h2 h3
  have am : a ∈ as := List.mem_of_getElem? h1
  have Ga : G ≠ a := fun z => h.nd.2 (by rw [z]; exact am)
  have ft : Ft H (upd H a (.lst (u ++ [v]))) := Ft.upd ha.1 (fun _ z => nomatch z)
  refine ⟨by rw [upd_ne Ga]; exact h.at_, by simp [h.l4], h.nd, fun i b u' g' e1 e2 e3 => ?_⟩
  by_cases e : i = k
  · subst e
    rw [h1] at e1
    cases e1
    rw [List.getElem?_set_self (by rw [h.l4.2.1, ← h.l4.1]; exact (List.getElem?_eq_some_iff.mp h1).1)] at e2
    rw [List.getElem?_set_self (by rw [h.l4.2.2, ← h.l4.1]; exact (List.getElem?_eq_some_iff.mp h1).1)] at e3
    cases e2
    cases e3
    exact ⟨upd_same, (TvAll.ft ft _ _ ha.2).append (.cons (Tv.ft ft _ _ hv) .nil)⟩
  · rw [List.getElem?_set_ne (Ne.symm e)] at e2 e3
    obtain ⟨x1, x2⟩ := h.each i b u' g' e1 e2 e3
    have ba : b ≠ a := fun z => by
      subst z
      exact e (nd_ix h.nd.1 e1 h1)
    exact ⟨by rw [upd_ne ba]; exact x1, TvAll.ft ft _ _ x2⟩
theorem get4 {α : Type} {l : List α} (h : l.length = 4) : ∃ a b c d, l = [a, b, c, d] := by
  match l, h with
  | [a, b, c, d], _ => exact ⟨a, b, c, d, rfl⟩
theorem wt_le {ps : List Node} (h : wts ps ≤ 6000) {y : Node} (m : y ∈ ps) : y.wt ≤ 6000 := Nat.le_trans (wt_mem m) h
theorem declOf_lt {f : Node → Rd PyData} {st k : Nat} {x : Node} {d : PyData} (e : declOf f st x = .ok (k, d)) : k < 4 := by
  unfold declOf at e
  cases h1 : firstIn (mayCome st) x with
  | error er => rw [h1] at e; cases e
  | ok h =>
    rw [h1] at e
    have e : (if h = S "beat" then (match x with
        | .form (_ :: r) _ => (do
          let x ← rdAll f r
          (.ok (3, .tuple x) : Rd (Nat × PyData)))
        | _ => .error x.at)
      else if h = S "procedure" then (do
        let x ← procOf f x
        .ok (2, x))
      else (do
        let ps ← partsIn 2 3 x
        let x ← varOf (ps.drop 1)
        .ok (if h = S "state" then 0 else 1, x))) = .ok (k, d) := e
    split at e
    · split at e
      · rename_i r _ _
        cases h2 : rdAll f r with
        | error er => rw [h2] at e; cases e
        | ok xs => rw [h2] at e; cases e; omega
      · cases e
    · split at e
      · cases h2 : procOf f x with
        | error er => rw [h2] at e; cases e
        | ok xs => rw [h2] at e; cases e; omega
      · cases h2 : partsIn 2 3 x with
        | error er => rw [h2] at e; cases e
        | ok ps =>
          rw [h2] at e
          have e : (varOf (ps.drop 1) >>= fun x => (Except.ok (if h = S "state" then 0 else 1, x) : Rd (Nat × PyData))) = .ok (k, d) := e
          cases h3 : varOf (ps.drop 1) with
          | error er => rw [h3] at e; cases e
          | ok y =>
            rw [h3] at e
            cases e
            split <;> omega
theorem groups_new {H : Hp} {a0 a1 a2 a3 G : Addr} (n0 : H a0 = none) (n1 : (upd H a0 (.lst [])) a1 = none) (n2 : (upd (upd H a0 (.lst [])) a1 (.lst [])) a2 = none) (n3 : (upd (upd (upd H a0 (.lst [])) a1 (.lst [])) a2 (.lst [])) a3 = none)
    (nG : (upd (upd (upd (upd H a0 (.lst [])) a1 (.lst [])) a2 (.lst [])) a3 (.lst [])) G = none) :
    ∃ KG, KG = upd (upd (upd (upd (upd H a0 (.lst [])) a1 (.lst [])) a2 (.lst [])) a3 (.lst [])) G (.lst [.ref a0, .ref a1, .ref a2, .ref a3]) ∧ Same H KG ∧ GI KG G [a0, a1, a2, a3] [[], [], [], []] ({} : Gr).list ∧ ∀ a ∈ [a0, a1, a2, a3], H a = none := by
  refine ⟨_, rfl, ?_⟩
  have s0 := sameNew (o := .lst []) n0
  have s1 := sameNew (o := .lst []) n1
  have s2 := sameNew (o := .lst []) n2
  have s3 := sameNew (o := .lst []) n3
  have sG := sameNew (o := .lst [.ref a0, .ref a1, .ref a2, .ref a3]) nG
  have x0 : (upd H a0 (.lst [])) a0 = some (.lst []) := upd_same
  have x1 : (upd (upd H a0 (.lst [])) a1 (.lst [])) a1 = some (.lst []) := upd_same
  have x2 : (upd (upd (upd H a0 (.lst [])) a1 (.lst [])) a2 (.lst [])) a2 = some (.lst []) := upd_same
  have x3 : (upd (upd (upd (upd H a0 (.lst [])) a1 (.lst [])) a2 (.lst [])) a3 (.lst [])) a3 = some (.lst []) := upd_same
  have x01 := s1 _ _ x0
  have x02 := s2 _ _ x01
  have x03 := s3 _ _ x02
  have x12 := s2 _ _ x1
  have x13 := s3 _ _ x12
  have x23 := s3 _ _ x2
  have z01 := ne_of_none x0 n1
  have z02 := ne_of_none x01 n2
  have z03 := ne_of_none x02 n3
  have z0G := ne_of_none x03 nG
  have z12 := ne_of_none x1 n2
  have z13 := ne_of_none x12 n3
  have z1G := ne_of_none x13 nG
  have z23 := ne_of_none x2 n3
  have z2G := ne_of_none x23 nG
  have z3G := ne_of_none x3 nG
  refine ⟨(((s0.trans s1).trans s2).trans s3).trans sG, ⟨upd_same, ⟨rfl, rfl, rfl⟩, ⟨by simp [z01, z02, z03, z12, z13, z23], by simp [Ne.symm z0G, Ne.symm z1G, Ne.symm z2G, Ne.symm z3G]⟩, fun i a u g h1 h2 h3 => ?_⟩, fun a ha => ?_⟩
  · match i, h1, h2, h3 with
    | 0, h1, h2, h3 => cases h1; cases h2; cases h3; exact ⟨sG _ _ x03, .nil⟩
    | 1, h1, h2, h3 => cases h1; cases h2; cases h3; exact ⟨sG _ _ x13, .nil⟩
    | 2, h1, h2, h3 => cases h1; cases h2; cases h3; exact ⟨sG _ _ x23, .nil⟩
    | 3, h1, h2, h3 => cases h1; cases h2; cases h3; exact ⟨sG _ _ x3, .nil⟩
    | k + 4, h1, _, _ => simp at h1
  · simp only [List.mem_cons, List.not_mem_nil, or_false] at ha
    rcases ha with rfl | rfl | rfl | rfl
    · exact n0
    · exact Same.free s0 n1
    · exact Same.free (s0.trans s1) n2
    · exact Same.free ((s0.trans s1).trans s2) n3
theorem has_read_tree (F : Facts w K mg) (PT : ProgT P) : Has P w K mg base (L2.CX P w) 60 "read_tree" pReadTree (spTree (tC K)) := by
  have h_read_forms := has_read_forms (base := base) F PT
  have h_read_declaration := has_read_declaration (base := base) F PT 22
  refine has_X (k := 59) F.g_read_tree F.f_read_tree scReadTree bReadTree (fun vs H Q E h => by obtain ⟨_, rfl, _⟩ := h; rfl) fun cdv A outer s H vs Q E hr h => ?_
  obtain ⟨t, rfl, ht, q⟩ := h
  refine ⟨_, (pss_cons (ps_set (i := 1) scReadTree.nd rfl (Or.inl rfl) (pe_lst (pa_cons (pe_lst pa_nil) (pa_cons (pe_lst pa_nil) (pa_cons (pe_lst pa_nil) (pa_cons (pe_lst pa_nil) pa_nil))))))
    (pss_cons (ps_set (i := 2) scReadTree.nd rfl (Or.inl rfl) pe_int)
    (pss_cons (ps_for (passes_of rfl) rfl (pi_list (pe_callH h_read_forms hr (by omega) rfl (passes_call tkX fun _ _ _ _ h => h) (pa_cons (pv 0) pa_nil))) (pg_name (i := 3) scReadTree.nd rfl (Or.inl rfl))
      (pss_cons (ps_asg (pe_callH h_read_declaration hr (by omega) rfl (passes_call tkX fun _ _ _ _ h => h) (pa_cons (pv 3) (pa_cons (pv 2) pa_nil))) (pg_tup rfl (pgs_cons (pg_name (i := 2) scReadTree.nd rfl (Or.inl rfl)) (pgs_cons (pg_name (i := 4) scReadTree.nd rfl (Or.inl rfl)) pgs_nil))))
      (pss_one (ps_expr (pe_bm PySem.F.plainAttrs_list PySem.F.slot_list_append PySem.F.type_list_append mt_append (pe_ix ix_list (pv 1) (pv 2) (fun _ _ => rfl)) (pa_cons (pv 4) pa_nil))))))
    (pss_cons (ps_if (pt_not (pt_truth (pe_ix ix_list (pv 1) pe_int (fun _ _ => rfl)) (by intro _; rfl))) (pss_one (ps_raiseT rfl PT F.tx hr tkX (pa_cons (pe_callB call_len_str (by rfl) F.z_len (by decide +kernel) (pa_cons (pv 0) pa_nil)) pa_nil)))
      pss_nil)
    (pss_one (ps_ret (pe_tup (pa_cons (pe_callTy call_tuple_of (by rfl) F.z_tuple (by decide +kernel) (pa_cons (pe_ix ix_list (pv 1) pe_int (fun _ _ => rfl)) pa_nil)) (pa_cons (pe_callTy call_tuple_of (by rfl) F.z_tuple (by decide +kernel) (pa_cons (pe_ix ix_list (pv 1) pe_int (fun _ _ => rfl)) pa_nil)) (pa_cons (pe_callTy call_tuple_of (by rfl) F.z_tuple (by decide +kernel) (pa_cons (pe_ix ix_list (pv 1) pe_int (fun _ _ => rfl)) pa_nil)) (pa_cons (pe_ix ix_list (pe_ix ix_list (pv 1) pe_int (fun _ _ => rfl)) pe_int (fun _ _ => rfl)) pa_nil))))))))))), ?_⟩
  have hL := len_toList t
  refine ⟨lb rfl, fun a0 n0 => ⟨lb rfl, fun a1 n1 => ⟨lb rfl, fun a2 n2 => ⟨lb rfl, fun a3 n3 => ⟨lb rfl, fun G nG => ?_⟩⟩⟩⟩⟩
  obtain ⟨KG, eKG, sKG, gi, new⟩ := groups_new n0 n1 n2 n3 nG
  rw [← eKG]
  refine ⟨_, rfl, t, rfl, ht, ?_⟩
  unfold textOf at q
  cases ef : formsT t.cps.toList with
  | error er => rw [ef] at q; exact Err.same (at_ := er) q sKG
  | ok ns =>
  rw [ef] at q
  obtain ⟨f1, f2, f3⟩ := formsT_ok ef
  obtain ⟨ng, nw, nd'⟩ := forms_ok f1 f2
  intro l us H' Hn s' sn ap hl hns
  have newn : ∀ a ∈ [a0, a1, a2, a3], Hn a = none ∧ H a = none := fun a ha => by
    refine ⟨?_, new a ha⟩
    cases e : Hn a with
    | none => rfl
    | some o =>
      have z := ap a (by rw [e]; exact fun z => nomatch z)
      obtain ⟨i, hi⟩ := List.mem_iff_getElem?.mp ha
      obtain ⟨u, hu⟩ : ∃ u, ([[], [], [], []] : List (List V))[i]? = some u := by
        have : i < 4 := (List.getElem?_eq_some_iff.mp hi).1
        exact ⟨_, List.getElem?_eq_getElem this⟩
      obtain ⟨g, hg⟩ : ∃ g, (({} : Gr).list)[i]? = some g := by
        have : i < 4 := (List.getElem?_eq_some_iff.mp hi).1
        exact ⟨_, List.getElem?_eq_getElem this⟩
      rw [(gi.each i a u g hi hu hg).1] at z
      cases z
  refine ⟨l, rfl, ⟨us, SqL.of (sn _ _ hl)⟩, ?_⟩
  refine for_list (xs := us) (fun k σ H3 => ∃ (st : Nat) (gr : Gr) (z3 z4 : Option V) (vs4 : List (List V)), σ = [some (.str t), some (.ref G), some (.int (st : Nat)), z3, z4] ∧ st < 4 ∧ Same Hn H3 ∧ Same H H3 ∧ GI H3 G [a0, a1, a2, a3] vs4 gr.list ∧ (∀ u ∈ vs4, u.length ≤ k) ∧
    Post (match declsOf (rdStmt 22) st gr (ns.drop k) with | .error e => .error e | .ok g => treeOf (t.cps.toList.length : Nat) g) (fun d => ∀ v' H', Same H H' → Tv H' v' d → Q v' H') (Err (tC K) E H))
    ⟨0, {}, none, none, [[], [], [], []], rfl, by omega, sn, sKG.trans s', gi.fr (frS s'), fun u hu => by simp at hu; simp [hu], q⟩ (fun k σ H3 _ h => ?_) (fun k x σ H3 hx h => ?_) (fun σ H3 h => ?_)
  · obtain ⟨st, gr, z3, z4, vs4, _, _, s3, _⟩ := h
    exact SqL.of (s3 _ _ hl)
  · obtain ⟨st, gr, z3, z4, vs4, rfl, hst, s3, sH, gi3, hb, q⟩ := h
    obtain ⟨y, hy, hny⟩ := nds.back hns hx
    have ym := List.mem_of_getElem? hy
    have oky : Ok 22 y := ⟨good_mem ng ym, wt_le nw ym, by have := depth_mem ym; omega⟩
    have hk : k < us.length := (List.getElem?_eq_some_iff.mp hx).1
    have hus : us.length ≤ 6000 := by rw [nds.length hns]; exact Nat.le_trans (len_le_wts ng) nw
    rw [drop_cons hy, declsOf] at q
    refine ⟨_, rfl, _, rfl, x, y, st, rfl, nd.fr (frS s3) _ _ hny, oky, hst, ?_⟩
    cases ed : declOf (rdStmt 22) st y with
    | error er => rw [ed] at q; exact Err.same (at_ := er) q sH
    | ok kx =>
    obtain ⟨kk, dd⟩ := kx
    rw [ed] at q
    have hkk := declOf_lt ed
    intro p va H4 s4 hp htv
    have gi4 := gi3.fr (frS s4)
    obtain ⟨a, ha⟩ : ∃ a, [a0, a1, a2, a3][kk]? = some a := ⟨_, List.getElem?_eq_getElem (show kk < 4 from hkk)⟩
    obtain ⟨u, hu⟩ : ∃ u, vs4[kk]? = some u := ⟨_, List.getElem?_eq_getElem (by rw [gi3.l4.2.1]; exact hkk)⟩
    obtain ⟨gl, hgl, eput⟩ := gr.list_put hkk dd
    obtain ⟨g1, g2⟩ := gi4.each kk a u gl ha hu hgl
    have am : a ∈ [a0, a1, a2, a3] := List.mem_of_getElem? ha
    have ul : u.length ≤ k := hb u (List.mem_of_getElem? hu)
    refine ⟨p, _, rfl, SqT.of hp, rfl, _, _, rfl, _, _, rfl, rfl, ?_⟩
    refine ⟨_, rfl, _, rfl, G, _, _, .ref a, rfl, rfl, SqL.of gi4.at_, at_of (j := kk) rfl (by rw [List.getElem?_map, ha]; rfl), .inl ⟨rfl, _, SqL.of g1⟩, _, rfl, _, _, _, rfl, rfl, g1, by rw [line_eq]; omega, ?_⟩
    refine ⟨kk, gr.put kk dd, _, _, vs4.set kk (u ++ [va]), rfl, hkk, Same.at_new (s3.trans s4) (newn a am).1, Same.at_new (sH.trans s4) (newn a am).2, ?_, fun u' hu' => ?_, q⟩
    · rw [eput]
      exact gi4.put ha hu hgl htv
    · rcases List.mem_or_eq_of_mem_set hu' with h | h
      · have := hb u' h; omega
      · subst h; simp; omega
  · obtain ⟨st, gr, z3, z4, vs4, rfl, hst, s3, sH, gi3, hb, q⟩ := h
    rw [nds.length hns, List.drop_length] at q
    have q : Post (treeOf (t.cps.toList.length : Nat) gr) (fun d => ∀ v' H', Same H H' → Tv H' v' d → Q v' H') (Err (tC K) E H) := q
    obtain ⟨u0, u1, u2, u3, rfl⟩ := get4 gi3.l4.2.1
    obtain ⟨p0, q0⟩ := gi3.each 0 a0 u0 gr.a rfl rfl rfl
    obtain ⟨p1, q1⟩ := gi3.each 1 a1 u1 gr.b rfl rfl rfl
    obtain ⟨p2, q2⟩ := gi3.each 2 a2 u2 gr.c rfl rfl rfl
    obtain ⟨p3, q3⟩ := gi3.each 3 a3 u3 gr.d rfl rfl rfl
    refine ⟨_, rfl, G, _, 3, .ref a3, rfl, rfl, SqL.of gi3.at_, at_of (j := 3) rfl rfl, _, .inl ⟨u3, SqL.of p3, rfl⟩, ?_⟩
    unfold treeOf at q
    cases e : gr.d with
    | nil =>
      rw [e] at q q3
      have e3 : u3 = [] := by cases q3; rfl
      subst e3
      have q : Err (tC K) E H (t.cps.toList.length : Nat) := q
      rw [hL] at q
      exact iteT ⟨_, rfl, t, rfl, ht, _, rfl, fun d hd => (Err.same q sH).go d hd⟩
    | cons d dr =>
      rw [e] at q q3
      cases q3 with
      | @cons v vs _ _ hv hvs =>
      refine iteF ?_
      have q : ∀ v' H', Same H H' → Tv H' v' (.tuple [.tuple gr.a, .tuple gr.b, .tuple gr.c, d]) → Q v' H' := q
      refine ⟨_, rfl, G, _, 0, .ref a0, rfl, rfl, SqL.of gi3.at_, at_of (j := 0) rfl rfl, a0, u0, rfl, .inl ⟨SqL.of p0, fun b0 m0 => ?_⟩⟩
      have r0 := sameNew (o := .tup u0) m0
      refine ⟨_, rfl, G, _, 1, .ref a1, rfl, rfl, SqL.of (r0 _ _ gi3.at_), at_of (j := 1) rfl rfl, a1, u1, rfl, .inl ⟨SqL.of (r0 _ _ p1), fun b1 m1 => ?_⟩⟩
      have r1 := r0.trans (sameNew (o := .tup u1) m1)
      refine ⟨_, rfl, G, _, 2, .ref a2, rfl, rfl, SqL.of (r1 _ _ gi3.at_), at_of (j := 2) rfl rfl, a2, u2, rfl, .inl ⟨SqL.of (r1 _ _ p2), fun b2 m2 => ?_⟩⟩
      have r2 := r1.trans (sameNew (o := .tup u2) m2)
      refine ⟨_, rfl, G, _, 3, .ref a3, rfl, rfl, SqL.of (r2 _ _ gi3.at_), at_of (j := 3) rfl rfl, a3, _, 0, v, rfl, rfl, SqL.of (r2 _ _ p3), at_of (j := 0) rfl rfl, lb rfl, fun p hp => ?_⟩
      refine q _ _ ((sH.trans r2).trans (sameNew hp)) (dp_tup hp ?_)
      have t0 : Tv (upd (upd (upd H3 b0 (.tup u0)) b1 (.tup u1)) b2 (.tup u2)) (.ref b0) (.tuple gr.a) := Tv.fr (Fr.trans (Fr.new m1) (Fr.new m2)) _ _ (dp_tup m0 q0)
      have t1 : Tv (upd (upd (upd H3 b0 (.tup u0)) b1 (.tup u1)) b2 (.tup u2)) (.ref b1) (.tuple gr.b) := Tv.fr (Fr.new m2) _ _ (dp_tup m1 (TvAll.fr (Fr.new m0) _ _ q1))
      have t2 : Tv (upd (upd (upd H3 b0 (.tup u0)) b1 (.tup u1)) b2 (.tup u2)) (.ref b2) (.tuple gr.c) := dp_tup m2 (TvAll.fr (Fr.trans (Fr.new m0) (Fr.new m1)) _ _ q2)
      exact .cons t0 (.cons t1 (.cons t2 (.cons (Tv.fr (frS r2) _ _ hv) .nil)))
theorem has_read_program (F : Facts w K mg) (PT : ProgT P) : Has P w K mg base (L2.CX P w) 61 "read_program" pReadProgram (spTree (tC K)) := by
  have h_read_tree := has_read_tree (base := base) F PT
  refine has_X (k := 60) F.g_read_program F.f_read_program scReadProgram bReadProgram (fun vs H Q E h => by obtain ⟨_, rfl, _⟩ := h; rfl) fun cdv A outer s H vs Q E hr h => ?_
  obtain ⟨t, rfl, ht, q⟩ := h
  refine ⟨_, (pss_one (ps_ret (pe_callH h_read_tree hr (by omega) rfl (passes_call tkX fun _ _ _ _ h => h) (pa_cons (pv 0) pa_nil)))), ?_⟩
  exact ⟨_, rfl, t, rfl, ht, q⟩
end
end K10
/-! K10Law1: the law's own reader: words, names, numbers, parts. Printed by expand.py from K10Law1.tpl. -/
namespace K10
open PySem PySem.Spec PyProof.Rows L2
/-! ### the first fault, in the dict at m -/
def orE (a b : Option Int) : Option Int := match a with
  | some e => some e
  | none => b
def err {α : Type} (r : Rd α) : Option Int := match r with
  | .ok _ => none
  | .error e => some e
def Bad (H : Hp) (m : Addr) (st : Option Int) : Prop := ∃ b : Int, H m = some (.dK [(Sum.inr ("bad" : Str), .int b)]) ∧ match st with
  | none => b < 0
  | some e => b = e ∧ 0 ≤ e
theorem bad_get {H : Hp} {m : Addr} {b : Int} (h : H m = some (.dK [(Sum.inr ("bad" : Str), .int b)])) : DGet H m (.str "bad") (some (.int b)) := by
  have := DGet.k (k := Sum.inr ("bad" : Str)) h
  rw [valV_pos rfl] at this
  exact this
theorem bad_put {H : Hp} {m : Addr} {b : Int} {v : V} (h : H m = some (.dK [(Sum.inr ("bad" : Str), .int b)])) : DPut H m (.str "bad") v (upd H m (.dK [(Sum.inr ("bad" : Str), v)])) := by
  have := DPut.k (k := Sum.inr ("bad" : Str)) (v := v) h (by rw [line_eq]; show 1 < 16777216; decide)
  have e : putK [((Sum.inr ("bad" : Str) : Key), V.int b)] (Sum.inr ("bad" : Str)) v = [(Sum.inr ("bad" : Str), v)] := by simp [putK]
  rw [e] at this
  exact this
theorem Bad.same {H H' : Hp} {m : Addr} {st : Option Int} (h : Bad H m st) (s : Same H H') : Bad H' m st := by
  obtain ⟨b, h1, h2⟩ := h
  exact ⟨b, s _ _ h1, h2⟩
theorem Bad.upd {H : Hp} {m a : Addr} {o u : HO} {st : Option Int} (h : Bad H m st) (ha : H a = some u) (n : ∀ kvs, u ≠ .dK kvs) : Bad (upd H a o) m st := by
  obtain ⟨b, h1, h2⟩ := h
  have ne : m ≠ a := fun z => by subst z; rw [ha] at h1; cases h1; exact n _ rfl
  exact ⟨b, by rw [upd_ne ne]; exact h1, h2⟩
theorem Bad.new {H : Hp} {m a : Addr} {o : HO} {st : Option Int} (h : Bad H m st) (ha : H a = none) : Bad (L2.upd H a o) m st := h.same (sameNew ha)
theorem orE_none (a : Option Int) : orE a none = a := by cases a <;> rfl
theorem orE_assoc (a b c : Option Int) : orE (orE a b) c = orE a (orE b c) := by cases a <;> rfl
theorem orE_self (a b : Option Int) : orE (orE a b) b = orE a b := by cases a <;> cases b <;> rfl
theorem err_bind {α β : Type} (r : Rd α) (f : α → Rd β) : err (r >>= f) = match r with
    | .ok x => err (f x)
    | .error e => some e := by cases r <;> rfl
theorem Fr.at_new {H H1 : Hp} {D : Addr} {o : HO} (s : Fr H H1) (n : H D = none) : Fr H (L2.upd H1 D o) := fun b u hn h => by
  rw [upd_ne (ne_of_none h n)]; exact s b u hn h
def isW : Node → Bool
  | .word _ _ => true
  | .form _ _ => false
/-- isinstance(node[0], str) -/
theorem is_w {K : PySem.W.Frag} {σ : L2.St} {H : Hp} {i : Nat} {v : V} {x : Node} {Q : Bool → Hp → Prop} (hs : σ[i]? = some (some v)) (hn : nd H v x) (q : Q (isW x) H) :
    tB (tCB (rIsi K) (tCons (tOp (rIxT K) (tVar i) (L2.tC (.int 0))) (tCons (L2.tC (.ty "str")) tNil))) σ H Q := by
  cases x with
  | word w i =>
    obtain ⟨a, rfl, ha⟩ := hn
    exact ⟨_, hs, _, _, _, _, rfl, rfl, SqT.of ha, rfl, _, _, _, _, true, rfl, .ty "str", .base (.str w), kit_ty (by decide +kernel), _, rfl, q⟩
  | form ps i =>
    obtain ⟨a, l, vs, rfl, ha, hl, _⟩ := hn
    exact ⟨_, hs, _, _, _, _, rfl, rfl, SqT.of ha, rfl, _, _, _, _, false, rfl, .ty "str", .base (.lst hl), kit_ty (by decide +kernel), _, rfl, q⟩
/-- node[1] -/
theorem at_1 {K : PySem.W.Frag} {σ : L2.St} {H : Hp} {i : Nat} {v : V} {x : Node} {Q : VK} (hs : σ[i]? = some (some v)) (hn : nd H v x) (q : Q (.int x.at) H) : tOp (rIxT K) (tVar i) (L2.tC (.int 1)) σ H Q := by
  cases x with
  | word w i =>
    obtain ⟨a, rfl, ha⟩ := hn
    exact ⟨_, hs, _, _, _, _, rfl, rfl, SqT.of ha, rfl, q⟩
  | form ps i =>
    obtain ⟨a, l, vs, rfl, ha, hl, _⟩ := hn
    exact ⟨_, hs, _, _, _, _, rfl, rfl, SqT.of ha, rfl, q⟩
/-- [c for c in text if p] -/
theorem lc_sel {z : Str} {i : Nat} {tt : TT} {te : TE} {vs : List Nat} {σ : L2.St} {H1 : Hp} {D : Addr} {Qd : Hp → Prop} (p : Nat → Bool) (hD : H1 D = none) (hz : z.length ≤ sizeLine)
    (htt : ∀ c H Q, Q (p c) H → tt ((wipe σ vs).set i (some (.str ⟨#[c]⟩))) H Q) (ht : ∀ c H Q, Q (.str ⟨#[c]⟩) H → te ((wipe σ vs).set i (some (.str ⟨#[c]⟩))) H Q)
    (hd : Qd (upd H1 D (.lst ((z.cps.toList.filter p).map fun c => .str ⟨#[c]⟩)))) (hw : ∀ c, wipe ((wipe σ vs).set i (some (.str ⟨#[c]⟩))) vs = wipe σ vs := by intro _; rfl) :
    ∃ W : Nat → Nat → Hp → Prop, (∃ m, W 0 m (upd H1 D (.lst []))) ∧ ∀ i' m H, W i' m H →
      ((Its z).stop i' H ∧ Qd H) ∨ ((Its z).go i' H ∧ ∃ Nx : Hp → Prop, (∀ H', Nx H' → ∃ m', m' < m ∧ W (i' + 1) m' H') ∧ ∀ x H', (Its z).yld i' H x H' → gName i x (wipe σ vs) H' fun σ2 H2 => wipe σ2 vs = wipe σ vs ∧ tt σ2 H2 fun b H3 =>
        if b = true then te σ2 H3 fun y H4 => ∃ acc, H4 D = some (.lst acc) ∧ acc.length < sizeLine ∧ Nx (upd H4 D (.lst (acc ++ [y]))) else Nx H3) := by
  refine lc_it walk_str (fun j H => H = upd H1 D (.lst (((z.cps.toList.take j).filter p).map fun c => .str ⟨#[c]⟩))) rfl (fun _ _ _ _ => trivial) (fun j x H H' hj hH hY => ?_) (fun H hH => ?_)
  · obtain ⟨rfl, c, hc, rfl⟩ := hY
    subst hH
    refine ⟨hw c, htt c _ _ ?_⟩
    have hc' : z.cps.toList[j]? = some c := by rw [Array.getElem?_toList]; exact hc
    have hl : ((z.cps.toList.take j).filter p).length ≤ j := Nat.le_trans (List.length_filter_le _ _) (by rw [List.length_take]; omega)
    have hj' : j < z.length := hj
    cases e : p c with
    | true =>
      refine iteT (ht c _ _ ⟨_, upd_same, by rw [List.length_map]; omega, ?_⟩)
      rw [upd_upd, List.take_add_one, hc', List.filter_append, List.map_append]
      simp [e]
    | false =>
      refine iteF ?_
      rw [List.take_add_one, hc', List.filter_append]
      simp [e]
  · subst hH
    have e : z.cps.toList.take z.cps.size = z.cps.toList := by rw [← Array.length_toList, List.take_length]
    rw [e]
    exact hd
section
variable {P : Program} {w : World} {K : PySem.W.Frag} {mg : Str → Option Value} {base : Heap}
def nLawFail : List Str := ["_law_m", "_law_at"]
def pLawFail : List Str := ["_law_m", "_law_at"]
theorem scLawFail : FnScope nLawFail pLawFail (defScope sLawFail) := ⟨rfl, rfl, rfl, by decide +kernel, rfl, by decide +kernel, by decide +kernel⟩
theorem bLawFail : BindsBy "_law_fail" sLawFail pLawFail := fun _ _ _ _ _ _ us hl => match us, hl with | [_, _], _ => rfl
def nLawWord : List Str := ["_law_m", "_law_node"]
def pLawWord : List Str := ["_law_m", "_law_node"]
theorem scLawWord : FnScope nLawWord pLawWord (defScope sLawWord) := ⟨rfl, rfl, rfl, by decide +kernel, rfl, by decide +kernel, by decide +kernel⟩
theorem bLawWord : BindsBy "_law_word" sLawWord pLawWord := fun _ _ _ _ _ _ us hl => match us, hl with | [_, _], _ => rfl
def nLawNamed : List Str := ["_law_m", "_law_node", "_law_word_here"]
def pLawNamed : List Str := ["_law_m", "_law_node"]
theorem scLawNamed : FnScope nLawNamed pLawNamed (defScope sLawNamed) := ⟨rfl, rfl, rfl, by decide +kernel, rfl, by decide +kernel, by decide +kernel⟩
theorem bLawNamed : BindsBy "_law_named" sLawNamed pLawNamed := fun _ _ _ _ _ _ us hl => match us, hl with | [_, _], _ => rfl
def nLawList : List Str := ["_law_m", "_law_node", "_law_low", "_law_high"]
def pLawList : List Str := ["_law_m", "_law_node", "_law_low", "_law_high"]
theorem scLawList : FnScope nLawList pLawList (defScope sLawList) := ⟨rfl, rfl, rfl, by decide +kernel, rfl, by decide +kernel, by decide +kernel⟩
theorem bLawList : BindsBy "_law_list" sLawList pLawList := fun _ _ _ _ _ _ us hl => match us, hl with | [_, _, _, _], _ => rfl
def nLawFirst : List Str := ["_law_m", "_law_node", "_law_words_here", "_law_first_here"]
def pLawFirst : List Str := ["_law_m", "_law_node", "_law_words_here"]
theorem scLawFirst : FnScope nLawFirst pLawFirst (defScope sLawFirst) := ⟨rfl, rfl, rfl, by decide +kernel, rfl, by decide +kernel, by decide +kernel⟩
theorem bLawFirst : BindsBy "_law_first" sLawFirst pLawFirst := fun _ _ _ _ _ _ us hl => match us, hl with | [_, _, _], _ => rfl
def nLawName : List Str := ["_law_word_here", "_law_kept", "_law_letters", "_law_char"]
def pLawName : List Str := ["_law_word_here"]
theorem scLawName : FnScope nLawName pLawName (defScope sLawName) := ⟨rfl, rfl, rfl, by decide +kernel, rfl, by decide +kernel, by decide +kernel⟩
theorem bLawName : BindsBy "_law_name" sLawName pLawName := fun _ _ _ _ _ _ us hl => match us, hl with | [_], _ => rfl
def nLawValued : List Str := ["_law_word_here", "_law_low", "_law_high", "_law_char"]
def pLawValued : List Str := ["_law_word_here", "_law_low", "_law_high"]
theorem scLawValued : FnScope nLawValued pLawValued (defScope sLawValued) := ⟨rfl, rfl, rfl, by decide +kernel, rfl, by decide +kernel, by decide +kernel⟩
theorem bLawValued : BindsBy "_law_valued" sLawValued pLawValued := fun _ _ _ _ _ _ us hl => match us, hl with | [_, _, _], _ => rfl
def spLFail : Sp := fun vs H Q _ => ∃ m at_ st, vs = [.ref m, .int at_] ∧ 0 ≤ at_ ∧ Bad H m st ∧ ∀ H', Fr H H' → Bad H' m (orE st (some at_)) → Q .non H'
theorem has__law_fail (F : Facts w K mg) : Has P w K mg base CX0 1 "_law_fail" pLawFail spLFail := by
  refine has_0 F.g__law_fail F.f__law_fail scLawFail bLawFail (fun vs H Q E h => by obtain ⟨_, _, _, rfl, _⟩ := h; rfl) fun cdv A outer s H vs Q E hr h => ?_
  obtain ⟨m, at_, st, rfl, h0, ⟨b, hm, hb⟩, q⟩ := h
  have hu := hu_of hr
  refine ⟨_, (pss_cons (ps_if (pt_cmpR op_lt (pe_dget hu (pv 0) pe_str (fun _ _ => rfl)) pe_int (nomark _)) (pss_one (ps_dput hu (pv 0) pe_str (pv 1) rfl))
      pss_nil)
    (pss_one (ps_ret pe_non))), ?_⟩
  refine ⟨_, rfl, m, _, rfl, bad_get hm, _, _, rfl, rfl, _, rfl, ite2 (fun z => ?_) (fun z => ?_)⟩
  · have z : b < 0 := of_decide_eq_true z
    have e : st = none := by
      cases st with
      | none => rfl
      | some e => exact absurd z (by have : b = e ∧ 0 ≤ e := hb; omega)
    subst e
    refine ⟨_, rfl, _, rfl, m, _, rfl, bad_put hm, ?_⟩
    exact q _ (Fr.dict hm) ⟨at_, upd_same, rfl, h0⟩
  · have z : ¬ b < 0 := by simpa using z
    have e : ∃ e, st = some e := by
      cases st with
      | none => exact absurd hb z
      | some e => exact ⟨e, rfl⟩
    obtain ⟨e, rfl⟩ := e
    exact q _ (Fr.refl _) ⟨b, hm, hb⟩
/-- what a part of the reader is given: m, its fault so far; v, its node -/
structure Gv (H : Hp) (m : Addr) (st : Option Int) (v : V) (x : Node) : Prop where
  bad : Bad H m st
  n : nd H v x
  good : x.good
  wt : x.wt ≤ 6000
theorem at_nonneg : ∀ {x : Node}, x.good → 0 ≤ x.at
  | .word w i, g => by rw [Node.good] at g; exact g.2
  | .form ps i, g => by rw [Node.good] at g; exact g.2
def spLWord : Sp := fun vs H Q _ => ∃ m st v x, vs = [.ref m, v] ∧ Gv H m st v x ∧ ∀ v' H', Fr H H' → Bad H' m (orE st (err (wordOf x))) → v' = (match wordOf x with | .ok s => .str s | .error _ => .non) → Q v' H'
theorem has__law_word (F : Facts w K mg) : Has P w K mg base CX0 2 "_law_word" pLawWord spLWord := by
  have h__law_fail := has__law_fail (P := P) (base := base) F
  refine has_0 F.g__law_word F.f__law_word scLawWord bLawWord (fun vs H Q E h => by obtain ⟨_, _, _, _, rfl, _⟩ := h; rfl) fun cdv A outer s H vs Q E hr h => ?_
  obtain ⟨m, st, v, x, rfl, g, q⟩ := h
  refine ⟨_, (pss_cons (ps_if (pt_not (pt_val (pe_callB call_isi (by rfl) F.z_isinstance (by decide +kernel) (pa_cons (pe_ix ix_tup (pv 1) pe_int (fun _ _ => rfl)) (pa_cons (pe_bltn (v := .ty "str") (by rfl) F.z_str (by decide +kernel) rfl) pa_nil))))) (pss_one (ps_ret (pe_callH h__law_fail hr (by omega) rfl pass0 (pa_cons (pv 0) (pa_cons (pe_ix ix_tup (pv 1) pe_int (fun _ _ => rfl)) pa_nil)))))
      pss_nil)
    (pss_one (ps_ret (pe_ix ix_tup (pv 1) pe_int (fun _ _ => rfl))))), ?_⟩
  refine is_w (i := 1) (by rfl) g.n ?_
  cases x with
  | word w i =>
    obtain ⟨a, rfl, ha⟩ := g.n
    exact ⟨_, rfl, _, _, _, _, rfl, rfl, SqT.of ha, rfl, q _ _ (Fr.refl _) (by show Bad H m (orE st none); rw [orE_none]; exact g.bad) rfl⟩
  | form ps i =>
    refine iteT ⟨_, rfl, ?_⟩
    refine at_1 (by rfl) g.n ?_
    exact ⟨m, _, st, rfl, at_nonneg g.good, g.bad, fun H' f b => q _ _ f b rfl⟩
theorem kept_split : Txt.split (Str.ofString "state param procedure beat set loop if call let at add sub mul div plus minus times rem less equal zero not") (Str.ofString " ") = reserved := by decide +kernel
theorem mem_two (a b : Str) (c : Nat) : decide (c ∈ (a ++ b).cps.toList) = (decide (c ∈ a.cps.toList) || decide (c ∈ b.cps.toList)) := by
  have e : (a ++ b).cps.toList = a.cps.toList ++ b.cps.toList := Array.toList_append
  rw [e]
  by_cases h1 : c ∈ a.cps.toList
  · simp [h1]
  · by_cases h2 : c ∈ b.cps.toList
    · simp [h2]
    · simp [h1, h2]
theorem empty_all {f : Nat → V} {p q : Nat → Bool} (e : ∀ c, p c = !q c) : ∀ l : List Nat, ((l.filter p).map f).isEmpty = l.all q
  | [] => rfl
  | c :: r => by
    have ih := empty_all (f := f) e r
    rw [List.filter_cons, List.all_cons, e c]
    cases q c with
    | true => simp only [Bool.not_true, Bool.true_and]; exact ih
    | false => rfl
theorem has__law_name (F : Facts w K mg) : Has P w K mg base CX0 1 "_law_name" pLawName spIsName := by
  refine has_0 F.g__law_name F.f__law_name scLawName bLawName (fun vs H Q E h => by obtain ⟨_, rfl, _⟩ := h; rfl) fun cdv A outer s H vs Q E hr h => ?_
  obtain ⟨z, rfl, hz, q⟩ := h
  refine ⟨_, (pss_cons (ps_set (i := 1) scLawName.nd rfl (Or.inl rfl) pe_str)
    (pss_cons (ps_set (i := 2) scLawName.nd rfl (Or.inr rfl) pe_str)
    (pss_cons (ps_if (PW.pt (pw_or (pt_cmpR op_lt (pe_callB call_len_str (by rfl) F.z_len (by decide +kernel) (pa_cons (pv 0) pa_nil)) pe_int (nomark _)) (pw_or (pt_cmpR op_gt (pe_callB call_len_str (by rfl) F.z_len (by decide +kernel) (pa_cons (pv 0) pa_nil)) pe_int (nomark _)) (pw_or (pt_cmpR op_in_seq (pv 0) (pe_split (pv 1) pe_str) (by rfl)) (pw_or1 (pt_cmpR op_notIn_sign (pe_ix ix_str (pv 0) pe_int (fun _ _ => rfl)) (pv 2) (by rfl))))))) (pss_one (ps_ret pe_bl))
      pss_nil)
    (pss_one (ps_ret (pe_notT (pe_lc (own := [("_law_char", 3)]) (g := gName 3)  rfl scLawName.nd (pi_str (pv 0)) (blkOk_by (N := nLawName) (sc := defScope sLawName) (by decide +kernel)) (fun _ _ _ _ _ => (pg_name (i := 3) scLawName.nd rfl (Or.inl rfl))) (fun _ _ _ _ _ => (pts_one (pt_cmpR op_notIn_sign (pv 3) (pe_op op_add_str (pv 2) pe_str) (by rfl)))) (fun _ _ _ _ _ => (pv 3))))))))), ?_⟩
  have no : ∀ H', Same H H' → isName z = false → Q (.bl false) H' := fun H' s' e => by rw [← e]; exact q H' s'
  refine ⟨_, rfl, z, rfl, hz, _, _, rfl, rfl, _, rfl, ite2 (fun h1 => iteT ?_) (fun h1 => ⟨_, rfl, z, rfl, hz, _, _, rfl, rfl, _, rfl, ite2 (fun h2 => iteT ?_) (fun h2 => ?_)⟩)⟩
  · have h1 : (z.length : Int) < 1 := of_decide_eq_true h1
    exact no H (Same.refl H) (by unfold isName; rw [decide_eq_false (show ¬ 1 ≤ z.length by omega)]; simp)
  · have h2 : (z.length : Int) > 8 := of_decide_eq_true h2
    exact no H (Same.refl H) (by unfold isName; rw [decide_eq_false (show ¬ z.length ≤ 8 by omega)]; simp)
  have h1 : 1 ≤ z.length := by have : ¬ (z.length : Int) < 1 := by simpa using h1
                               omega
  have h2 : z.length ≤ 8 := by have : ¬ (z.length : Int) > 8 := by simpa using h2
                               omega
  refine ⟨_, rfl, _, rfl, ⟨_, rfl⟩, _, _, rfl, rfl, by decide +kernel, by rw [line_eq]; decide +kernel, fun p hp => ?_⟩
  rw [kept_split]
  have s1 := sameNew (o := .lst (reserved.map V.str)) hp
  refine ⟨p, _, rfl, .inl (SqL.of upd_same), rfl, flat_str _, _, rfl, iteIn (l := reserved) rfl (fun h3 => iteT ?_) (fun h3 => ?_)⟩
  · exact no _ s1 (by unfold isName; rw [decide_eq_true h3]; simp)
  obtain ⟨c, r, ec⟩ := str_cons h1
  have hat : atI z.cps.toList 0 = some c := atI_nat (xs := z.cps.toList) (j := 0) (by rw [ec]; rfl)
  have e0 : isName z = (decide (c ∈ lettersL) && allNam z) := by unfold isName firstIs; rw [decide_eq_true h1, decide_eq_true h2, decide_eq_false h3, ec]; simp
  refine ⟨_, rfl, _, _, _, rfl, rfl, hz, hat, _, rfl, c, _, rfl, rfl, _, rfl, ite2 (fun h4 => ?_) (fun h4 => ?_)⟩
  · have h4 : decide (c ∈ lettersL) = false := by simpa [lettersL] using h4
    exact no _ s1 (by rw [e0, h4]; rfl)
  · have h4 : decide (c ∈ lettersL) = true := by simpa [lettersL] using h4
    refine ⟨_, rfl, z, rfl, fun D hD => ?_⟩
    refine lc_sel (fun c => !decide (c ∈ ((Str.ofString "abcdefghijklmnopqrstuvwxyz") ++ (Str.ofString "0123456789")).cps.toList)) hD hz (fun c H Q q => ⟨_, rfl, _, rfl, _, _, rfl, rfl, by rw [line_eq]; decide +kernel, c, _, rfl, rfl, _, rfl, q⟩) (fun c H Q q => ⟨_, rfl, q⟩) ?_
    refine ⟨_, .inl ⟨_, SqL.of upd_same, rfl⟩, ?_⟩
    rw [Bool.not_not, empty_all (q := fun c => decide (c ∈ lettersL) || decide (c ∈ digitsL)) (fun c => by rw [mem_two]; rfl)]
    have e : (z.cps.toList.all fun c => decide (c ∈ lettersL) || decide (c ∈ digitsL)) = isName z := by rw [e0, h4]; rfl
    rw [e]
    exact q _ (s1.trans (sameNew hD))
def spLVal : Sp := fun vs H Q _ => ∃ (z : Str) (lo hi : Int), vs = [.str z, .int lo, .int hi] ∧ z.length ≤ sizeLine ∧ ∀ H', Same H H' → Q (.int ((numIn z lo hi).getD (-1))) H'
theorem one_sign {z : Str} {c : Nat} {r : List Nat} (h : z.length = 1) (e : z.cps.toList = c :: r) : z = ⟨#[c]⟩ := by
  have : z.cps.toList.length = 1 := by rw [len_toList, h]
  rw [e] at this
  have er : r = [] := by simpa using this
  subst er
  obtain ⟨a⟩ := z
  have : a = #[c] := by apply Array.ext'; exact e
  rw [this]
theorem has__law_valued (F : Facts w K mg) : Has P w K mg base CX0 1 "_law_valued" pLawValued spLVal := by
  refine has_0 F.g__law_valued F.f__law_valued scLawValued bLawValued (fun vs H Q E h => by obtain ⟨_, _, _, rfl, _⟩ := h; rfl) fun cdv A outer s H vs Q E hr h => ?_
  obtain ⟨z, lo, hi, rfl, hz, q⟩ := h
  refine ⟨_, (pss_cons (ps_if (PW.pt (pw_or (pt_cmpR op_lt (pe_callB call_len_str (by rfl) F.z_len (by decide +kernel) (pa_cons (pv 0) pa_nil)) pe_int (nomark _)) (pw_or (pt_cmpR op_gt (pe_callB call_len_str (by rfl) F.z_len (by decide +kernel) (pa_cons (pv 0) pa_nil)) pe_int (nomark _)) (pw_or1 (pt_truth (pe_lc (own := [("_law_char", 3)]) (g := gName 3)  rfl scLawValued.nd (pi_str (pv 0)) (blkOk_by (N := nLawValued) (sc := defScope sLawValued) (by decide +kernel)) (fun _ _ _ _ _ => (pg_name (i := 3) scLawValued.nd rfl (Or.inl rfl))) (fun _ _ _ _ _ => (pts_one (pt_cmpR op_notIn_sign (pv 3) pe_str (by rfl)))) (fun _ _ _ _ _ => (pv 3))) (by intro _; rfl)))))) (pss_one (ps_ret (pe_un un_neg pe_int)))
      pss_nil)
    (pss_cons (ps_if (PW.pt (pw_or (PW.pt (pw_and (pt_cmpR op_gt (pe_callB call_len_str (by rfl) F.z_len (by decide +kernel) (pa_cons (pv 0) pa_nil)) pe_int (nomark _)) (pw_and1 (pt_cmpR op_eq (pe_ix ix_str (pv 0) pe_int (fun _ _ => rfl)) pe_str (nomark _))))) (pw_or (pt_cmpR op_lt (pe_callTy call_int_str (by rfl) F.z_int (by decide +kernel) (pa_cons (pv 0) pa_nil)) (pv 1) (nomark _)) (pw_or1 (pt_cmpR op_gt (pe_callTy call_int_str (by rfl) F.z_int (by decide +kernel) (pa_cons (pv 0) pa_nil)) (pv 2) (nomark _)))))) (pss_one (ps_ret (pe_un un_neg pe_int)))
      pss_nil)
    (pss_one (ps_ret (pe_callTy call_int_str (by rfl) F.z_int (by decide +kernel) (pa_cons (pv 0) pa_nil)))))), ?_⟩
  have no : ∀ H', Same H H' → isNum z = false → Q (.int (-1)) H' := fun H' s' e => by
    have : numIn z lo hi = none := by unfold numIn; rw [if_neg (by rw [e]; simp)]
    have q := q H' s'
    rw [this] at q
    exact q
  refine ⟨_, rfl, z, rfl, hz, _, _, rfl, rfl, _, rfl, ite2 (fun h1 => iteT ?_) (fun h1 => ⟨_, rfl, z, rfl, hz, _, _, rfl, rfl, _, rfl, ite2 (fun h2 => iteT ?_) (fun h2 => ?_)⟩)⟩
  · have h1 : (z.length : Int) < 1 := of_decide_eq_true h1
    exact ⟨_, rfl, no H (Same.refl H) (by unfold isNum; rw [decide_eq_false (show ¬ 1 ≤ z.length by omega)]; simp)⟩
  · have h2 : (z.length : Int) > 10 := of_decide_eq_true h2
    exact ⟨_, rfl, no H (Same.refl H) (by unfold isNum; rw [decide_eq_false (show ¬ z.length ≤ 10 by omega)]; simp)⟩
  have h1 : 1 ≤ z.length := by have : ¬ (z.length : Int) < 1 := by simpa using h1
                               omega
  have h2 : z.length ≤ 10 := by have : ¬ (z.length : Int) > 10 := by simpa using h2
                                omega
  refine ⟨_, rfl, z, rfl, fun D hD => ?_⟩
  refine lc_sel (fun c => !decide (c ∈ (Str.ofString "0123456789").cps.toList)) hD hz (fun c H Q q => ⟨_, rfl, c, _, rfl, rfl, _, rfl, q⟩) (fun c H Q q => ⟨_, rfl, q⟩) ?_
  refine ⟨_, .inl ⟨_, SqL.of upd_same, rfl⟩, ?_⟩
  have ed : ((z.cps.toList.filter fun c => !decide (c ∈ (Str.ofString "0123456789").cps.toList)).map fun c => V.str ⟨#[c]⟩).isEmpty = allDig z := empty_all (q := fun c => decide (c ∈ digitsL)) (fun c => rfl) _
  have sD := sameNew (o := .lst ((z.cps.toList.filter fun c => !decide (c ∈ (Str.ofString "0123456789").cps.toList)).map fun c => V.str ⟨#[c]⟩)) hD
  refine ite2 (fun h3 => ?_) (fun h3 => ?_)
  · rw [ed] at h3
    have h3 : allDig z = false := by simpa using h3
    exact ⟨_, rfl, no _ sD (by unfold isNum; rw [h3]; simp)⟩
  rw [ed] at h3
  have h3 : allDig z = true := by simpa using h3
  obtain ⟨c, r, ec⟩ := str_cons h1
  have hat : atI z.cps.toList 0 = some c := atI_nat (xs := z.cps.toList) (j := 0) (by rw [ec]; rfl)
  have e0 : isNum z = (decide (z = Str.ofString "0") || !decide (c = 48)) := by
    unfold isNum firstIs
    rw [decide_eq_true h1, decide_eq_true h2, h3, ec]
    simp
  generalize upd H D _ = H1 at *
  have yes : isNum z = true → ∃ k, True ∧ intText? z = some k ∧ z.length ≤ 640 ∧ k = numVal z := fun e => ⟨numVal z, trivial, (isNum_text e).1, (isNum_text e).2, rfl⟩
  have rest : isNum z = true → ∃ (k : Int), intText? z = some k ∧ z.length ≤ 640 ∧ k = numVal z := fun e => ⟨numVal z, (isNum_text e).1, (isNum_text e).2, rfl⟩
  have fin : isNum z = true → ∀ {R : Bool → Hp → Prop}, (¬ (lo ≤ numVal z ∧ numVal z ≤ hi) → R true H1) → (lo ≤ numVal z ∧ numVal z ≤ hi → R false H1) →
      tOr (tTest (tOp (rI0 fun i j => .bl (decide (i < j))) (tCB (fun xs H Q => ∃ a n, xs = [.str a] ∧ intText? a = some n ∧ a.length ≤ 640 ∧ Q (.int n) H) (tCons (tVar 0) tNil)) (tVar 1))) (tTest (tOp (rI0 fun i j => .bl (decide (i > j))) (tCB (fun xs H Q => ∃ a n, xs = [.str a] ∧ intText? a = some n ∧ a.length ≤ 640 ∧ Q (.int n) H) (tCons (tVar 0) tNil)) (tVar 2))) (L2.start nLawValued [.str z, .int lo, .int hi]) H1 R := fun e R ra rb => by
    obtain ⟨t1, t2⟩ := isNum_text e
    refine ⟨_, rfl, z, _, rfl, t1, t2, _, rfl, _, _, rfl, rfl, _, rfl, ite2 (fun y => ra fun x => ?_) (fun y => ⟨_, rfl, z, _, rfl, t1, t2, _, rfl, _, _, rfl, rfl, _, rfl, ?_⟩)⟩
    · have y : numVal z < lo := of_decide_eq_true y
      omega
    · have y : ¬ numVal z < lo := by simpa using y
      by_cases x : numVal z > hi
      · rw [decide_eq_true x]; exact ra (by omega)
      · rw [decide_eq_false x]; exact rb (by omega)
  have neg : isNum z = true → ¬ (lo ≤ numVal z ∧ numVal z ≤ hi) → Q (.int (-1)) H1 := fun e n => by
    have : numIn z lo hi = none := by unfold numIn; rw [if_neg (fun x => n x.2)]
    have q := q H1 sD
    rw [this] at q
    exact q
  have pos : isNum z = true → (lo ≤ numVal z ∧ numVal z ≤ hi) → Q (.int (numVal z)) H1 := fun e n => by
    have : numIn z lo hi = some (numVal z) := by unfold numIn; rw [if_pos ⟨e, n⟩]
    have q := q H1 sD
    rw [this] at q
    exact q
  refine ⟨_, rfl, z, rfl, hz, _, _, rfl, rfl, _, rfl, ite2 (fun h4 => ⟨_, rfl, _, _, _, rfl, rfl, hz, hat, rfl, _, rfl, ite2 (fun h5 => iteT ?_) (fun h5 => ?_)⟩) (fun h4 => iteF ?_)⟩
  · have h4 : (z.length : Int) > 1 := of_decide_eq_true h4
    rw [s_0, sign_eq] at h5
    have h5 : c = 48 := of_decide_eq_true h5
    refine ⟨_, rfl, no _ sD ?_⟩
    rw [e0, decide_eq_true h5, decide_eq_false]
    · rfl
    · intro x
      rw [x, s_0] at h4
      have : ((⟨#[48]⟩ : Str).length : Int) = 1 := rfl
      omega
  · rw [s_0, sign_eq] at h5
    have h5 : ¬ c = 48 := by simpa using h5
    have en : isNum z = true := by rw [e0, decide_eq_false h5]; simp
    obtain ⟨t1, t2⟩ := isNum_text en
    exact fin en (fun n => iteT ⟨_, rfl, neg en n⟩) (fun n => iteF ⟨_, rfl, z, _, rfl, t1, t2, pos en n⟩)
  · have h4 : ¬ (z.length : Int) > 1 := by simpa using h4
    have en : isNum z = true := by
      rw [e0]
      by_cases h5 : c = 48
      · rw [one_sign (by omega) ec, h5, s_0]; simp
      · simp [h5]
    obtain ⟨t1, t2⟩ := isNum_text en
    exact fin en (fun n => iteT ⟨_, rfl, neg en n⟩) (fun n => iteF ⟨_, rfl, z, _, rfl, t1, t2, pos en n⟩)
end
end K10
/-! K10Law2: the law's own reader: named, list, first. Printed by expand.py from K10Law2.tpl. -/
namespace K10
open PySem PySem.Spec PyProof.Rows L2
section
variable {P : Program} {w : World} {K : PySem.W.Frag} {mg : Str → Option Value} {base : Heap}
theorem Gv.fr {H H' : Hp} {m : Addr} {st st' : Option Int} {v : V} {x : Node} (g : Gv H m st v x) (f : Fr H H') (b : Bad H' m st') : Gv H' m st' v x := ⟨b, nd.fr f _ _ g.n, g.good, g.wt⟩
def spLNamed : Sp := fun vs H Q _ => ∃ m st v x, vs = [.ref m, v] ∧ Gv H m st v x ∧ ∀ v' H', Fr H H' → Bad H' m (orE st (err (nameOf x))) → (∀ s, nameOf x = .ok s → v' = .str s) → Q v' H'
theorem has__law_named (F : Facts w K mg) : Has P w K mg base CX0 3 "_law_named" pLawNamed spLNamed := by
  have h__law_fail := has__law_fail (P := P) (base := base) F
  have h__law_word := has__law_word (P := P) (base := base) F
  have h__law_name := has__law_name (P := P) (base := base) F
  refine has_0 F.g__law_named F.f__law_named scLawNamed bLawNamed (fun vs H Q E h => by obtain ⟨_, _, _, _, rfl, _⟩ := h; rfl) fun cdv A outer s H vs Q E hr h => ?_
  obtain ⟨m, st, v, x, rfl, g, q⟩ := h
  refine ⟨_, (pss_cons (ps_set (i := 2) scLawNamed.nd rfl (Or.inl rfl) (pe_callH h__law_word hr (by omega) rfl pass0 (pa_cons (pv 0) (pa_cons (pv 1) pa_nil))))
    (pss_cons (ps_if (PW.pt (pw_or (pt_cmpR op_isN (pv 2) pe_non (nomark _)) (pw_or1 (pt_not (pt_val (pe_callH h__law_name hr (by omega) rfl pass0 (pa_cons (pv 2) pa_nil))))))) (pss_one (ps_ret (pe_callH h__law_fail hr (by omega) rfl pass0 (pa_cons (pv 0) (pa_cons (pe_ix ix_tup (pv 1) pe_int (fun _ _ => rfl)) pa_nil)))))
      pss_nil)
    (pss_one (ps_ret (pv 2))))), ?_⟩
  refine ⟨_, rfl, _, rfl, m, st, v, x, rfl, g, fun v' H1 f1 b1 ev => ?_⟩
  have g1 := g.fr f1 b1
  cases x with
  | form ps i =>
    rw [show v' = .non from ev]
    refine ⟨_, rfl, rfl, _, rfl, iteT ⟨_, rfl, ?_⟩⟩
    refine at_1 (by rfl) g1.n ?_
    exact ⟨m, _, _, rfl, at_nonneg g.good, b1, fun H2 f2 b2 => q _ _ (f1.trans f2) (by rw [show err (wordOf (.form ps i)) = some i from rfl] at b2; exact (orE_self st (some i)) ▸ b2) (fun s z => nomatch z)⟩
  | word w i =>
    rw [show v' = .str w from ev]
    have hl : w.length ≤ sizeLine := by have := g.wt; rw [Node.wt] at this; rw [line_eq]; omega
    have b1 : Bad H1 m st := by rw [show err (wordOf (.word w i)) = none from rfl, orE_none] at b1; exact b1
    refine ⟨_, rfl, rfl, _, rfl, iteF ⟨_, rfl, w, rfl, hl, fun H2 s2 => ⟨_, rfl, ite2 (fun z => ?_) (fun z => ?_)⟩⟩⟩
    · have z : isName w = false := by simpa using z
      have e : nameOf (.word w i) = .error i := by simp [nameOf, z]
      refine ⟨_, rfl, ?_⟩
      refine at_1 (by rfl) (nd.fr (frS s2) _ _ g1.n) ?_
      refine ⟨m, _, st, rfl, at_nonneg g.good, b1.same s2, fun H3 f3 b3 => q _ _ ((f1.trans (frS s2)).trans f3) ?_ ?_⟩
      · rw [e]; exact b3
      · rw [e]; exact fun s y => nomatch y
    · have z : isName w = true := by simpa using z
      have e : nameOf (.word w i) = .ok w := by simp [nameOf, z]
      refine ⟨_, rfl, q _ _ (f1.trans (frS s2)) ?_ ?_⟩
      · rw [e]; show Bad H2 m (orE st none); rw [orE_none]; exact b1.same s2
      · rw [e]; exact fun s y => by cases y; rfl
def LOut (H' : Hp) (v v' : V) (r : Rd (List Node)) : Prop := match r with
  | .ok ps => ∃ l us, v' = .ref l ∧ H' l = some (.lst us) ∧ nds H' us ps ∧ ∃ a i, v = .ref a ∧ H' a = some (.tup [.ref l, .int i])
  | .error _ => v' = .non
def spLList : Sp := fun vs H Q _ => ∃ m st v x, ∃ lo hi : Nat, vs = [.ref m, v, .int (lo : Nat), .int (hi : Nat)] ∧ Gv H m st v x ∧ ∀ v' H', Fr H H' → Bad H' m (orE st (err (partsIn lo hi x))) → LOut H' v v' (partsIn lo hi x) → Q v' H'
theorem has__law_list (F : Facts w K mg) : Has P w K mg base CX0 2 "_law_list" pLawList spLList := by
  have h__law_fail := has__law_fail (P := P) (base := base) F
  refine has_0 F.g__law_list F.f__law_list scLawList bLawList (fun vs H Q E h => by obtain ⟨_, _, _, _, _, _, rfl, _⟩ := h; rfl) fun cdv A outer s H vs Q E hr h => ?_
  obtain ⟨m, st, v, x, lo, hi, rfl, g, q⟩ := h
  refine ⟨_, (pss_cons (ps_if (PW.pt (pw_or (pt_val (pe_callB call_isi (by rfl) F.z_isinstance (by decide +kernel) (pa_cons (pe_ix ix_tup (pv 1) pe_int (fun _ _ => rfl)) (pa_cons (pe_bltn (v := .ty "str") (by rfl) F.z_str (by decide +kernel) rfl) pa_nil)))) (pw_or (pt_cmpR op_lt (pe_callB call_len_seq (by rfl) F.z_len (by decide +kernel) (pa_cons (pe_ix ix_tup (pv 1) pe_int (fun _ _ => rfl)) pa_nil)) (pv 2) (nomark _)) (pw_or1 (pt_cmpR op_gt (pe_callB call_len_seq (by rfl) F.z_len (by decide +kernel) (pa_cons (pe_ix ix_tup (pv 1) pe_int (fun _ _ => rfl)) pa_nil)) (pv 3) (nomark _)))))) (pss_one (ps_ret (pe_callH h__law_fail hr (by omega) rfl pass0 (pa_cons (pv 0) (pa_cons (pe_ix ix_tup (pv 1) pe_int (fun _ _ => rfl)) pa_nil)))))
      pss_nil)
    (pss_one (ps_ret (pe_ix ix_tup (pv 1) pe_int (fun _ _ => rfl))))), ?_⟩
  refine is_w (i := 1) (by rfl) g.n ?_
  cases x with
  | word w i =>
    refine iteT ⟨_, rfl, ?_⟩
    refine at_1 (by rfl) g.n ?_
    exact ⟨m, _, st, rfl, at_nonneg g.good, g.bad, fun H' f b => q _ _ f b rfl⟩
  | form ps i =>
    obtain ⟨a, l, vs, rfl, ha, hl, hv⟩ := id g.n
    have el := nds.length hv
    have fail : ¬ (lo ≤ ps.length ∧ ps.length ≤ hi) → ∀ H', Fr H H' → Bad H' m (orE st (some i)) → Q .non H' := fun n H' f b => by
      have e : partsIn lo hi (.form ps i) = .error i := by simp only [partsIn, if_neg n]
      rw [e] at q
      exact q _ _ f b rfl
    refine iteF ⟨_, rfl, _, _, _, _, rfl, rfl, SqT.of ha, rfl, l, vs, rfl, .inl (SqL.of hl), _, rfl, _, _, rfl, rfl, _, rfl, ite2 (fun z => iteT ?_) (fun z => ⟨_, rfl, _, _, _, _, rfl, rfl, SqT.of ha, rfl, l, vs, rfl, .inl (SqL.of hl), _, rfl, _, _, rfl, rfl, _, rfl, ite2 (fun z2 => ?_) (fun z2 => ?_)⟩)⟩
    · have z : (vs.length : Int) < lo := of_decide_eq_true z
      refine ⟨_, rfl, ?_⟩
      refine at_1 (by rfl) g.n ?_
      exact ⟨m, _, st, rfl, at_nonneg g.good, g.bad, fail (by omega)⟩
    · have z2 : (vs.length : Int) > hi := of_decide_eq_true z2
      refine ⟨_, rfl, ?_⟩
      refine at_1 (by rfl) g.n ?_
      exact ⟨m, _, st, rfl, at_nonneg g.good, g.bad, fail (by omega)⟩
    · have z : ¬ (vs.length : Int) < lo := by simpa using z
      have z2 : ¬ (vs.length : Int) > hi := by simpa using z2
      have e : partsIn lo hi (.form ps i) = .ok ps := by simp only [partsIn]; rw [if_pos (by omega)]
      refine ⟨_, rfl, _, _, _, _, rfl, rfl, SqT.of ha, rfl, q _ _ (Fr.refl _) ?_ ?_⟩
      · rw [e]; show Bad H m (orE st none); rw [orE_none]; exact g.bad
      · rw [e]; exact ⟨l, vs, rfl, hl, hv, a, i, rfl, ha⟩
def spLFirst : Sp := fun vs H Q _ => ∃ m st v x wl, ∃ ws : List Str, vs = [.ref m, v, .ref wl] ∧ Gv H m st v x ∧ H wl = some (.lst (ws.map V.str)) ∧ ∀ v' H', Fr H H' → Bad H' m (orE st (err (firstIn ws x))) → v' = (match firstIn ws x with | .ok h => .str h | .error _ => .non) → Q v' H'
theorem has__law_first (F : Facts w K mg) : Has P w K mg base CX0 2 "_law_first" pLawFirst spLFirst := by
  have h__law_fail := has__law_fail (P := P) (base := base) F
  refine has_0 F.g__law_first F.f__law_first scLawFirst bLawFirst (fun vs H Q E h => by obtain ⟨_, _, _, _, _, _, rfl, _⟩ := h; rfl) fun cdv A outer s H vs Q E hr h => ?_
  obtain ⟨m, st, v, x, wl, ws, rfl, g, hw, q⟩ := h
  refine ⟨_, (pss_cons (ps_if (PW.pt (pw_or (pt_val (pe_callB call_isi (by rfl) F.z_isinstance (by decide +kernel) (pa_cons (pe_ix ix_tup (pv 1) pe_int (fun _ _ => rfl)) (pa_cons (pe_bltn (v := .ty "str") (by rfl) F.z_str (by decide +kernel) rfl) pa_nil)))) (pw_or1 (pt_cmpR op_eq (pe_callB call_len_seq (by rfl) F.z_len (by decide +kernel) (pa_cons (pe_ix ix_tup (pv 1) pe_int (fun _ _ => rfl)) pa_nil)) pe_int (nomark _))))) (pss_one (ps_ret (pe_callH h__law_fail hr (by omega) rfl pass0 (pa_cons (pv 0) (pa_cons (pe_ix ix_tup (pv 1) pe_int (fun _ _ => rfl)) pa_nil)))))
      pss_nil)
    (pss_cons (ps_set (i := 3) scLawFirst.nd rfl (Or.inl rfl) (pe_ix ix_list (pe_ix ix_tup (pv 1) pe_int (fun _ _ => rfl)) pe_int (fun _ _ => rfl)))
    (pss_cons (ps_if (PW.pt (pw_or (pt_not (pt_val (pe_callB call_isi (by rfl) F.z_isinstance (by decide +kernel) (pa_cons (pe_ix ix_tup (pv 3) pe_int (fun _ _ => rfl)) (pa_cons (pe_bltn (v := .ty "str") (by rfl) F.z_str (by decide +kernel) rfl) pa_nil))))) (pw_or1 (pt_cmpR op_notIn_seq (pe_ix ix_tup (pv 3) pe_int (fun _ _ => rfl)) (pv 2) (by rfl))))) (pss_one (ps_ret (pe_callH h__law_fail hr (by omega) rfl pass0 (pa_cons (pv 0) (pa_cons (pe_ix ix_tup (pv 3) pe_int (fun _ _ => rfl)) pa_nil)))))
      pss_nil)
    (pss_one (ps_ret (pe_ix ix_tup (pv 3) pe_int (fun _ _ => rfl))))))), ?_⟩
  refine is_w (i := 1) (by rfl) g.n ?_
  cases x with
  | word w i =>
    refine iteT ⟨_, rfl, ?_⟩
    refine at_1 (by rfl) g.n ?_
    exact ⟨m, _, st, rfl, at_nonneg g.good, g.bad, fun H' f b => q _ _ f b rfl⟩
  | form ps i =>
    obtain ⟨a, l, vs, rfl, ha, hl, hv⟩ := id g.n
    refine iteF ⟨_, rfl, _, _, _, _, rfl, rfl, SqT.of ha, rfl, l, vs, rfl, .inl (SqL.of hl), rfl, _, rfl, ?_⟩
    rw [int_eq]
    cases ps with
    | nil =>
      rw [show vs = [] from hv]
      refine iteT ⟨_, rfl, ?_⟩
      refine at_1 (by rfl) g.n ?_
      exact ⟨m, _, st, rfl, at_nonneg g.good, g.bad, fun H' f b => q _ _ f b rfl⟩
    | cons y r =>
      obtain ⟨u, ur, rfl, hu, hur⟩ := hv
      rw [decide_eq_false (by simp; omega)]
      have gy : y.good := by have := g.good; rw [Node.good, goods] at this; exact this.1.1
      refine iteF ⟨_, rfl, _, _, _, _, rfl, rfl, SqT.of ha, rfl, l, _, 0, u, rfl, rfl, SqL.of hl, at_of (j := 0) rfl rfl, ?_⟩
      refine is_w (i := 3) (by rfl) hu ?_
      cases y with
      | form qs j =>
        refine iteT ⟨_, rfl, ?_⟩
        refine at_1 (i := 3) (by rfl) hu ?_
        exact ⟨m, _, st, rfl, at_nonneg gy, g.bad, fun H' f b => q _ _ f b rfl⟩
      | word h j =>
        obtain ⟨b, rfl, hb⟩ := id hu
        refine iteF ⟨_, rfl, _, _, _, _, rfl, rfl, SqT.of hb, rfl, _, rfl, _, _, rfl, .inl (SqL.of hw), rfl, flat_str _, _, rfl, iteNI (l := ws) rfl (fun z => ?_) (fun z => ?_)⟩
        · have e : firstIn ws (.form (.word h j :: r) i) = .error j := by simp only [firstIn, if_neg z]
          refine ⟨_, rfl, ?_⟩
          refine at_1 (i := 3) (by rfl) hu ?_
          rw [e] at q
          exact ⟨m, _, st, rfl, at_nonneg gy, g.bad, fun H' f b => q _ _ f b rfl⟩
        · have e : firstIn ws (.form (.word h j :: r) i) = .ok h := by simp only [firstIn, if_pos z]
          rw [e] at q
          exact ⟨_, rfl, _, _, _, _, rfl, rfl, SqT.of hb, rfl, q _ _ (Fr.refl _) (by show Bad H m (orE st none); rw [orE_none]; exact g.bad) rfl⟩
end
end K10
/-! K10Law3: the law's own reader: indexes, places, expressions, tests. Printed by expand.py from K10Law3.tpl. -/
namespace K10
open PySem PySem.Spec PyProof.Rows L2
/-! ### a fault, or all parts read -/
theorem err1 {α β : Type} (r1 : Rd α) (f : α → β) : err (r1 >>= fun x => (.ok (f x) : Rd β)) = err r1 := by cases r1 <;> rfl
theorem err2 {α β γ : Type} (r1 : Rd α) (r2 : Rd β) (f : α → β → γ) : err (r1 >>= fun x => r2 >>= fun y => (.ok (f x y) : Rd γ)) = orE (err r1) (err r2) := by cases r1 <;> cases r2 <;> rfl
theorem err3 {α β γ δ : Type} (r1 : Rd α) (r2 : Rd β) (r3 : Rd γ) (f : α → β → γ → δ) : err (r1 >>= fun x => r2 >>= fun y => r3 >>= fun z => (.ok (f x y z) : Rd δ)) = orE (orE (err r1) (err r2)) (err r3) := by cases r1 <;> cases r2 <;> cases r3 <;> rfl
theorem err4 {α β γ δ ε : Type} (r1 : Rd α) (r2 : Rd β) (r3 : Rd γ) (r4 : Rd δ) (f : α → β → γ → δ → ε) : err (r1 >>= fun x => r2 >>= fun y => r3 >>= fun z => r4 >>= fun t => (.ok (f x y z t) : Rd ε)) = orE (orE (orE (err r1) (err r2)) (err r3)) (err r4) := by cases r1 <;> cases r2 <;> cases r3 <;> cases r4 <;> rfl
theorem ok1 {α β : Type} {r1 : Rd α} {f : α → β} {d : β} (h : (r1 >>= fun x => (.ok (f x) : Rd β)) = .ok d) : ∃ x, r1 = .ok x ∧ d = f x := by
  cases r1 with
  | error e => cases h
  | ok x => cases h; exact ⟨x, rfl, rfl⟩
theorem ok2 {α β γ : Type} {r1 : Rd α} {r2 : Rd β} {f : α → β → γ} {d : γ} (h : (r1 >>= fun x => r2 >>= fun y => (.ok (f x y) : Rd γ)) = .ok d) : ∃ x y, r1 = .ok x ∧ r2 = .ok y ∧ d = f x y := by
  cases r1 with
  | error e => cases h
  | ok x =>
    cases r2 with
    | error e => cases h
    | ok y => cases h; exact ⟨x, y, rfl, rfl, rfl⟩
theorem ok3 {α β γ δ : Type} {r1 : Rd α} {r2 : Rd β} {r3 : Rd γ} {f : α → β → γ → δ} {d : δ} (h : (r1 >>= fun x => r2 >>= fun y => r3 >>= fun z => (.ok (f x y z) : Rd δ)) = .ok d) : ∃ x y z, r1 = .ok x ∧ r2 = .ok y ∧ r3 = .ok z ∧ d = f x y z := by
  cases r1 with
  | error e => cases h
  | ok x =>
    obtain ⟨y, z, h1, h2, h3⟩ := ok2 (f := fun y z => f x y z) h
    exact ⟨x, y, z, rfl, h1, h2, h3⟩
theorem ok4 {α β γ δ ε : Type} {r1 : Rd α} {r2 : Rd β} {r3 : Rd γ} {r4 : Rd δ} {f : α → β → γ → δ → ε} {d : ε} (h : (r1 >>= fun x => r2 >>= fun y => r3 >>= fun z => r4 >>= fun t => (.ok (f x y z t) : Rd ε)) = .ok d) : ∃ x y z t, r1 = .ok x ∧ r2 = .ok y ∧ r3 = .ok z ∧ r4 = .ok t ∧ d = f x y z t := by
  cases r1 with
  | error e => cases h
  | ok x =>
    obtain ⟨y, z, t, h1, h2, h3, h4⟩ := ok3 (f := fun y z t => f x y z t) h
    exact ⟨x, y, z, t, rfl, h1, h2, h3, h4⟩
theorem err_none {α : Type} {r : Rd α} {x : α} (h : r = .ok x) : err r = none := by rw [h]; rfl
/-! ### small words -/
theorem bad_ge {σ : L2.St} {H : Hp} {m : Addr} {st : Option Int} {Q : Bool → Hp → Prop} (hs : σ[0]? = some (some (.ref m))) (hb : Bad H m st) (q : Q st.isSome H) :
    tTest (tOp (rI0 fun i j => .bl (decide (j ≤ i))) (tDGet (tVar 0) (L2.tC (.str "bad"))) (L2.tC (.int 0))) σ H Q := by
  obtain ⟨b, hm, hb⟩ := hb
  refine ⟨_, hs, m, _, rfl, bad_get hm, _, _, rfl, rfl, _, rfl, ?_⟩
  cases st with
  | none => rw [decide_eq_false (show ¬ (0 ≤ b) from by have : b < 0 := hb; omega)]; exact q
  | some e => rw [decide_eq_true (show 0 ≤ b from by have : b = e ∧ 0 ≤ e := hb; omega)]; exact q
theorem bad_lt {σ : L2.St} {H : Hp} {m : Addr} {st : Option Int} {Q : Bool → Hp → Prop} (hs : σ[0]? = some (some (.ref m))) (hb : Bad H m st) (q : Q st.isNone H) :
    tTest (tOp (rI0 fun i j => .bl (decide (i < j))) (tDGet (tVar 0) (L2.tC (.str "bad"))) (L2.tC (.int 0))) σ H Q := by
  obtain ⟨b, hm, hb⟩ := hb
  refine ⟨_, hs, m, _, rfl, bad_get hm, _, _, rfl, rfl, _, rfl, ?_⟩
  cases st with
  | none => rw [decide_eq_true (show b < 0 from hb)]; exact q
  | some e => rw [decide_eq_false (show ¬ b < 0 from by have : b = e ∧ 0 ≤ e := hb; omega)]; exact q
/-- node[0][k] -/
theorem part_at {K : PySem.W.Frag} {σ : L2.St} {H : Hp} {i k : Nat} {v : V} {ps : List Node} {j : Int} {y : Node} {Q : VK} {kk : Int} (hs : σ[i]? = some (some v)) (hn : nd H v (.form ps j)) (hk : ps[k]? = some y) (ek : kk = (k : Int)) (q : ∀ u, nd H u y → Q u H) :
    tOp (rIxL K) (tOp (rIxT K) (tVar i) (L2.tC (.int 0))) (L2.tC (.int kk)) σ H Q := by
  obtain ⟨a, l, vs, rfl, ha, hl, hv⟩ := hn
  obtain ⟨u, hu, hn⟩ := hv.get hk
  exact ⟨_, hs, _, _, _, _, rfl, rfl, SqT.of ha, rfl, l, vs, kk, u, rfl, rfl, SqL.of hl, at_of (j := k) ek hu, q u hn⟩
/-- v[1], v a node -/
theorem at_v {K : PySem.W.Frag} {H : Hp} {v : V} {x : Node} {Q : VK} (hn : nd H v x) (q : Q (.int x.at) H) : rIxT K v (.int 1) H Q := by
  cases x with
  | word w i =>
    obtain ⟨a, rfl, ha⟩ := hn
    exact ⟨_, _, _, _, rfl, rfl, SqT.of ha, rfl, q⟩
  | form ps i =>
    obtain ⟨a, l, vs, rfl, ha, hl, _⟩ := hn
    exact ⟨_, _, _, _, rfl, rfl, SqT.of ha, rfl, q⟩
/-- node[0] of a word -/
theorem word_at {K : PySem.W.Frag} {σ : L2.St} {H : Hp} {i : Nat} {v : V} {w : Str} {j : Int} {Q : VK} (hs : σ[i]? = some (some v)) (hn : nd H v (.word w j)) (q : Q (.str w) H) :
    tOp (rIxT K) (tVar i) (L2.tC (.int 0)) σ H Q := by
  obtain ⟨a, rfl, ha⟩ := hn
  exact ⟨_, hs, _, _, _, _, rfl, rfl, SqT.of ha, rfl, q⟩
theorem first_form {ws : List Str} {x : Node} {h : Str} (e : firstIn ws x = .ok h) : ∃ j r i, x = .form (.word h j :: r) i ∧ h ∈ ws := by
  cases x with
  | word w i => cases e
  | form ps i =>
    cases ps with
    | nil => cases e
    | cons y r =>
      cases y with
      | form qs j => cases e
      | word h' j =>
        simp only [firstIn] at e
        split at e
        · cases e; rename_i m; exact ⟨j, r, i, rfl, m⟩
        · cases e
theorem parts_form {lo hi : Nat} {x : Node} {ps : List Node} (e : partsIn lo hi x = .ok ps) : ∃ i, x = .form ps i ∧ lo ≤ ps.length ∧ ps.length ≤ hi := by
  cases x with
  | word w i => cases e
  | form qs i =>
    simp only [partsIn] at e
    split at e
    · cases e; rename_i m; exact ⟨i, rfl, m.1, m.2⟩
    · cases e
theorem Gv.part {H' : Hp} {m : Addr} {st : Option Int} {u : V} {ps : List Node} {i : Int} {y : Node} (g : (Node.form ps i).good) (w : (Node.form ps i).wt ≤ 6000) (hy : y ∈ ps) (b : Bad H' m st) (hn : nd H' u y) : Gv H' m st u y := by
  rw [Node.good] at g
  rw [Node.wt] at w
  have := wt_mem hy
  exact ⟨b, hn, good_mem g.1 hy, by omega⟩
theorem depth_part {n : Nat} {ps : List Node} {i : Int} {y : Node} (d : (Node.form ps i).depth < n + 1) (hy : y ∈ ps) : y.depth < n := by
  rw [Node.depth] at d
  have := depth_mem hy
  omega
def spLRead (n : Nat) (rd : Node → Rd PyData) : Sp := fun vs H Q _ => ∃ m st v x, vs = [.ref m, v] ∧ Gv H m st v x ∧ x.depth < n ∧
  ∀ v' H', Fr H H' → Bad H' m (orE st (err (rd x))) → (∀ d, st = none → rd x = .ok d → Tv H' v' d) → Q v' H'
/-- what the caller is owed, no fault so far -/
def Ret (Q : VK) (H : Hp) (m : Addr) (r : Rd PyData) : Prop := ∀ v' H', Fr H H' → Bad H' m (err r) → (∀ d, r = .ok d → Tv H' v' d) → Q v' H'
theorem Ret.of {Q : VK} {H : Hp} {m : Addr} {r : Rd PyData} (q : ∀ v' H', Fr H H' → Bad H' m (orE none (err r)) → (∀ d, (none : Option Int) = none → r = .ok d → Tv H' v' d) → Q v' H') : Ret Q H m r := fun v' H' f b t => q v' H' f b fun d _ e => t d e
theorem Ret.bad {Q : VK} {H H' : Hp} {m : Addr} {r : Rd PyData} {j : Int} (q : Ret Q H m r) (e : r = .error j) {v' : V} (f : Fr H H') (b : Bad H' m (some j)) : Q v' H' := by
  subst e
  exact q v' H' f b (fun d z => nomatch z)
theorem Gv.len {H : Hp} {m : Addr} {st : Option Int} {v : V} {w : Str} {i : Int} (g : Gv H m st v (.word w i)) : w.length ≤ sizeLine := by
  have := g.wt
  rw [Node.wt] at this
  rw [line_eq]; omega
theorem getD_none {o : Option Int} (h : o = none) : ¬ ((0 : Int) ≤ o.getD (-1)) := by subst h; decide
theorem getD_some {w : Str} {lo hi k : Int} (h : numIn w lo hi = some k) (h0 : 0 ≤ lo) : (0 : Int) ≤ (numIn w lo hi).getD (-1) := by
  rw [h]
  have := (numIn_some h).2.2.1
  show 0 ≤ k
  omega
section
variable {P : Program} {w : World} {K : PySem.W.Frag} {mg : Str → Option Value} {base : Heap}
def nLawReadIndex : List Str := ["_law_m", "_law_node", "_law_op", "_law_left", "_law_word_here"]
def pLawReadIndex : List Str := ["_law_m", "_law_node"]
theorem scLawReadIndex : FnScope nLawReadIndex pLawReadIndex (defScope sLawReadIndex) := ⟨rfl, rfl, rfl, by decide +kernel, rfl, by decide +kernel, by decide +kernel⟩
theorem bLawReadIndex : BindsBy "_law_read_index" sLawReadIndex pLawReadIndex := fun _ _ _ _ _ _ us hl => match us, hl with | [_, _], _ => rfl
def nLawReadPlace : List Str := ["_law_m", "_law_node", "_law_name_here"]
def pLawReadPlace : List Str := ["_law_m", "_law_node"]
theorem scLawReadPlace : FnScope nLawReadPlace pLawReadPlace (defScope sLawReadPlace) := ⟨rfl, rfl, rfl, by decide +kernel, rfl, by decide +kernel, by decide +kernel⟩
theorem bLawReadPlace : BindsBy "_law_read_place" sLawReadPlace pLawReadPlace := fun _ _ _ _ _ _ us hl => match us, hl with | [_, _], _ => rfl
def nLawReadExpression : List Str := ["_law_m", "_law_node", "_law_op", "_law_left"]
def pLawReadExpression : List Str := ["_law_m", "_law_node"]
theorem scLawReadExpression : FnScope nLawReadExpression pLawReadExpression (defScope sLawReadExpression) := ⟨rfl, rfl, rfl, by decide +kernel, rfl, by decide +kernel, by decide +kernel⟩
theorem bLawReadExpression : BindsBy "_law_read_expression" sLawReadExpression pLawReadExpression := fun _ _ _ _ _ _ us hl => match us, hl with | [_, _], _ => rfl
def nLawReadTest : List Str := ["_law_m", "_law_node", "_law_op", "_law_many", "_law_left"]
def pLawReadTest : List Str := ["_law_m", "_law_node"]
theorem scLawReadTest : FnScope nLawReadTest pLawReadTest (defScope sLawReadTest) := ⟨rfl, rfl, rfl, by decide +kernel, rfl, by decide +kernel, by decide +kernel⟩
theorem bLawReadTest : BindsBy "_law_read_test" sLawReadTest pLawReadTest := fun _ _ _ _ _ _ us hl => match us, hl with | [_, _], _ => rfl
theorem has__law_read_index (F : Facts w K mg) : ∀ n : Nat, Has P w K mg base CX0 (n + 4) "_law_read_index" pLawReadIndex (spLRead n (rdIdx n))
  | 0 => by
    refine has_0 F.g__law_read_index F.f__law_read_index scLawReadIndex bLawReadIndex (fun vs H Q E h => by obtain ⟨_, _, _, _, rfl, _⟩ := h; rfl) fun cdv A outer s H vs Q E hr h => ?_
    obtain ⟨m, st, v, x, rfl, g, d, q⟩ := h
    exact absurd d (Nat.not_lt_zero _)
  | n + 1 => by
    have h__law_read_index := has__law_read_index F n
    have h__law_fail := has__law_fail (P := P) (base := base) F
    have h__law_word := has__law_word (P := P) (base := base) F
    have h__law_named := has__law_named (P := P) (base := base) F
    have h__law_list := has__law_list (P := P) (base := base) F
    have h__law_first := has__law_first (P := P) (base := base) F
    have h__law_valued := has__law_valued (P := P) (base := base) F
    refine has_0 F.g__law_read_index F.f__law_read_index scLawReadIndex bLawReadIndex (fun vs H Q E h => by obtain ⟨_, _, _, _, rfl, _⟩ := h; rfl) fun cdv A outer s H vs Q E hr h => ?_
    obtain ⟨m, st, v, x, rfl, g, dep, q⟩ := h
    have hu := hu_of hr
    refine ⟨_, (pss_cons (ps_if (pt_cmpR op_ge (pe_dget hu (pv 0) pe_str (fun _ _ => rfl)) pe_int (nomark _)) (pss_one (ps_ret pe_non))
      pss_nil)
    (pss_cons (ps_if (pt_val (pe_callB call_isi (by rfl) F.z_isinstance (by decide +kernel) (pa_cons (pe_ix ix_tup (pv 1) pe_int (fun _ _ => rfl)) (pa_cons (pe_bltn (v := .ty "str") (by rfl) F.z_str (by decide +kernel) rfl) pa_nil)))) (pss_cons (ps_if (pt_cmpR op_eq (pe_ix ix_tup (pv 1) pe_int (fun _ _ => rfl)) pe_str (nomark _)) (pss_one (ps_ret (pe_tup (pa_cons pe_str pa_nil))))
        pss_nil)
      (pss_cons (ps_if (pt_cmpR op_ge (pe_callH h__law_valued hr (by omega) rfl pass0 (pa_cons (pe_ix ix_tup (pv 1) pe_int (fun _ _ => rfl)) (pa_cons pe_int (pa_cons pe_int pa_nil)))) pe_int (nomark _)) (pss_one (ps_ret (pe_tup (pa_cons pe_str (pa_cons (pe_callTy call_int_str (by rfl) F.z_int (by decide +kernel) (pa_cons (pe_ix ix_tup (pv 1) pe_int (fun _ _ => rfl)) pa_nil)) pa_nil)))))
        pss_nil)
      (pss_one (ps_ret (pe_tup (pa_cons pe_str (pa_cons (pe_callH h__law_named hr (by omega) rfl pass0 (pa_cons (pv 0) (pa_cons (pv 1) pa_nil))) pa_nil)))))))
      pss_nil)
    (pss_cons (ps_set (i := 2) scLawReadIndex.nd rfl (Or.inl rfl) (pe_callH h__law_first hr (by omega) rfl pass0 (pa_cons (pv 0) (pa_cons (pv 1) (pa_cons (pe_lst (pa_cons pe_str (pa_cons pe_str (pa_cons pe_str (pa_cons pe_str pa_nil))))) pa_nil)))))
    (pss_cons (ps_if (PW.pt (pw_or (pt_cmpR op_isN (pv 2) pe_non (nomark _)) (pw_or1 (pt_cmpR op_isN (pe_callH h__law_list hr (by omega) rfl pass0 (pa_cons (pv 0) (pa_cons (pv 1) (pa_cons pe_int (pa_cons pe_int pa_nil))))) pe_non (nomark _))))) (pss_one (ps_ret pe_non))
      pss_nil)
    (pss_cons (ps_set (i := 3) scLawReadIndex.nd rfl (Or.inl rfl) (pe_callH h__law_read_index hr (by omega) rfl pass0 (pa_cons (pv 0) (pa_cons (pe_ix ix_list (pe_ix ix_tup (pv 1) pe_int (fun _ _ => rfl)) pe_int (fun _ _ => rfl)) pa_nil))))
    (pss_cons (ps_if (pt_cmpR op_ne (pv 2) pe_str (nomark _)) (pss_one (ps_ret (pe_tup (pa_cons (pv 2) (pa_cons (pv 3) (pa_cons (pe_callH h__law_read_index hr (by omega) rfl pass0 (pa_cons (pv 0) (pa_cons (pe_ix ix_list (pe_ix ix_tup (pv 1) pe_int (fun _ _ => rfl)) pe_int (fun _ _ => rfl)) pa_nil))) pa_nil))))))
      pss_nil)
    (pss_cons (ps_set (i := 4) scLawReadIndex.nd rfl (Or.inl rfl) (pe_callH h__law_word hr (by omega) rfl pass0 (pa_cons (pv 0) (pa_cons (pe_ix ix_list (pe_ix ix_tup (pv 1) pe_int (fun _ _ => rfl)) pe_int (fun _ _ => rfl)) pa_nil))))
    (pss_cons (ps_if (PW.pt (pw_or (pt_cmpR op_isN (pv 4) pe_non (nomark _)) (pw_or1 (pt_cmpR op_lt (pe_callH h__law_valued hr (by omega) rfl pass0 (pa_cons (pv 4) (pa_cons pe_int (pa_cons pe_int pa_nil)))) pe_int (nomark _))))) (pss_one (ps_ret (pe_callH h__law_fail hr (by omega) rfl pass0 (pa_cons (pv 0) (pa_cons (pe_ix ix_tup (pe_ix ix_list (pe_ix ix_tup (pv 1) pe_int (fun _ _ => rfl)) pe_int (fun _ _ => rfl)) pe_int (fun _ _ => rfl)) pa_nil)))))
      pss_nil)
    (pss_one (ps_ret (pe_tup (pa_cons (pv 2) (pa_cons (pv 3) (pa_cons (pe_callTy call_int_str (by rfl) F.z_int (by decide +kernel) (pa_cons (pv 4) pa_nil)) pa_nil)))))))))))))), ?_⟩
    refine bad_ge (by rfl) g.bad ?_
    rw [rdIdx] at q
    cases st with
    | some e => exact iteT (q _ _ (Fr.refl _) g.bad (fun d z => nomatch z))
    | none =>
    have q : Ret Q H m (idxStep (rdIdx n) x) := .of q
    refine iteF ?_
    refine is_w (i := 1) (by rfl) g.n ?_
    cases x with
    | word w i =>
      simp only [idxStep] at q
      refine iteT ?_
      refine word_at (i := 1) (by rfl) g.n ?_
      refine ⟨rfl, _, rfl, ite2 (fun h1 => ?_) (fun h1 => ?_)⟩
      · have h1 : w = S "beat" := by rw [str_eq] at h1; exact of_decide_eq_true h1
        rw [if_pos h1] at q
        exact ⟨lb rfl, fun p hp => q _ _ (Fr.new hp) (g.bad.new hp) (fun d e => by cases e; exact dp_tup hp (.cons (.str _) .nil))⟩
      · have h1 : ¬ w = S "beat" := by rw [str_eq] at h1; simpa using h1
        rw [if_neg h1] at q
        refine word_at (i := 1) (by rfl) g.n ?_
        refine ⟨w, _, _, rfl, g.len, fun H1 s1 => ⟨_, _, rfl, rfl, _, rfl, ite2 (fun h2 => ?_) (fun h2 => ?_)⟩⟩
        · have h2 : (0 : Int) ≤ (numIn w 0 1000).getD (-1) := of_decide_eq_true h2
          cases e : numIn w 0 1000 with
          | none => exact absurd h2 (getD_none e)
          | some k =>
            obtain ⟨e1, e2, _⟩ := numIn_some e
            obtain ⟨t1, t2⟩ := isNum_text e1
            rw [e] at q
            refine word_at (i := 1) (by rfl) (nd.fr (frS s1) _ _ g.n) ?_
            refine ⟨w, _, rfl, t1, t2, lb rfl, fun p hp => q _ _ (frS (s1.trans (sameNew hp))) (g.bad.same (s1.trans (sameNew hp))) (fun d e => ?_)⟩
            cases e
            rw [e2]
            exact dp_tup hp (.cons (.str _) (.cons (.int _) .nil))
        · have h2 : ¬ (0 : Int) ≤ (numIn w 0 1000).getD (-1) := by simpa using h2
          cases e : numIn w 0 1000 with
          | some k => exact absurd (getD_some e (Int.le_refl 0)) h2
          | none =>
            rw [e] at q
            refine ⟨_, rfl, _, rfl, m, none, v, _, rfl, g.fr (frS s1) (g.bad.same s1), fun v' H2 f2 b2 ev => ⟨lb rfl, fun p hp => ?_⟩⟩
            simp only [nameOf] at b2 ev
            by_cases h3 : isName w = true
            · simp only [if_pos h3] at q b2 ev
              refine q _ _ (((frS s1).trans f2).trans (Fr.new hp)) (b2.new hp) (fun d e => ?_)
              cases e
              rw [ev w rfl]
              exact dp_tup hp (.cons (.str _) (.cons (.str _) .nil))
            · simp only [if_neg h3] at q b2 ev
              exact q _ _ (((frS s1).trans f2).trans (Fr.new hp)) (b2.new hp) (fun d e => nomatch e)
    | form ps i =>
      refine iteF ⟨_, rfl, _, rfl, lb rfl, fun wl hwl => ?_⟩
      have sw := sameNew (o := .lst [.str (S "plus"), .str (S "minus"), .str (S "times"), .str (S "rem")]) hwl
      refine ⟨m, none, v, _, wl, wIndex, rfl, g.fr (frS sw) (g.bad.same sw), upd_same, fun v' H1 f1 b1 ev => ?_⟩
      have f01 := (frS sw).trans f1
      simp only [idxStep] at q
      cases e1 : firstIn wIndex (.form ps i) with
      | error j =>
        rw [e1] at b1 ev q
        rw [ev]
        exact ⟨_, rfl, rfl, _, rfl, iteT (iteT (q.bad rfl f01 b1))⟩
      | ok h =>
      rw [e1] at b1 ev q
      rw [ev]
      have g1 := g.fr f01 b1
      refine ⟨_, rfl, rfl, _, rfl, iteF ⟨_, rfl, _, rfl, m, none, v, _, 3, 3, rfl, g1, fun v2 H2 f2 b2 o2 => ?_⟩⟩
      have f02 := f01.trans f2
      cases e2 : partsIn 3 3 (.form ps i) with
      | error j =>
        rw [e2] at b2 o2
        rw [show v2 = .non from o2]
        rw [e2] at q
        exact ⟨rfl, _, rfl, iteT (q.bad rfl f02 b2)⟩
      | ok ps' =>
      obtain ⟨i2, ex, l1, l2⟩ := parts_form e2
      cases ex
      rw [e2] at b2 o2 q
      obtain ⟨l, us, rfl, _, _⟩ := o2
      have g2 := g.fr f02 b2
      obtain ⟨x0, y, z, ep⟩ := len3 l1 l2
      have hy : ps[1]? = some y := by rw [ep]; rfl
      have hz : ps[2]? = some z := by rw [ep]; rfl
      have my := List.mem_of_getElem? hy
      have mz := List.mem_of_getElem? hz
      rw [ep] at q
      have q : Ret Q H m (if h = S "rem" then (rdIdx n y >>= fun x => numOf 1 1000 z >>= fun n => (.ok (.tuple [.str h, x, .int n]) : Rd PyData)) else (rdIdx n y >>= fun x => rdIdx n z >>= fun y => (.ok (.tuple [.str h, x, y]) : Rd PyData))) := q
      refine ⟨rfl, _, rfl, iteF ⟨_, rfl, ?_⟩⟩
      refine part_at (i := 1) (k := 1) (by rfl) g2.n hy (by rfl) (fun u hu => ?_)
      refine ⟨m, none, u, y, rfl, Gv.part g.good g.wt my b2 hu, depth_part dep my, fun v3 H3 f3 b3 t3 => ?_⟩
      have f03 := f02.trans f3
      have b3 : Bad H3 m (err (rdIdx n y)) := b3
      have n3 := nd.fr f03 _ _ g.n
      refine ⟨_, rfl, rfl, _, rfl, ite2 (fun c => ?_) (fun c => ?_)⟩
      · have c : ¬ h = S "rem" := by rw [str_eq] at c; simpa using c
        rw [if_neg c] at q
        unfold Ret at q
        rw [err2] at q
        refine ⟨_, rfl, _, rfl, _, rfl, ?_⟩
        refine part_at (i := 1) (k := 2) (by rfl) n3 hz (by rfl) (fun u2 hu2 => ?_)
        refine ⟨m, _, u2, z, rfl, Gv.part g.good g.wt mz b3 hu2, depth_part dep mz, fun v4 H4 f4 b4 t4 => ⟨lb rfl, fun p hp => ?_⟩⟩
        refine q _ _ ((f03.trans f4).trans (Fr.new hp)) (b4.new hp) (fun d e => ?_)
        obtain ⟨d1, d2, r1, r2, rfl⟩ := ok2 e
        exact dp_tup hp (.cons (.str _) (.cons (Tv.fr f4 _ _ (t3 d1 rfl r1)) (.cons (t4 d2 (err_none r1) r2) .nil)))
      · have c : h = S "rem" := by rw [str_eq] at c; simpa using c
        rw [if_pos c] at q
        unfold Ret at q
        rw [err2] at q
        refine ⟨_, rfl, ?_⟩
        refine part_at (i := 1) (k := 2) (by rfl) n3 hz (by rfl) (fun u2 hu2 => ?_)
        have gz := Gv.part g.good g.wt mz b3 hu2
        refine ⟨m, _, u2, z, rfl, gz, fun v4 H4 f4 b4 e4 => ?_⟩
        have f04 := f03.trans f4
        have n4 := nd.fr f04 _ _ g.n
        have fail : ∀ {j : Int} {st4 : Option Int} {HH : Hp}, numOf 1 1000 z = .error j → z.at = j → Fr H HH → Bad HH m st4 → orE st4 (some j) = orE (err (rdIdx n y)) (some j) → nd HH v (.form ps i) → ∀ H5, Fr HH H5 → Bad H5 m (orE st4 (some z.at)) → Q .non H5 := fun {j st4 HH} e ej f b eo nn H5 f5 b5 => by
          rw [e] at q
          refine q _ _ (f.trans f5) ?_ (fun d e => ?_)
          · rw [show err (Except.error j : Rd Int) = some j from rfl, ← eo, ← ej]; exact b5
          · obtain ⟨d1, d2, r1, r2, _⟩ := ok2 e
            cases r2
        cases z with
        | form qs j =>
          rw [show v4 = .non from e4]
          have b4 : Bad H4 m (orE (err (rdIdx n y)) (some j)) := b4
          refine ⟨_, rfl, rfl, _, rfl, iteT ⟨_, rfl, ?_⟩⟩
          refine part_at (i := 1) (k := 2) (by rfl) n4 hz (by rfl) (fun u3 hu3 => ?_)
          refine at_v hu3 ?_
          exact ⟨m, _, _, rfl, at_nonneg gz.good, b4, fail rfl rfl f04 b4 (orE_self _ _) n4⟩
        | word w j =>
          rw [show v4 = .str w from e4]
          have b4 : Bad H4 m (err (rdIdx n y)) := by have b4 : Bad H4 m (orE (err (rdIdx n y)) none) := b4; rw [orE_none] at b4; exact b4
          refine ⟨_, rfl, rfl, _, rfl, iteF ⟨_, rfl, w, _, _, rfl, gz.len, fun H5 s5 => ⟨_, _, rfl, rfl, _, rfl, ite2 (fun h2 => ?_) (fun h2 => ?_)⟩⟩⟩
          · have h2 : (numIn w 1 1000).getD (-1) < 0 := of_decide_eq_true h2
            cases e : numIn w 1 1000 with
            | some k => exact absurd (getD_some e (by decide)) (by omega)
            | none =>
              have en : numOf 1 1000 (.word w j) = .error j := by simp only [numOf]; rw [e]
              refine ⟨_, rfl, ?_⟩
              refine part_at (i := 1) (k := 2) (by rfl) (nd.fr (frS s5) _ _ n4) hz (by rfl) (fun u3 hu3 => ?_)
              refine at_v hu3 ?_
              exact ⟨m, _, _, rfl, at_nonneg gz.good, b4.same s5, fail en rfl (f04.trans (frS s5)) (b4.same s5) rfl (nd.fr (frS s5) _ _ n4)⟩
          · have h2 : ¬ (numIn w 1 1000).getD (-1) < 0 := by simpa using h2
            cases e : numIn w 1 1000 with
            | none => exact absurd (by rw [e]; decide) h2
            | some k =>
              obtain ⟨e1, e2, _⟩ := numIn_some e
              obtain ⟨t1, t2⟩ := isNum_text e1
              have en : numOf 1 1000 (.word w j) = .ok k := by simp only [numOf]; rw [e]
              rw [en] at q
              refine ⟨_, rfl, _, rfl, _, rfl, w, _, rfl, t1, t2, lb rfl, fun p hp => ?_⟩
              refine q _ _ ((f04.trans (frS s5)).trans (Fr.new hp)) ?_ (fun d e => ?_)
              · show Bad _ m (orE _ none)
                rw [orE_none]
                exact (b4.same s5).new hp
              · obtain ⟨d1, d2, r1, r2, rfl⟩ := ok2 e
                cases r2
                rw [← e2, c]
                exact dp_tup hp (.cons (.str _) (.cons (Tv.fr (f4.trans (frS s5)) _ _ (t3 d1 rfl r1)) (.cons (.int _) .nil)))
end
end K10
/-! K10Law4: the law's own reader: places, expressions, tests. Printed by expand.py from K10Law4.tpl. -/
namespace K10
open PySem PySem.Spec PyProof.Rows L2
section
variable {P : Program} {w : World} {K : PySem.W.Frag} {mg : Str → Option Value} {base : Heap}
def spLPlace (n : Nat) (idx : Node → Rd PyData) : Sp := fun vs H Q _ => ∃ m st v x, vs = [.ref m, v] ∧ Gv H m st v x ∧ x.depth < n ∧
  ∀ p v1 v2 H', Fr H H' → H' p = some (.tup [v1, v2]) → Bad H' m (orE st (err (plcStep idx x))) → (∀ d, st = none → plcStep idx x = .ok d → v1 = .str d.1 ∧ Tv H' v2 d.2) → Q (.ref p) H'
def RetP (Q : VK) (H : Hp) (m : Addr) (r : Rd (Str × PyData)) : Prop := ∀ p v1 v2 H', Fr H H' → H' p = some (.tup [v1, v2]) → Bad H' m (err r) → (∀ d, r = .ok d → v1 = .str d.1 ∧ Tv H' v2 d.2) → Q (.ref p) H'
theorem RetP.bad {Q : VK} {H H' : Hp} {m p : Addr} {r : Rd (Str × PyData)} {j : Int} {v1 v2 : V} (q : RetP Q H m r) (e : r = .error j) (f : Fr H H') (hp : H' p = some (.tup [v1, v2])) (b : Bad H' m (some j)) : Q (.ref p) H' := by
  subst e
  exact q p v1 v2 H' f hp b (fun d z => nomatch z)
theorem has__law_read_place (F : Facts w K mg) (n : Nat) : Has P w K mg base CX0 (n + 5) "_law_read_place" pLawReadPlace (spLPlace (n + 1) (rdIdx n)) := by
  have h__law_read_index := has__law_read_index (P := P) (base := base) F n
  have h__law_named := has__law_named (P := P) (base := base) F
  have h__law_list := has__law_list (P := P) (base := base) F
  have h__law_first := has__law_first (P := P) (base := base) F
  refine has_0 F.g__law_read_place F.f__law_read_place scLawReadPlace bLawReadPlace (fun vs H Q E h => by obtain ⟨_, _, _, _, rfl, _⟩ := h; rfl) fun cdv A outer s H vs Q E hr h => ?_
  obtain ⟨m, st, v, x, rfl, g, dep, q⟩ := h
  have hu := hu_of hr
  refine ⟨_, (pss_cons (ps_if (pt_cmpR op_ge (pe_dget hu (pv 0) pe_str (fun _ _ => rfl)) pe_int (nomark _)) (pss_one (ps_ret (pe_tup (pa_cons pe_non (pa_cons pe_non pa_nil)))))
      pss_nil)
    (pss_cons (ps_if (pt_val (pe_callB call_isi (by rfl) F.z_isinstance (by decide +kernel) (pa_cons (pe_ix ix_tup (pv 1) pe_int (fun _ _ => rfl)) (pa_cons (pe_bltn (v := .ty "str") (by rfl) F.z_str (by decide +kernel) rfl) pa_nil)))) (pss_one (ps_ret (pe_tup (pa_cons (pe_callH h__law_named hr (by omega) rfl pass0 (pa_cons (pv 0) (pa_cons (pv 1) pa_nil))) (pa_cons pe_non pa_nil)))))
      pss_nil)
    (pss_cons (ps_if (PW.pt (pw_or (pt_cmpR op_isN (pe_callH h__law_first hr (by omega) rfl pass0 (pa_cons (pv 0) (pa_cons (pv 1) (pa_cons (pe_lst (pa_cons pe_str pa_nil)) pa_nil)))) pe_non (nomark _)) (pw_or1 (pt_cmpR op_isN (pe_callH h__law_list hr (by omega) rfl pass0 (pa_cons (pv 0) (pa_cons (pv 1) (pa_cons pe_int (pa_cons pe_int pa_nil))))) pe_non (nomark _))))) (pss_one (ps_ret (pe_tup (pa_cons pe_non (pa_cons pe_non pa_nil)))))
      pss_nil)
    (pss_cons (ps_set (i := 2) scLawReadPlace.nd rfl (Or.inl rfl) (pe_callH h__law_named hr (by omega) rfl pass0 (pa_cons (pv 0) (pa_cons (pe_ix ix_list (pe_ix ix_tup (pv 1) pe_int (fun _ _ => rfl)) pe_int (fun _ _ => rfl)) pa_nil))))
    (pss_one (ps_ret (pe_tup (pa_cons (pv 2) (pa_cons (pe_callH h__law_read_index hr (by omega) rfl pass0 (pa_cons (pv 0) (pa_cons (pe_ix ix_list (pe_ix ix_tup (pv 1) pe_int (fun _ _ => rfl)) pe_int (fun _ _ => rfl)) pa_nil))) pa_nil))))))))), ?_⟩
  refine bad_ge (by rfl) g.bad ?_
  cases st with
  | some e => exact iteT ⟨lb rfl, fun p hp => q p .non .non _ (Fr.new hp) upd_same (g.bad.new hp) (fun d z => nomatch z)⟩
  | none =>
  have q : RetP Q H m (plcStep (rdIdx n) x) := fun p v1 v2 H' f hp b t => q p v1 v2 H' f hp b (fun d _ e => t d e)
  refine iteF ?_
  refine is_w (i := 1) (by rfl) g.n ?_
  cases x with
  | word w i =>
    simp only [plcStep] at q
    refine iteT ⟨_, rfl, _, rfl, m, none, v, _, rfl, g, fun v' H2 f2 b2 ev => ⟨lb rfl, fun p hp => ?_⟩⟩
    simp only [nameOf] at b2 ev
    by_cases h3 : isName w = true
    · simp only [if_pos h3] at q b2 ev
      refine q p v' .non _ (f2.trans (Fr.new hp)) upd_same (b2.new hp) (fun d e => ?_)
      cases e
      exact ⟨ev w rfl, .non⟩
    · simp only [if_neg h3] at q b2 ev
      exact q p v' .non _ (f2.trans (Fr.new hp)) upd_same (b2.new hp) (fun d e => nomatch e)
  | form ps i =>
    refine iteF ⟨_, rfl, _, rfl, lb rfl, fun wl hwl => ?_⟩
    have sw := sameNew (o := .lst [.str (S "at")]) hwl
    refine ⟨m, none, v, _, wl, [S "at"], rfl, g.fr (frS sw) (g.bad.same sw), upd_same, fun v' H1 f1 b1 ev => ?_⟩
    have f01 := (frS sw).trans f1
    simp only [plcStep] at q
    cases e1 : firstIn [S "at"] (.form ps i) with
    | error j =>
      rw [e1] at b1 ev q
      rw [ev]
      exact ⟨rfl, _, rfl, iteT (iteT ⟨lb rfl, fun p hp => q.bad rfl (f01.trans (Fr.new hp)) upd_same (b1.new hp)⟩)⟩
    | ok h =>
    rw [e1] at b1 ev q
    rw [ev]
    have g1 := g.fr f01 b1
    refine ⟨rfl, _, rfl, iteF ⟨_, rfl, _, rfl, m, none, v, _, 3, 3, rfl, g1, fun v2 H2 f2 b2 o2 => ?_⟩⟩
    have f02 := f01.trans f2
    cases e2 : partsIn 3 3 (.form ps i) with
    | error j =>
      rw [e2] at b2 o2 q
      rw [show v2 = .non from o2]
      exact ⟨rfl, _, rfl, iteT ⟨lb rfl, fun p hp => q.bad rfl (f02.trans (Fr.new hp)) upd_same (b2.new hp)⟩⟩
    | ok ps' =>
    obtain ⟨i2, ex, l1, l2⟩ := parts_form e2
    cases ex
    rw [e2] at b2 o2 q
    obtain ⟨l, us, rfl, _, _⟩ := o2
    have g2 := g.fr f02 b2
    obtain ⟨x0, y, z, ep⟩ := len3 l1 l2
    have hy : ps[1]? = some y := by rw [ep]; rfl
    have hz : ps[2]? = some z := by rw [ep]; rfl
    have my := List.mem_of_getElem? hy
    have mz := List.mem_of_getElem? hz
    rw [ep] at q
    have q : RetP Q H m (nameOf y >>= fun n' => rdIdx n z >>= fun x => (.ok (n', x) : Rd (Str × PyData))) := q
    unfold RetP at q
    rw [err2] at q
    refine ⟨rfl, _, rfl, iteF ⟨_, rfl, ?_⟩⟩
    refine part_at (i := 1) (k := 1) (by rfl) g2.n hy (by rfl) (fun u hu => ?_)
    refine ⟨m, none, u, y, rfl, Gv.part g.good g.wt my b2 hu, fun v3 H3 f3 b3 t3 => ?_⟩
    have f03 := f02.trans f3
    have b3 : Bad H3 m (err (nameOf y)) := b3
    refine ⟨_, rfl, _, rfl, ?_⟩
    refine part_at (i := 1) (k := 2) (by rfl) (nd.fr f03 _ _ g.n) hz (by rfl) (fun u2 hu2 => ?_)
    refine ⟨m, _, u2, z, rfl, Gv.part g.good g.wt mz b3 hu2, depth_part dep mz, fun v4 H4 f4 b4 t4 => ⟨lb rfl, fun p hp => ?_⟩⟩
    refine q p v3 v4 _ ((f03.trans f4).trans (Fr.new hp)) upd_same (b4.new hp) (fun d e => ?_)
    obtain ⟨d1, d2, r1, r2, rfl⟩ := ok2 e
    exact ⟨t3 d1 r1, Tv.fr (Fr.new hp) _ _ (t4 d2 (err_none r1) r2)⟩
/-- ('place',) + a place -/
theorem cat_place {K : PySem.W.Frag} {H H' : Hp} {t p : Addr} {v1 v2 : V} {Q : VK} (ht : H t = some (.tup [.str (S "place")])) (f : Fr H H') (hp : H' p = some (.tup [v1, v2]))
    (q : ∀ a, H' a = none → Q (.ref a) (upd H' a (.tup [.str (S "place"), v1, v2]))) : rCatT K (.ref t) (.ref p) H' Q :=
  ⟨t, p, _, _, rfl, rfl, SqT.of (f.tup ht), SqT.of hp, by simp, lb rfl, fun z => by simp at z, fun _ a ha => q a ha⟩
theorem has__law_read_expression (F : Facts w K mg) : ∀ n : Nat, Has P w K mg base CX0 (n + 7) "_law_read_expression" pLawReadExpression (spLRead n (rdExpr n))
  | 0 => by
    refine has_0 F.g__law_read_expression F.f__law_read_expression scLawReadExpression bLawReadExpression (fun vs H Q E h => by obtain ⟨_, _, _, _, rfl, _⟩ := h; rfl) fun cdv A outer s H vs Q E hr h => ?_
    obtain ⟨m, st, v, x, rfl, g, d, q⟩ := h
    exact absurd d (Nat.not_lt_zero _)
  | n + 1 => by
    have h__law_read_expression := has__law_read_expression F n
    have h__law_read_place := has__law_read_place (P := P) (base := base) F (n + 1)
    have h__law_list := has__law_list (P := P) (base := base) F
    have h__law_first := has__law_first (P := P) (base := base) F
    have h__law_valued := has__law_valued (P := P) (base := base) F
    refine has_0 F.g__law_read_expression F.f__law_read_expression scLawReadExpression bLawReadExpression (fun vs H Q E h => by obtain ⟨_, _, _, _, rfl, _⟩ := h; rfl) fun cdv A outer s H vs Q E hr h => ?_
    obtain ⟨m, st, v, x, rfl, g, dep, q⟩ := h
    have hu := hu_of hr
    refine ⟨_, (pss_cons (ps_if (pt_cmpR op_ge (pe_dget hu (pv 0) pe_str (fun _ _ => rfl)) pe_int (nomark _)) (pss_one (ps_ret pe_non))
      pss_nil)
    (pss_cons (ps_if (PW.pt (pw_and (pt_val (pe_callB call_isi (by rfl) F.z_isinstance (by decide +kernel) (pa_cons (pe_ix ix_tup (pv 1) pe_int (fun _ _ => rfl)) (pa_cons (pe_bltn (v := .ty "str") (by rfl) F.z_str (by decide +kernel) rfl) pa_nil)))) (pw_and1 (pt_cmpR op_ge (pe_callH h__law_valued hr (by omega) rfl pass0 (pa_cons (pe_ix ix_tup (pv 1) pe_int (fun _ _ => rfl)) (pa_cons pe_int (pa_cons pe_int pa_nil)))) pe_int (nomark _))))) (pss_one (ps_ret (pe_tup (pa_cons pe_str (pa_cons (pe_callTy call_int_str (by rfl) F.z_int (by decide +kernel) (pa_cons (pe_ix ix_tup (pv 1) pe_int (fun _ _ => rfl)) pa_nil)) pa_nil)))))
      pss_nil)
    (pss_cons (ps_if (pt_val (pe_callB call_isi (by rfl) F.z_isinstance (by decide +kernel) (pa_cons (pe_ix ix_tup (pv 1) pe_int (fun _ _ => rfl)) (pa_cons (pe_bltn (v := .ty "str") (by rfl) F.z_str (by decide +kernel) rfl) pa_nil)))) (pss_one (ps_ret (pe_op op_catT (pe_tup (pa_cons pe_str pa_nil)) (pe_callH h__law_read_place hr (by omega) rfl pass0 (pa_cons (pv 0) (pa_cons (pv 1) pa_nil))))))
      pss_nil)
    (pss_cons (ps_set (i := 2) scLawReadExpression.nd rfl (Or.inl rfl) (pe_callH h__law_first hr (by omega) rfl pass0 (pa_cons (pv 0) (pa_cons (pv 1) (pa_cons (pe_lst (pa_cons pe_str (pa_cons pe_str (pa_cons pe_str (pa_cons pe_str (pa_cons pe_str pa_nil)))))) pa_nil)))))
    (pss_cons (ps_if (pt_cmpR op_isN (pv 2) pe_non (nomark _)) (pss_one (ps_ret pe_non))
      pss_nil)
    (pss_cons (ps_if (pt_cmpR op_eq (pv 2) pe_str (nomark _)) (pss_one (ps_ret (pe_op op_catT (pe_tup (pa_cons pe_str pa_nil)) (pe_callH h__law_read_place hr (by omega) rfl pass0 (pa_cons (pv 0) (pa_cons (pv 1) pa_nil))))))
      pss_nil)
    (pss_cons (ps_if (pt_cmpR op_isN (pe_callH h__law_list hr (by omega) rfl pass0 (pa_cons (pv 0) (pa_cons (pv 1) (pa_cons pe_int (pa_cons pe_int pa_nil))))) pe_non (nomark _)) (pss_one (ps_ret pe_non))
      pss_nil)
    (pss_cons (ps_set (i := 3) scLawReadExpression.nd rfl (Or.inl rfl) (pe_callH h__law_read_expression hr (by omega) rfl pass0 (pa_cons (pv 0) (pa_cons (pe_ix ix_list (pe_ix ix_tup (pv 1) pe_int (fun _ _ => rfl)) pe_int (fun _ _ => rfl)) pa_nil))))
    (pss_one (ps_ret (pe_tup (pa_cons (pv 2) (pa_cons (pv 3) (pa_cons (pe_callH h__law_read_expression hr (by omega) rfl pass0 (pa_cons (pv 0) (pa_cons (pe_ix ix_list (pe_ix ix_tup (pv 1) pe_int (fun _ _ => rfl)) pe_int (fun _ _ => rfl)) pa_nil))) pa_nil)))))))))))))), ?_⟩
    refine bad_ge (by rfl) g.bad ?_
    rw [rdExpr] at q
    cases st with
    | some e => exact iteT (q _ _ (Fr.refl _) g.bad (fun d z => nomatch z))
    | none =>
    have q : Ret Q H m (exprStep (rdIdx (n + 1)) (rdExpr n) x) := .of q
    refine iteF ?_
    refine is_w (i := 1) (by rfl) g.n ?_
    cases x with
    | word w i =>
      simp only [exprStep] at q
      refine iteT ?_
      refine word_at (i := 1) (by rfl) g.n ?_
      refine ⟨w, _, _, rfl, g.len, fun H1 s1 => ⟨_, _, rfl, rfl, _, rfl, ite2 (fun h2 => ?_) (fun h2 => ?_)⟩⟩
      · have h2 : (0 : Int) ≤ (numIn w 0 2147483646).getD (-1) := of_decide_eq_true h2
        cases e : numIn w 0 2147483646 with
        | none => exact absurd h2 (getD_none e)
        | some k =>
          obtain ⟨e1, e2, _⟩ := numIn_some e
          obtain ⟨t1, t2⟩ := isNum_text e1
          rw [e] at q
          refine word_at (i := 1) (by rfl) (nd.fr (frS s1) _ _ g.n) ?_
          refine ⟨w, _, rfl, t1, t2, lb rfl, fun p hp => q _ _ (frS (s1.trans (sameNew hp))) (g.bad.same (s1.trans (sameNew hp))) (fun d e => ?_)⟩
          cases e
          rw [e2]
          exact dp_tup hp (.cons (.str _) (.cons (.int _) .nil))
      · have h2 : ¬ (0 : Int) ≤ (numIn w 0 2147483646).getD (-1) := by simpa using h2
        cases e : numIn w 0 2147483646 with
        | some k => exact absurd (getD_some e (Int.le_refl 0)) h2
        | none =>
          rw [e] at q
          refine is_w (i := 1) (by rfl) (nd.fr (frS s1) _ _ g.n) ?_
          refine iteT ⟨lb rfl, fun t ht => ⟨_, rfl, _, rfl, m, none, v, _, rfl, g.fr (frS (s1.trans (sameNew ht))) (g.bad.same (s1.trans (sameNew ht))), Nat.lt_succ_of_lt dep, fun p v1 v2 H' f hp b tv => ?_⟩⟩
          refine cat_place upd_same f hp (fun a ha => ?_)
          simp only [plcStep] at b tv
          have f' := (((frS s1).trans (Fr.new ht)).trans f).trans (Fr.new (o := .tup [.str (S "place"), v1, v2]) ha)
          by_cases h3 : isName w = true
          · simp only [if_pos h3] at q b tv
            refine q _ _ f' (b.new ha) (fun d e => ?_)
            cases e
            obtain ⟨e1, e2⟩ := tv _ trivial rfl
            rw [e1]
            exact dp_tup ha (.cons (.str _) (.cons (.str _) (.cons e2 .nil)))
          · simp only [if_neg h3] at q b tv
            exact q _ _ f' (b.new ha) (fun d e => nomatch e)
    | form ps i =>
      refine iteF ?_
      refine is_w (i := 1) (by rfl) g.n ?_
      refine iteF ⟨_, rfl, _, rfl, lb rfl, fun wl hwl => ?_⟩
      have sw := sameNew (o := .lst [.str (S "at"), .str (S "add"), .str (S "sub"), .str (S "mul"), .str (S "div")]) hwl
      refine ⟨m, none, v, _, wl, wExpr, rfl, g.fr (frS sw) (g.bad.same sw), upd_same, fun v' H1 f1 b1 ev => ?_⟩
      have f01 := (frS sw).trans f1
      simp only [exprStep] at q
      cases e1 : firstIn wExpr (.form ps i) with
      | error j =>
        rw [e1] at b1 ev q
        rw [ev]
        exact ⟨_, rfl, rfl, _, rfl, iteT (q.bad rfl f01 b1)⟩
      | ok h =>
      rw [e1] at b1 ev q
      rw [ev]
      have q : Ret Q H m (if h = S "at" then (plcStep (rdIdx (n + 1)) (.form ps i) >>= fun p => (.ok (.tuple [.str (S "place"), .str p.1, p.2]) : Rd PyData)) else (partsIn 3 3 (.form ps i) >>= fun ps => match ps with
        | [_, a, b] => (rdExpr n a >>= fun x => rdExpr n b >>= fun y => (.ok (.tuple [.str h, x, y]) : Rd PyData))
        | _ => .error i)) := q
      have g1 := g.fr f01 b1
      refine ⟨_, rfl, rfl, _, rfl, iteF ⟨_, rfl, rfl, _, rfl, ite2 (fun c => ?_) (fun c => ?_)⟩⟩
      · have c : h = S "at" := by rw [str_eq] at c; exact of_decide_eq_true c
        rw [if_pos c] at q
        unfold Ret at q
        rw [err1] at q
        refine ⟨lb rfl, fun t ht => ⟨_, rfl, _, rfl, m, none, v, _, rfl, g1.fr (Fr.new ht) (b1.new ht), Nat.lt_succ_of_lt dep, fun p v1 v2 H' f hp b tv => ?_⟩⟩
        refine cat_place upd_same f hp (fun a ha => ?_)
        refine q _ _ (((f01.trans (Fr.new ht)).trans f).trans (Fr.new ha)) (b.new ha) (fun d e => ?_)
        obtain ⟨d1, r1, rfl⟩ := ok1 e
        obtain ⟨e1, e2⟩ := tv _ rfl r1
        rw [e1]
        exact dp_tup ha (.cons (.str _) (.cons (.str _) (.cons e2 .nil)))
      have c : ¬ h = S "at" := by rw [str_eq] at c; simpa using c
      rw [if_neg c] at q
      refine ⟨_, rfl, _, rfl, m, none, v, _, 3, 3, rfl, g1, fun v2 H2 f2 b2 o2 => ?_⟩
      have f02 := f01.trans f2
      cases e2 : partsIn 3 3 (.form ps i) with
      | error j =>
        rw [e2] at b2 o2 q
        rw [show v2 = .non from o2]
        exact ⟨rfl, _, rfl, iteT (q.bad rfl f02 b2)⟩
      | ok ps' =>
      obtain ⟨i2, ex, l1, l2⟩ := parts_form e2
      cases ex
      rw [e2] at b2 o2 q
      obtain ⟨l, us, rfl, _, _⟩ := o2
      have g2 := g.fr f02 b2
      obtain ⟨x0, y, z, ep⟩ := len3 l1 l2
      have hy : ps[1]? = some y := by rw [ep]; rfl
      have hz : ps[2]? = some z := by rw [ep]; rfl
      have my := List.mem_of_getElem? hy
      have mz := List.mem_of_getElem? hz
      rw [ep] at q
      have q : Ret Q H m (rdExpr n y >>= fun x => rdExpr n z >>= fun y => (.ok (.tuple [.str h, x, y]) : Rd PyData)) := q
      unfold Ret at q
      rw [err2] at q
      refine ⟨rfl, _, rfl, iteF ⟨_, rfl, ?_⟩⟩
      refine part_at (i := 1) (k := 1) (by rfl) g2.n hy (by rfl) (fun u hu => ?_)
      refine ⟨m, none, u, y, rfl, Gv.part g.good g.wt my b2 hu, depth_part dep my, fun v3 H3 f3 b3 t3 => ?_⟩
      have f03 := f02.trans f3
      have b3 : Bad H3 m (err (rdExpr n y)) := b3
      refine ⟨_, rfl, _, rfl, _, rfl, ?_⟩
      refine part_at (i := 1) (k := 2) (by rfl) (nd.fr f03 _ _ g.n) hz (by rfl) (fun u2 hu2 => ?_)
      refine ⟨m, _, u2, z, rfl, Gv.part g.good g.wt mz b3 hu2, depth_part dep mz, fun v4 H4 f4 b4 t4 => ⟨lb rfl, fun p hp => ?_⟩⟩
      refine q _ _ ((f03.trans f4).trans (Fr.new hp)) (b4.new hp) (fun d e => ?_)
      obtain ⟨d1, d2, r1, r2, rfl⟩ := ok2 e
      exact dp_tup hp (.cons (.str _) (.cons (Tv.fr f4 _ _ (t3 d1 rfl r1)) (.cons (t4 d2 (err_none r1) r2) .nil)))
theorem has__law_read_test (F : Facts w K mg) : ∀ n : Nat, Has P w K mg base CX0 (n + 9) "_law_read_test" pLawReadTest (spLRead n (rdTest n))
  | 0 => by
    refine has_0 F.g__law_read_test F.f__law_read_test scLawReadTest bLawReadTest (fun vs H Q E h => by obtain ⟨_, _, _, _, rfl, _⟩ := h; rfl) fun cdv A outer s H vs Q E hr h => ?_
    obtain ⟨m, st, v, x, rfl, g, d, q⟩ := h
    exact absurd d (Nat.not_lt_zero _)
  | n + 1 => by
    have h__law_read_test := has__law_read_test F n
    have h__law_read_index := has__law_read_index (P := P) (base := base) F (n + 1)
    have h__law_read_expression := has__law_read_expression (P := P) (base := base) F (n + 1)
    have h__law_list := has__law_list (P := P) (base := base) F
    have h__law_first := has__law_first (P := P) (base := base) F
    refine has_0 F.g__law_read_test F.f__law_read_test scLawReadTest bLawReadTest (fun vs H Q E h => by obtain ⟨_, _, _, _, rfl, _⟩ := h; rfl) fun cdv A outer s H vs Q E hr h => ?_
    obtain ⟨m, st, v, x, rfl, g, dep, q⟩ := h
    have hu := hu_of hr
    refine ⟨_, (pss_cons (ps_set (i := 2) scLawReadTest.nd rfl (Or.inl rfl) pe_non)
    (pss_cons (ps_if (pt_cmpR op_lt (pe_dget hu (pv 0) pe_str (fun _ _ => rfl)) pe_int (nomark _)) (pss_one (ps_set (i := 2) scLawReadTest.nd rfl (Or.inl rfl) (pe_callH h__law_first hr (by omega) rfl pass0 (pa_cons (pv 0) (pa_cons (pv 1) (pa_cons (pe_lst (pa_cons pe_str (pa_cons pe_str (pa_cons pe_str (pa_cons pe_str pa_nil))))) pa_nil))))))
      pss_nil)
    (pss_cons (ps_set (i := 3) scLawReadTest.nd rfl (Or.inl rfl) (pe_ifExp (pt_cmpR op_in_seq (pv 2) (pe_tup (pa_cons pe_str (pa_cons pe_str pa_nil))) (by rfl)) pe_int pe_int))
    (pss_cons (ps_if (PW.pt (pw_or (pt_cmpR op_isN (pv 2) pe_non (nomark _)) (pw_or1 (pt_cmpR op_isN (pe_callH h__law_list hr (by omega) rfl pass0 (pa_cons (pv 0) (pa_cons (pv 1) (pa_cons (pv 3) (pa_cons (pv 3) pa_nil))))) pe_non (nomark _))))) (pss_one (ps_ret pe_non))
      pss_nil)
    (pss_cons (ps_if (pt_cmpR op_eq (pv 2) pe_str (nomark _)) (pss_one (ps_ret (pe_tup (pa_cons (pv 2) (pa_cons (pe_callH h__law_read_expression hr (by omega) rfl pass0 (pa_cons (pv 0) (pa_cons (pe_ix ix_list (pe_ix ix_tup (pv 1) pe_int (fun _ _ => rfl)) pe_int (fun _ _ => rfl)) pa_nil))) pa_nil)))))
      pss_nil)
    (pss_cons (ps_if (pt_cmpR op_eq (pv 2) pe_str (nomark _)) (pss_one (ps_ret (pe_tup (pa_cons (pv 2) (pa_cons (pe_callH h__law_read_test hr (by omega) rfl pass0 (pa_cons (pv 0) (pa_cons (pe_ix ix_list (pe_ix ix_tup (pv 1) pe_int (fun _ _ => rfl)) pe_int (fun _ _ => rfl)) pa_nil))) pa_nil)))))
      pss_nil)
    (pss_cons (ps_set (i := 4) scLawReadTest.nd rfl (Or.inl rfl) (pe_callH h__law_read_index hr (by omega) rfl pass0 (pa_cons (pv 0) (pa_cons (pe_ix ix_list (pe_ix ix_tup (pv 1) pe_int (fun _ _ => rfl)) pe_int (fun _ _ => rfl)) pa_nil))))
    (pss_one (ps_ret (pe_tup (pa_cons (pv 2) (pa_cons (pv 4) (pa_cons (pe_callH h__law_read_index hr (by omega) rfl pass0 (pa_cons (pv 0) (pa_cons (pe_ix ix_list (pe_ix ix_tup (pv 1) pe_int (fun _ _ => rfl)) pe_int (fun _ _ => rfl)) pa_nil))) pa_nil))))))))))))), ?_⟩
    refine bad_lt (by rfl) g.bad ?_
    rw [rdTest] at q
    cases st with
    | some e =>
      refine iteF ⟨_, rfl, lb rfl, fun t ht => ⟨_, _, rfl, .inr (SqT.of upd_same), rfl, rfl, _, rfl, iteF ⟨_, rfl, rfl, _, rfl, iteT (iteT (q _ _ (Fr.new ht) (g.bad.new ht) (fun d z => nomatch z)))⟩⟩⟩
    | none =>
    have q : Ret Q H m (testStep (rdIdx (n + 1)) (rdExpr (n + 1)) (rdTest n) x) := .of q
    refine iteT ⟨_, rfl, _, rfl, lb rfl, fun wl hwl => ?_⟩
    have sw := sameNew (o := .lst [.str (S "less"), .str (S "equal"), .str (S "zero"), .str (S "not")]) hwl
    refine ⟨m, none, v, _, wl, wTest, rfl, g.fr (frS sw) (g.bad.same sw), upd_same, fun v' H1 f1 b1 ev => ?_⟩
    have f01 := (frS sw).trans f1
    unfold testStep at q
    cases e1 : firstIn wTest x with
    | error j =>
      rw [e1] at b1 ev q
      rw [ev]
      exact ⟨_, rfl, lb rfl, fun t ht => ⟨_, _, rfl, .inr (SqT.of upd_same), rfl, rfl, _, rfl, iteF ⟨_, rfl, rfl, _, rfl, iteT (iteT (q.bad rfl (f01.trans (Fr.new ht)) (b1.new ht)))⟩⟩⟩
    | ok h =>
    rw [e1] at b1 ev q
    rw [ev]
    obtain ⟨jj, rr, ii, ex, hm⟩ := first_form e1
    have q : Ret Q H m (if h = S "less" ∨ h = S "equal" then (partsIn 3 3 x >>= fun ps => match ps with
        | [_, a, b] => (rdIdx (n + 1) a >>= fun x => rdIdx (n + 1) b >>= fun y => (.ok (.tuple [.str h, x, y]) : Rd PyData))
        | _ => .error x.at)
      else (partsIn 2 2 x >>= fun ps => match ps with
        | [_, a] => ((if h = S "zero" then rdExpr (n + 1) a else rdTest n a) >>= fun x => (.ok (.tuple [.str h, x]) : Rd PyData))
        | _ => .error x.at)) := q
    refine ⟨_, rfl, lb rfl, fun t ht => ⟨_, _, rfl, .inr (SqT.of upd_same), rfl, rfl, _, rfl, iteIn (l := [S "less", S "equal"]) rfl (fun c => ?_) (fun c => ?_)⟩⟩
    · have c : h = S "less" ∨ h = S "equal" := by simpa using c
      rw [if_pos c] at q
      have f1t := f01.trans (Fr.new (o := .tup [.str (S "less"), .str (S "equal")]) ht)
      have g1 := g.fr f1t (b1.new ht)
      refine ⟨_, rfl, rfl, _, rfl, iteF ⟨_, rfl, _, rfl, _, rfl, _, rfl, m, none, v, _, 3, 3, rfl, g1, fun v2 H2 f2 b2 o2 => ?_⟩⟩
      have f02 := f1t.trans f2
      cases e2 : partsIn 3 3 x with
      | error j =>
        rw [e2] at b2 o2 q
        rw [show v2 = .non from o2]
        exact ⟨rfl, _, rfl, iteT (q.bad rfl f02 b2)⟩
      | ok ps' =>
      obtain ⟨i2, ex, l1, l2⟩ := parts_form e2
      rw [e2] at b2 o2 q
      subst ex
      obtain ⟨l, us, rfl, _, _⟩ := o2
      have g2 := g.fr f02 b2
      obtain ⟨x0, y, z, ep⟩ := len3 l1 l2
      have hy : ps'[1]? = some y := by rw [ep]; rfl
      have hz : ps'[2]? = some z := by rw [ep]; rfl
      have my := List.mem_of_getElem? hy
      have mz := List.mem_of_getElem? hz
      rw [ep] at q
      have q : Ret Q H m (rdIdx (n + 1) y >>= fun x => rdIdx (n + 1) z >>= fun y => (.ok (.tuple [.str h, x, y]) : Rd PyData)) := q
      unfold Ret at q
      rw [err2] at q
      have c1 : ¬ h = S "zero" := fun z => by rw [z] at c; exact absurd c (by decide +kernel)
      have c2 : ¬ h = S "not" := fun z => by rw [z] at c; exact absurd c (by decide +kernel)
      refine ⟨rfl, _, rfl, iteF ⟨_, rfl, rfl, _, rfl, ite2 (fun z => absurd (by rw [str_eq] at z; exact of_decide_eq_true z) c1) (fun _ => ⟨_, rfl, rfl, _, rfl, ite2 (fun z => absurd (by rw [str_eq] at z; exact of_decide_eq_true z) c2) (fun _ => ⟨_, rfl, ?_⟩)⟩)⟩⟩
      refine part_at (i := 1) (k := 1) (by rfl) g2.n hy (by rfl) (fun u hu => ?_)
      refine ⟨m, none, u, y, rfl, Gv.part g.good g.wt my b2 hu, Nat.lt_succ_of_lt (depth_part dep my), fun v3 H3 f3 b3 t3 => ?_⟩
      have f03 := f02.trans f3
      have b3 : Bad H3 m (err (rdIdx (n + 1) y)) := b3
      refine ⟨_, rfl, _, rfl, _, rfl, ?_⟩
      refine part_at (i := 1) (k := 2) (by rfl) (nd.fr f03 _ _ g.n) hz (by rfl) (fun u2 hu2 => ?_)
      refine ⟨m, _, u2, z, rfl, Gv.part g.good g.wt mz b3 hu2, Nat.lt_succ_of_lt (depth_part dep mz), fun v4 H4 f4 b4 t4 => ⟨lb rfl, fun p hp => ?_⟩⟩
      refine q _ _ ((f03.trans f4).trans (Fr.new hp)) (b4.new hp) (fun d e => ?_)
      obtain ⟨d1, d2, r1, r2, rfl⟩ := ok2 e
      exact dp_tup hp (.cons (.str _) (.cons (Tv.fr f4 _ _ (t3 d1 rfl r1)) (.cons (t4 d2 (err_none r1) r2) .nil)))
    · have c : ¬ (h = S "less" ∨ h = S "equal") := by simpa using c
      rw [if_neg c] at q
      have f1t := f01.trans (Fr.new (o := .tup [.str (S "less"), .str (S "equal")]) ht)
      have g1 := g.fr f1t (b1.new ht)
      refine ⟨_, rfl, rfl, _, rfl, iteF ⟨_, rfl, _, rfl, _, rfl, _, rfl, m, none, v, _, 2, 2, rfl, g1, fun v2 H2 f2 b2 o2 => ?_⟩⟩
      have f02 := f1t.trans f2
      cases e2 : partsIn 2 2 x with
      | error j =>
        rw [e2] at b2 o2 q
        rw [show v2 = .non from o2]
        exact ⟨rfl, _, rfl, iteT (q.bad rfl f02 b2)⟩
      | ok ps' =>
      obtain ⟨i2, ex, l1, l2⟩ := parts_form e2
      rw [e2] at b2 o2 q
      subst ex
      obtain ⟨l, us, rfl, _, _⟩ := o2
      have g2 := g.fr f02 b2
      obtain ⟨x0, y, ep⟩ := len2 l1 l2
      have hy : ps'[1]? = some y := by rw [ep]; rfl
      have my := List.mem_of_getElem? hy
      rw [ep] at q
      have q : Ret Q H m ((if h = S "zero" then rdExpr (n + 1) y else rdTest n y) >>= fun x => (.ok (.tuple [.str h, x]) : Rd PyData)) := q
      refine ⟨rfl, _, rfl, iteF ⟨_, rfl, rfl, _, rfl, ite2 (fun c1 => ?_) (fun c1 => ?_)⟩⟩
      · have c1 : h = S "zero" := by rw [str_eq] at c1; exact of_decide_eq_true c1
        rw [if_pos c1] at q
        unfold Ret at q
        rw [err1] at q
        refine ⟨_, rfl, _, rfl, ?_⟩
        refine part_at (i := 1) (k := 1) (by rfl) g2.n hy (by rfl) (fun u hu => ?_)
        refine ⟨m, none, u, y, rfl, Gv.part g.good g.wt my b2 hu, Nat.lt_succ_of_lt (depth_part dep my), fun v3 H3 f3 b3 t3 => ⟨lb rfl, fun p hp => ?_⟩⟩
        refine q _ _ ((f02.trans f3).trans (Fr.new hp)) (b3.new hp) (fun d e => ?_)
        obtain ⟨d1, r1, rfl⟩ := ok1 e
        exact dp_tup hp (.cons (.str _) (.cons (t3 d1 rfl r1) .nil))
      · have c1 : ¬ h = S "zero" := by rw [str_eq] at c1; simpa using c1
        rw [if_neg c1] at q
        unfold Ret at q
        rw [err1] at q
        have c2 : h = S "not" := by
          simp only [wTest, List.mem_cons, List.not_mem_nil, or_false] at hm
          rcases hm with z | z | z | z
          · exact absurd (.inl z) c
          · exact absurd (.inr z) c
          · exact absurd z c1
          · exact z
        refine ⟨_, rfl, rfl, _, rfl, ite2 (fun _ => ?_) (fun z => absurd (by rw [str_eq]; exact decide_eq_true c2) z)⟩
        refine ⟨_, rfl, _, rfl, ?_⟩
        refine part_at (i := 1) (k := 1) (by rfl) g2.n hy (by rfl) (fun u hu => ?_)
        refine ⟨m, none, u, y, rfl, Gv.part g.good g.wt my b2 hu, depth_part dep my, fun v3 H3 f3 b3 t3 => ⟨lb rfl, fun p hp => ?_⟩⟩
        refine q _ _ ((f02.trans f3).trans (Fr.new hp)) (b3.new hp) (fun d e => ?_)
        obtain ⟨d1, r1, rfl⟩ := ok1 e
        exact dp_tup hp (.cons (.str _) (.cons (t3 d1 rfl r1) .nil))
end
end K10
set_option maxHeartbeats 16000000
/-! K10Law5: the law's own reader: bodies, statements. Printed by expand.py from K10Law5.tpl. -/
namespace K10
open PySem PySem.Spec PyProof.Rows L2
theorem rdAll_snoc (f : Node → Rd PyData) : ∀ (l : List Node) (y : Node), rdAll f (l ++ [y]) = (rdAll f l >>= fun ds => f y >>= fun d => (.ok (ds ++ [d]) : Rd (List PyData)))
  | [], y => by
    rw [List.nil_append, rdAll, rdAll]
    cases f y <;> rfl
  | n :: r, y => by
    rw [List.cons_append, rdAll, rdAll, rdAll_snoc f r y]
    cases f n with
    | error e => rfl
    | ok x =>
      cases rdAll f r with
      | error e => rfl
      | ok xs => cases f y <;> rfl
def Oks (n : Nat) (ps : List Node) : Prop := ∀ y ∈ ps, y.good ∧ y.wt ≤ 6000 ∧ y.depth < n
/-- [f(m, part) for part in parts], f a reader with its fault told in m -/
theorem lc_law {K : PySem.W.Frag} {l D m : Addr} {us : List V} {ps : List Node} {i : Nat} {te : TE} {ws : List Nat} {σ : L2.St} {H1 : Hp} {Qd : Hp → Prop} {rd : Node → Rd PyData} {st : Option Int}
    (hl : H1 l = some (.lst us)) (hn : nds H1 us ps) (hz : us.length ≤ 6000) (hD : H1 D = none) (hb : Bad H1 m st)
    (ht : ∀ v y H st' Q, y ∈ ps → Fr H1 H → nd H v y → Bad H m st' → (∀ v' H', Fr H H' → Bad H' m (orE st' (err (rd y))) → (∀ d, st' = none → rd y = .ok d → Tv H' v' d) → Q v' H') → te ((wipe σ ws).set i (some v)) H Q)
    (hd : ∀ H us', Fr H1 H → H D = some (.lst us') → Bad H m (orE st (err (rdAll rd ps))) → (∀ ds, st = none → rdAll rd ps = .ok ds → TvAll H us' ds) → Qd H)
    (hw : ∀ v, wipe ((wipe σ ws).set i (some v)) ws = wipe σ ws := by intro _; rfl) :
    ∃ W : Nat → Nat → Hp → Prop, (∃ m, W 0 m (upd H1 D (.lst []))) ∧ ∀ i' m H, W i' m H →
      ((Itl K l).stop i' H ∧ Qd H) ∨ ((Itl K l).go i' H ∧ ∃ Nx : Hp → Prop, (∀ H', Nx H' → ∃ m', m' < m ∧ W (i' + 1) m' H') ∧ ∀ x H', (Itl K l).yld i' H x H' → gName i x (wipe σ ws) H' fun σ2 H2 => wipe σ2 ws = wipe σ ws ∧ tYes σ2 H2 fun b H3 =>
        if b = true then te σ2 H3 fun y H4 => ∃ acc, H4 D = some (.lst acc) ∧ acc.length < sizeLine ∧ Nx (upd H4 D (.lst (acc ++ [y]))) else Nx H3) := by
  refine lc_list (xs := us) (fun k H => ∃ us', Fr H1 H ∧ H D = some (.lst us') ∧ us'.length = k ∧ Bad H m (orE st (err (rdAll rd (ps.take k)))) ∧ (∀ ds, st = none → rdAll rd (ps.take k) = .ok ds → TvAll H us' ds))
    ⟨[], Fr.at_new (Fr.refl _) hD, upd_same, rfl, ?_, fun ds _ e => ?_⟩ (fun k H _ h => ?_) (fun k x H hx h => ?_) (fun H h => ?_)
  · show Bad _ m (orE st none)
    rw [orE_none]; exact hb.new hD
  · rw [List.take_zero] at e
    cases e; exact .nil
  · obtain ⟨us', f, _⟩ := h
    exact SqL.of (f.lst hl)
  · obtain ⟨us', f, hd', hk, hb', hv⟩ := h
    obtain ⟨y, hy, hny⟩ := nds.back hn hx
    refine ⟨hw x, ?_⟩
    show te _ _ _
    have hkl : k < us.length := (List.getElem?_eq_some_iff.mp hx).1
    have etake : ps.take (k + 1) = ps.take k ++ [y] := by rw [List.take_add_one, hy]; rfl
    refine ht x y H _ _ (List.mem_of_getElem? hy) f (nd.fr f _ _ hny) hb' (fun v' H' f' b' t' => ?_)
    have hd2 := f'.lst hd'
    have ft : Ft H' (upd H' D (.lst (us' ++ [v']))) := Ft.upd hd2 (fun _ z => nomatch z)
    refine ⟨us', hd2, by rw [line_eq]; omega, us' ++ [v'], Fr.at_new (f.trans f') hD, upd_same, by simp [hk], ?_, fun ds hs e => ?_⟩
    · rw [etake, rdAll_snoc, err2, ← orE_assoc]
      exact b'.upd hd2 (fun _ z => nomatch z)
    · rw [etake, rdAll_snoc] at e
      obtain ⟨d1, d2, r1, r2, rfl⟩ := ok2 e
      have z : orE st (err (rdAll rd (ps.take k))) = none := by rw [hs, r1]; rfl
      exact (TvAll.ft ft _ _ (TvAll.fr f' _ _ (hv d1 hs r1))).append (.cons (Tv.ft ft _ _ (t' d2 z r2)) .nil)
  · obtain ⟨us', f, hd', hk, hb', hv⟩ := h
    rw [nds.length hn, List.take_length] at hb' hv
    exact hd H us' f hd' hb' hv
def partsL (x : Node) : List Node := match partsIn 0 inf x with
  | .ok ps => ps
  | .error _ => []
theorem parts_9999 {lo : Nat} {x : Node} (g : x.good) (w : x.wt ≤ 6000) : partsIn lo 9999 x = partsIn lo inf x := by
  cases x with
  | word w i => rfl
  | form ps i =>
    rw [Node.good] at g
    rw [Node.wt] at w
    have := len_le_wts g.1
    unfold inf
    simp only [partsIn]
    by_cases h : lo ≤ ps.length
    · rw [if_pos (by omega), if_pos (by omega)]
    · rw [if_neg (by omega), if_neg (by omega)]
theorem body_err (rd : Node → Rd PyData) (x : Node) : err (body rd x) = orE (err (partsIn 0 inf x)) (err (rdAll rd (partsL x))) := by
  unfold body partsL
  cases e : partsIn 0 inf x with
  | error i => rfl
  | ok l =>
    show err (rdAll rd l >>= fun xs => (.ok (.tuple xs) : Rd PyData)) = _
    rw [err1]
    rfl
theorem body_ok {rd : Node → Rd PyData} {x : Node} {d : PyData} (h : body rd x = .ok d) : ∃ ds, partsIn 0 inf x = .ok (partsL x) ∧ rdAll rd (partsL x) = .ok ds ∧ d = .tuple ds := by
  unfold body at h
  cases e : partsIn 0 inf x with
  | error i => rw [e] at h; cases h
  | ok l =>
    rw [e] at h
    have el : partsL x = l := by unfold partsL; rw [e]
    rw [el]
    obtain ⟨ds, r, rfl⟩ := ok1 (r1 := rdAll rd l) (f := PyData.tuple) h
    exact ⟨ds, rfl, r, rfl⟩
theorem parts_oks {n : Nat} {x : Node} (g : x.good) (w : x.wt ≤ 6000) (d : x.depth < n) : Oks n (partsL x) ∧ (partsL x).length ≤ 6000 := by
  unfold partsL
  cases e : partsIn 0 inf x with
  | error i => exact ⟨fun y hy => absurd (show y ∈ ([] : List Node) from hy) (by simp), Nat.zero_le _⟩
  | ok l =>
    obtain ⟨i, rfl, _, hl⟩ := parts_form e
    rw [Node.good] at g
    rw [Node.wt] at w
    rw [Node.depth] at d
    refine ⟨fun y hy => ?_, hl⟩
    have hy : y ∈ l := hy
    refine ⟨good_mem g.1 hy, ?_, ?_⟩
    · have := wt_mem hy; omega
    · have := depth_mem hy; omega
/-- given or [] -/
theorem or_list {K : PySem.W.Frag} {σ : L2.St} {H : Hp} {i : Nat} {u v : V} {x : Node} {Q : VK} (hs : σ[i]? = some (some v)) (o : LOut H u v (partsIn 0 inf x))
    (q : ∀ l us H', Same H H' → H' l = some (.lst us) → nds H' us (partsL x) → Q (.ref l) H') : tOrT K (tVar i) (tLst tNil) σ H Q := by
  unfold partsL at q
  cases e : partsIn 0 inf x with
  | error j =>
    rw [e] at o q
    rw [show v = .non from o] at hs
    exact ⟨_, hs, false, rfl, iteF ⟨lb rfl, fun p hp => q p [] _ (sameNew hp) upd_same rfl⟩⟩
  | ok ps =>
    rw [e] at o q
    obtain ⟨l, us, rfl, hl, hn, _⟩ := o
    cases us with
    | nil =>
      refine ⟨_, hs, false, .inl ⟨[], SqL.of hl, rfl⟩, iteF ⟨lb rfl, fun p hp => q p [] _ (sameNew hp) upd_same ?_⟩⟩
      have := nds.length hn
      have e : ps = [] := List.length_eq_zero_iff.mp (by simpa using this.symm)
      subst e
      rfl
    | cons a r => exact ⟨_, hs, true, .inl ⟨_, SqL.of hl, rfl⟩, iteT (q l _ _ (Same.refl _) hl hn)⟩
section
variable {P : Program} {w : World} {K : PySem.W.Frag} {mg : Str → Option Value} {base : Heap}
def nLawReadBody : List Str := ["_law_m", "_law_nodes", "_law_node"]
def pLawReadBody : List Str := ["_law_m", "_law_nodes"]
theorem scLawReadBody : FnScope nLawReadBody pLawReadBody (defScope sLawReadBody) := ⟨rfl, rfl, rfl, by decide +kernel, rfl, by decide +kernel, by decide +kernel⟩
theorem bLawReadBody : BindsBy "_law_read_body" sLawReadBody pLawReadBody := fun _ _ _ _ _ _ us hl => match us, hl with | [_, _], _ => rfl
def nLawReadStatement : List Str := ["_law_m", "_law_node", "_law_op", "_law_parts", "_law_place_here", "_law_test_here", "_law_first_here", "_law_name_here", "_law_given", "_law_indexes", "_law_names", "_law_value", "_law_part"]
def pLawReadStatement : List Str := ["_law_m", "_law_node"]
theorem scLawReadStatement : FnScope nLawReadStatement pLawReadStatement (defScope sLawReadStatement) := ⟨rfl, rfl, rfl, by decide +kernel, rfl, by decide +kernel, by decide +kernel⟩
theorem bLawReadStatement : BindsBy "_law_read_statement" sLawReadStatement pLawReadStatement := fun _ _ _ _ _ _ us hl => match us, hl with | [_, _], _ => rfl
def spLBody (n : Nat) (rd : Node → Rd PyData) : Sp := fun vs H Q _ => ∃ m st nv ps, vs = [.ref m, nv] ∧ Bad H m st ∧ (st = none → ∃ l us, nv = .ref l ∧ H l = some (.lst us) ∧ nds H us ps) ∧ Oks n ps ∧ ps.length ≤ 6000 ∧
  ∀ v' H', Fr H H' → Bad H' m (orE st (err (rdAll rd ps))) → (∀ ds, st = none → rdAll rd ps = .ok ds → Tv H' v' (.tuple ds)) → Q v' H'
theorem has__law_read_body (F : Facts w K mg) {k n : Nat} (h__law_read_statement : Has P w K mg base CX0 k "_law_read_statement" pLawReadStatement (spLRead n (rdStmt n))) :
    Has P w K mg base CX0 (k + 1) "_law_read_body" pLawReadBody (spLBody n (rdStmt n)) := by
  refine has_0 F.g__law_read_body F.f__law_read_body scLawReadBody bLawReadBody (fun vs H Q E h => by obtain ⟨_, _, _, _, rfl, _⟩ := h; rfl) fun cdv A outer s H vs Q E hr h => ?_
  obtain ⟨m, st, nv, ps, rfl, hb, hl, ok, hz, q⟩ := h
  have hu := hu_of hr
  refine ⟨_, (pss_cons (ps_if (PW.pt (pw_or (pt_cmpR op_ge (pe_dget hu (pv 0) pe_str (fun _ _ => rfl)) pe_int (nomark _)) (pw_or1 (pt_cmpR op_isN (pv 1) pe_non (nomark _))))) (pss_one (ps_ret (pe_tup pa_nil)))
      pss_nil)
    (pss_one (ps_ret (pe_callTy call_tuple_of (by rfl) F.z_tuple (by decide +kernel) (pa_cons (pe_lc (own := [("_law_node", 2)]) (g := gName 2) (tt := tYes) rfl scLawReadBody.nd (pi_list (pv 1)) (blkOk_by (N := nLawReadBody) (sc := defScope sLawReadBody) (by decide +kernel)) (fun _ _ _ _ _ => (pg_name (i := 2) scLawReadBody.nd rfl (Or.inl rfl))) (fun _ _ _ _ _ => pts_nil) (fun _ _ _ _ _ => (pe_callH h__law_read_statement hr (by omega) rfl pass0 (pa_cons (pv 0) (pa_cons (pv 2) pa_nil))))) pa_nil))))), ?_⟩
  refine bad_ge (by rfl) hb ?_
  cases st with
  | some e => exact iteT (iteT ⟨lb rfl, fun p hp => q _ _ (Fr.new hp) (hb.new hp) (fun ds z => nomatch z)⟩)
  | none =>
    obtain ⟨l, us, rfl, hl, hn⟩ := hl rfl
    refine iteF ⟨_, rfl, rfl, _, rfl, iteF ⟨_, rfl, l, rfl, ⟨_, SqL.of hl⟩, fun D hD => lc_law (K := K) (m := m) (st := none) (rd := rdStmt n) hl hn (by rw [nds.length hn]; exact hz) hD hb (fun v y H' st' Q' hy f hv b q => ?_) (fun H' us' f hd hb' hv => ?_)⟩⟩
    · exact ⟨_, rfl, _, rfl, m, st', v, y, rfl, ⟨b, hv, (ok y hy).1, (ok y hy).2.1⟩, (ok y hy).2.2, q⟩
    · exact ⟨D, us', rfl, .inl ⟨SqL.of hd, fun p hp => q _ _ (f.trans (Fr.new hp)) (hb'.new hp) (fun ds h e => dp_tup hp (hv ds h e))⟩⟩
/-- a body read from a part -/
theorem lbody_of {n : Nat} {rd : Node → Rd PyData} {H : Hp} {m : Addr} {st : Option Int} {u v : V} {x : Node} {Q : VK} {E : XK} (g : x.good) (wt : x.wt ≤ 6000) (d : x.depth < n) (b : Bad H m (orE st (err (partsIn 0 9999 x)))) (o : LOut H u v (partsIn 0 9999 x))
    (q : ∀ v' H', Fr H H' → Bad H' m (orE st (err (body rd x))) → (∀ d, st = none → body rd x = .ok d → Tv H' v' d) → Q v' H') : spLBody n rd [.ref m, v] H Q E := by
  rw [parts_9999 g wt] at b o
  obtain ⟨oks, len⟩ := parts_oks g wt d
  refine ⟨m, _, v, partsL x, rfl, b, fun hs => ?_, oks, len, fun v' H' f b' t => q v' H' f ?_ (fun d hs e => ?_)⟩
  · cases e : partsIn 0 inf x with
    | error j =>
      rw [e] at hs
      cases st <;> cases hs
    | ok ps =>
      rw [e] at o
      have el : partsL x = ps := by unfold partsL; rw [e]
      rw [el]
      obtain ⟨l, us, o1, o2, o3, _⟩ := o
      exact ⟨l, us, o1, o2, o3⟩
  · rw [body_err, ← orE_assoc]; exact b'
  · obtain ⟨ds, e1, e2, rfl⟩ := body_ok e
    exact t ds (by rw [hs, e1]; rfl) e2
def lHi (h : Str) : Nat := if h = S "set" then 3 else if h = S "if" ∨ h = S "call" then 4 else 9999
theorem in_two {K : PySem.W.Frag} {σ : L2.St} {H : Hp} {h : Str} {a b : Str} {i : Nat} {Q : Bool → Hp → Prop} (hs : σ[i]? = some (some (.str h))) (q : ∀ H', Same H H' → Q (decide (h = a ∨ h = b)) H') :
    tTest (tOp (rIn K false) (tVar i) (tTup (tCons (L2.tC (.str a)) (tCons (L2.tC (.str b)) tNil)))) σ H Q := by
  refine ⟨_, hs, lb rfl, fun t ht => ⟨_, _, rfl, .inr (SqT.of upd_same), rfl, rfl, _, rfl, ?_⟩⟩
  have e : (if false = true then !inV (V.str h) [V.str a, V.str b] else inV (V.str h) [V.str a, V.str b]) = decide (h = a ∨ h = b) := by
    rw [if_neg Bool.false_ne_true, show [V.str a, V.str b] = [a, b].map V.str from rfl, inV_str]
    simp
  rw [e]
  exact q _ (sameNew ht)
theorem list_args {K : PySem.W.Frag} {σ : L2.St} {H : Hp} {sp : Sp} {E : XK} {v0 v1 : V} {h : Str} {Q : VK} (h0 : σ[0]? = some (some v0)) (h1 : σ[1]? = some (some v1)) (h2 : σ[2]? = some (some (.str h))) (q : ∀ H', Same H H' → sp [v0, v1, .int (stLo h : Nat), .int (lHi h : Nat)] H' Q E) :
    tCall sp [] E (tCons (tVar 0) (tCons (tVar 1) (tCons (tIf (tTest (tOp (rIn K false) (tVar 2) (tTup (tCons (L2.tC (.str "if")) (tCons (L2.tC (.str "call")) tNil))))) (L2.tC (.int 4)) (L2.tC (.int 3)))
      (tCons (tIf (tTest (tOp rEq (tVar 2) (L2.tC (.str "set")))) (L2.tC (.int 3)) (tIf (tTest (tOp (rIn K false) (tVar 2) (tTup (tCons (L2.tC (.str "if")) (tCons (L2.tC (.str "call")) tNil))))) (L2.tC (.int 4)) (L2.tC (.int 9999)))) tNil)))) σ H Q := by
  refine ⟨_, h0, _, h1, ?_⟩
  refine in_two (a := "if") (b := "call") h2 (fun H1 s1 => ?_)
  by_cases c : h = S "if" ∨ h = S "call"
  · have lo : stLo h = 4 := by unfold stLo; rw [if_pos c]
    rw [decide_eq_true c]
    have ns : ¬ h = S "set" := fun z => by rw [z] at c; exact absurd c (by decide +kernel)
    have hi : lHi h = 4 := by unfold lHi; rw [if_neg ns, if_pos c]
    rw [lo, hi] at q
    refine iteT ⟨_, h2, rfl, _, rfl, ?_⟩
    rw [str_eq, decide_eq_false ns]
    refine iteF ?_
    refine in_two (a := "if") (b := "call") h2 (fun H2 s2 => ?_)
    rw [decide_eq_true c]
    exact iteT (q _ (s1.trans s2))
  · have lo : stLo h = 3 := by unfold stLo; rw [if_neg c]
    rw [decide_eq_false c]
    refine iteF ⟨_, h2, rfl, _, rfl, ?_⟩
    by_cases ns : h = S "set"
    · have hi : lHi h = 3 := by unfold lHi; rw [if_pos ns]
      rw [lo, hi] at q
      rw [str_eq, decide_eq_true ns]
      exact iteT (q _ s1)
    · have hi : lHi h = 9999 := by unfold lHi; rw [if_neg ns, if_neg c]
      rw [lo, hi] at q
      rw [str_eq, decide_eq_false ns]
      refine iteF ?_
      refine in_two (a := "if") (b := "call") h2 (fun H2 s2 => ?_)
      rw [decide_eq_false c]
      exact iteF (q _ (s1.trans s2))
theorem parts_hi {h : Str} {x : Node} (g : x.good) (w : x.wt ≤ 6000) : partsIn (stLo h) (lHi h) x = partsIn (stLo h) (stHi h) x := by
  unfold lHi stHi
  by_cases c : h = S "set"
  · rw [if_pos c, if_pos c]
  · rw [if_neg c, if_neg c]
    by_cases c2 : h = S "if" ∨ h = S "call"
    · rw [if_pos c2, if_pos c2]
    · rw [if_neg c2, if_neg c2]; exact parts_9999 g w
end
end K10
/-! K10Law6: the law's own reader: statements. Printed by expand.py from K10Law6.tpl. -/
namespace K10
open PySem PySem.Spec PyProof.Rows L2
section
variable {P : Program} {w : World} {K : PySem.W.Frag} {mg : Str → Option Value} {base : Heap}
theorem Oks.of {n : Nat} {ps : List Node} {i : Int} (g : (Node.form ps i).good) (w : (Node.form ps i).wt ≤ 6000) (d : (Node.form ps i).depth < n + 1) : Oks n ps := fun y hy => by
  rw [Node.good] at g
  rw [Node.wt] at w
  have := wt_mem hy
  exact ⟨good_mem g.1 hy, by omega, depth_part d hy⟩
/-- parts[k], parts the list in a slot -/
theorem ix_at {K : PySem.W.Frag} {σ : L2.St} {H : Hp} {i k : Nat} {l : Addr} {us : List V} {ps : List Node} {y : Node} {Q : VK} {kk : Int} (hs : σ[i]? = some (some (.ref l))) (hl : H l = some (.lst us)) (hn : nds H us ps) (hk : ps[k]? = some y) (ek : kk = (k : Int)) (q : ∀ u, nd H u y → Q u H) :
    tOp (rIxL K) (tVar i) (L2.tC (.int kk)) σ H Q := by
  obtain ⟨u, hu, hn⟩ := hn.get hk
  exact ⟨_, hs, l, us, kk, u, rfl, rfl, SqL.of hl, at_of (j := k) ek hu, q u hn⟩
theorem has__law_read_statement (F : Facts w K mg) : ∀ n : Nat, Has P w K mg base CX0 (2 * n + 11) "_law_read_statement" pLawReadStatement (spLRead n (rdStmt n))
  | 0 => by
    refine has_0 (k := 2 * 0 + 10) F.g__law_read_statement F.f__law_read_statement scLawReadStatement bLawReadStatement (fun vs H Q E h => by obtain ⟨_, _, _, _, rfl, _⟩ := h; rfl) fun cdv A outer s H vs Q E hr h => ?_
    obtain ⟨m, st, v, x, rfl, g, d, q⟩ := h
    exact absurd d (Nat.not_lt_zero _)
  | n + 1 => by
    have h__law_read_body := has__law_read_body F (has__law_read_statement F n)
    have h__law_read_index := has__law_read_index (P := P) (base := base) F (n + 1)
    have h__law_read_place := has__law_read_place (P := P) (base := base) F (n + 1)
    have h__law_read_expression := has__law_read_expression (P := P) (base := base) F (n + 1)
    have h__law_read_test := has__law_read_test (P := P) (base := base) F (n + 1)
    have h__law_named := has__law_named (P := P) (base := base) F
    have h__law_list := has__law_list (P := P) (base := base) F
    have h__law_first := has__law_first (P := P) (base := base) F
    refine has_0 (k := 2 * n + 12) F.g__law_read_statement F.f__law_read_statement scLawReadStatement bLawReadStatement (fun vs H Q E h => by obtain ⟨_, _, _, _, rfl, _⟩ := h; rfl) fun cdv A outer s H vs Q E hr h => ?_
    obtain ⟨m, st, v, x, rfl, g, dep, q⟩ := h
    have hu := hu_of hr
    refine ⟨_, (pss_cons (ps_set (i := 2) scLawReadStatement.nd rfl (Or.inl rfl) pe_non)
    (pss_cons (ps_if (pt_cmpR op_lt (pe_dget hu (pv 0) pe_str (fun _ _ => rfl)) pe_int (nomark _)) (pss_one (ps_set (i := 2) scLawReadStatement.nd rfl (Or.inl rfl) (pe_callH h__law_first hr (by omega) rfl pass0 (pa_cons (pv 0) (pa_cons (pv 1) (pa_cons (pe_lst (pa_cons pe_str (pa_cons pe_str (pa_cons pe_str (pa_cons pe_str (pa_cons pe_str pa_nil)))))) pa_nil))))))
      pss_nil)
    (pss_cons (ps_if (PW.pt (pw_or (pt_cmpR op_isN (pv 2) pe_non (nomark _)) (pw_or1 (pt_cmpR op_isN (pe_callH h__law_list hr (by omega) rfl pass0 (pa_cons (pv 0) (pa_cons (pv 1) (pa_cons (pe_ifExp (pt_cmpR op_in_seq (pv 2) (pe_tup (pa_cons pe_str (pa_cons pe_str pa_nil))) (by rfl)) pe_int pe_int) (pa_cons (pe_ifExp (pt_cmpR op_eq (pv 2) pe_str (nomark _)) pe_int (pe_ifExp (pt_cmpR op_in_seq (pv 2) (pe_tup (pa_cons pe_str (pa_cons pe_str pa_nil))) (by rfl)) pe_int pe_int)) pa_nil))))) pe_non (nomark _))))) (pss_one (ps_ret pe_non))
      pss_nil)
    (pss_cons (ps_set (i := 3) scLawReadStatement.nd rfl (Or.inl rfl) (pe_ix ix_tup (pv 1) pe_int (fun _ _ => rfl)))
    (pss_cons (ps_if (pt_cmpR op_eq (pv 2) pe_str (nomark _)) (pss_cons (ps_set (i := 4) scLawReadStatement.nd rfl (Or.inl rfl) (pe_callH h__law_read_place hr (by omega) rfl pass0 (pa_cons (pv 0) (pa_cons (pe_ix ix_list (pv 3) pe_int (fun _ _ => rfl)) pa_nil))))
      (pss_one (ps_ret (pe_tup (pa_cons (pv 2) (pa_cons (pv 4) (pa_cons (pe_callH h__law_read_expression hr (by omega) rfl pass0 (pa_cons (pv 0) (pa_cons (pe_ix ix_list (pv 3) pe_int (fun _ _ => rfl)) pa_nil))) pa_nil)))))))
      pss_nil)
    (pss_cons (ps_if (pt_cmpR op_eq (pv 2) pe_str (nomark _)) (pss_cons (ps_set (i := 5) scLawReadStatement.nd rfl (Or.inl rfl) (pe_callH h__law_read_test hr (by omega) rfl pass0 (pa_cons (pv 0) (pa_cons (pe_ix ix_list (pv 3) pe_int (fun _ _ => rfl)) pa_nil))))
      (pss_cons (ps_set (i := 6) scLawReadStatement.nd rfl (Or.inl rfl) (pe_callH h__law_read_body hr (by omega) rfl pass0 (pa_cons (pv 0) (pa_cons (pe_callH h__law_list hr (by omega) rfl pass0 (pa_cons (pv 0) (pa_cons (pe_ix ix_list (pv 3) pe_int (fun _ _ => rfl)) (pa_cons pe_int (pa_cons pe_int pa_nil))))) pa_nil))))
      (pss_one (ps_ret (pe_tup (pa_cons (pv 2) (pa_cons (pv 5) (pa_cons (pv 6) (pa_cons (pe_callH h__law_read_body hr (by omega) rfl pass0 (pa_cons (pv 0) (pa_cons (pe_callH h__law_list hr (by omega) rfl pass0 (pa_cons (pv 0) (pa_cons (pe_ix ix_list (pv 3) pe_int (fun _ _ => rfl)) (pa_cons pe_int (pa_cons pe_int pa_nil))))) pa_nil))) pa_nil)))))))))
      pss_nil)
    (pss_cons (ps_set (i := 7) scLawReadStatement.nd rfl (Or.inl rfl) (pe_callH h__law_named hr (by omega) rfl pass0 (pa_cons (pv 0) (pa_cons (pe_ix ix_list (pv 3) pe_int (fun _ _ => rfl)) pa_nil))))
    (pss_cons (ps_if (pt_cmpR op_eq (pv 2) pe_str (nomark _)) (pss_cons (ps_set (i := 8) scLawReadStatement.nd rfl (Or.inl rfl) (pe_callH h__law_list hr (by omega) rfl pass0 (pa_cons (pv 0) (pa_cons (pe_ix ix_list (pv 3) pe_int (fun _ _ => rfl)) (pa_cons pe_int (pa_cons pe_int pa_nil))))))
      (pss_cons (ps_set (i := 9) scLawReadStatement.nd rfl (Or.inl rfl) (pe_callTy call_tuple_of (by rfl) F.z_tuple (by decide +kernel) (pa_cons (pe_lc (own := [("_law_part", 12)]) (g := gName 12) (tt := tYes) rfl scLawReadStatement.nd (pi_list (pe_orT (pv 8) (pe_one (pe_lst pa_nil)))) (blkOk_by (N := nLawReadStatement) (sc := defScope sLawReadStatement) (by decide +kernel)) (fun _ _ _ _ _ => (pg_name (i := 12) scLawReadStatement.nd rfl (Or.inl rfl))) (fun _ _ _ _ _ => pts_nil) (fun _ _ _ _ _ => (pe_callH h__law_read_index hr (by omega) rfl pass0 (pa_cons (pv 0) (pa_cons (pv 12) pa_nil))))) pa_nil)))
      (pss_cons (ps_set (i := 10) scLawReadStatement.nd rfl (Or.inl rfl) (pe_callH h__law_list hr (by omega) rfl pass0 (pa_cons (pv 0) (pa_cons (pe_ix ix_list (pv 3) pe_int (fun _ _ => rfl)) (pa_cons pe_int (pa_cons pe_int pa_nil))))))
      (pss_one (ps_ret (pe_tup (pa_cons (pv 2) (pa_cons (pv 7) (pa_cons (pv 9) (pa_cons (pe_callTy call_tuple_of (by rfl) F.z_tuple (by decide +kernel) (pa_cons (pe_lc (own := [("_law_part", 12)]) (g := gName 12) (tt := tYes) rfl scLawReadStatement.nd (pi_list (pe_orT (pv 10) (pe_one (pe_lst pa_nil)))) (blkOk_by (N := nLawReadStatement) (sc := defScope sLawReadStatement) (by decide +kernel)) (fun _ _ _ _ _ => (pg_name (i := 12) scLawReadStatement.nd rfl (Or.inl rfl))) (fun _ _ _ _ _ => pts_nil) (fun _ _ _ _ _ => (pe_callH h__law_named hr (by omega) rfl pass0 (pa_cons (pv 0) (pa_cons (pv 12) pa_nil))))) pa_nil)) pa_nil))))))))))
      pss_nil)
    (pss_cons (ps_set (i := 11) scLawReadStatement.nd rfl (Or.inl rfl) (pe_ifExp (pt_cmpR op_eq (pv 2) pe_str (nomark _)) (pe_callH h__law_read_index hr (by omega) rfl pass0 (pa_cons (pv 0) (pa_cons (pe_ix ix_list (pv 3) pe_int (fun _ _ => rfl)) pa_nil))) (pe_callH h__law_read_expression hr (by omega) rfl pass0 (pa_cons (pv 0) (pa_cons (pe_ix ix_list (pv 3) pe_int (fun _ _ => rfl)) pa_nil)))))
    (pss_one (ps_ret (pe_tup (pa_cons (pv 2) (pa_cons (pv 7) (pa_cons (pv 11) (pa_cons (pe_callH h__law_read_body hr (by omega) rfl pass0 (pa_cons (pv 0) (pa_cons (pe_slice sl_list (pv 3) (po_some pe_int) po_none) pa_nil))) pa_nil)))))))))))))))), ?_⟩
    refine bad_lt (by rfl) g.bad ?_
    rw [rdStmt] at q
    cases st with
    | some e =>
      refine iteF ⟨_, rfl, rfl, _, rfl, iteT (iteT (q _ _ (Fr.refl _) g.bad (fun d z => nomatch z)))⟩
    | none =>
    have q : Ret Q H m (stmtStep (rdIdx (n + 1)) (rdExpr (n + 1)) (rdTest (n + 1)) (rdStmt n) x) := .of q
    refine iteT ⟨_, rfl, _, rfl, lb rfl, fun wl hwl => ?_⟩
    have sw := sameNew (o := .lst [.str (S "set"), .str (S "loop"), .str (S "if"), .str (S "call"), .str (S "let")]) hwl
    refine ⟨m, none, v, _, wl, wStmt, rfl, g.fr (frS sw) (g.bad.same sw), upd_same, fun v' H1 f1 b1 ev => ?_⟩
    have f01 := (frS sw).trans f1
    unfold stmtStep at q
    cases e1 : firstIn wStmt x with
    | error j =>
      rw [e1] at b1 ev q
      rw [ev]
      exact ⟨_, rfl, rfl, _, rfl, iteT (iteT (q.bad rfl f01 b1))⟩
    | ok h =>
    rw [e1] at b1 ev q
    rw [ev]
    obtain ⟨jj, rr, ii, ex, hm⟩ := first_form e1
    refine ⟨_, rfl, rfl, _, rfl, iteF ?_⟩
    refine list_args (h := h) (by rfl) (by rfl) (by rfl) (fun H2 s2 => ?_)
    have f02 := f01.trans (frS s2)
    refine ⟨m, none, v, x, _, _, rfl, g.fr f02 (b1.same s2), fun v3 H3 f3 b3 o3 => ?_⟩
    have f03 := f02.trans f3
    rw [parts_hi g.good g.wt] at b3 o3
    cases e2 : partsIn (stLo h) (stHi h) x with
    | error j =>
      rw [e2] at b3 o3
      rw [show v3 = .non from o3]
      have q : Ret Q H m (partsIn (stLo h) (stHi h) x >>= _) := q
      rw [e2] at q
      exact ⟨rfl, _, rfl, iteT (q.bad rfl f03 b3)⟩
    | ok ps =>
    have q : Ret Q H m (partsIn (stLo h) (stHi h) x >>= _) := q
    rw [e2] at q
    obtain ⟨i2, ex2, l1, l2⟩ := parts_form e2
    rw [e2] at b3 o3
    obtain ⟨l0, us0, rfl, _, _⟩ := o3
    rw [ex2] at g dep
    have oks := Oks.of g.good g.wt dep
    have g3 := nd.fr f03 _ _ g.n
    have b3 : Bad H3 m none := b3
    obtain ⟨a, l, us, rfl, ha, hl, hn⟩ := id g3
    clear ex2 e2 e1 b1 ex
    refine ⟨rfl, _, rfl, iteF ⟨_, rfl, _, _, _, _, rfl, rfl, SqT.of ha, rfl, ?_⟩⟩
    refine ⟨_, rfl, rfl, _, rfl, ite2 (fun c => ?_) (fun c => ?_)⟩
    · -- set
      have c : h = S "set" := by rw [str_eq] at c; exact of_decide_eq_true c
      rw [c, show stLo (S "set") = 3 by decide +kernel] at l1
      rw [c, show stHi (S "set") = 3 by decide +kernel] at l2
      obtain ⟨x0, y, z, ep⟩ := len3 l1 l2
      have hy : ps[1]? = some y := by rw [ep]; rfl
      have hz : ps[2]? = some z := by rw [ep]; rfl
      obtain ⟨gy, wy, dy⟩ := oks y (List.mem_of_getElem? hy)
      obtain ⟨gz, wz, dz⟩ := oks z (List.mem_of_getElem? hz)
      rw [ep, c] at q
      have q : Ret Q H m (plcStep (rdIdx (n + 1)) y >>= fun p => rdExpr (n + 1) z >>= fun e => (.ok (.tuple [.str (S "set"), .tuple [.str p.1, p.2], e]) : Rd PyData)) := q
      unfold Ret at q
      rw [err2] at q
      refine ⟨_, rfl, ?_⟩
      refine ix_at (i := 3) (k := 1) (by rfl) hl hn hy (by rfl) (fun u hu => ?_)
      refine ⟨m, none, u, y, rfl, ⟨b3, hu, gy, wy⟩, by omega, fun p va vb H4 f4 hp b4 t4 => ?_⟩
      have b4 : Bad H4 m (err (plcStep (rdIdx (n + 1)) y)) := b4
      refine ⟨_, rfl, _, rfl, _, rfl, ?_⟩
      refine ix_at (i := 3) (k := 2) (by rfl) (f4.lst hl) (nds.fr f4 _ _ hn) hz (by rfl) (fun u2 hu2 => ?_)
      refine ⟨m, _, u2, z, rfl, ⟨b4, hu2, gz, wz⟩, by omega, fun v5 H5 f5 b5 t5 => ⟨lb rfl, fun p2 hp2 => ?_⟩⟩
      refine q _ _ (((f03.trans f4).trans f5).trans (Fr.new hp2)) (b5.new hp2) (fun d e => ?_)
      obtain ⟨d1, d2, r1, r2, rfl⟩ := ok2 e
      obtain ⟨w1, w2⟩ := t4 d1 rfl r1
      rw [c]
      rw [w1] at hp
      exact dp_tup hp2 (.cons (.str _) (.cons (.tup (f5.tup hp) (.cons (.str _) (.cons (Tv.fr f5 _ _ w2) .nil))) (.cons (t5 d2 (err_none r1) r2) .nil)))
    have c : ¬ h = S "set" := by rw [str_eq] at c; simpa using c
    refine ⟨_, rfl, rfl, _, rfl, ite2 (fun c2 => ?_) (fun c2 => ?_)⟩
    · -- if
      have c2 : h = S "if" := by rw [str_eq] at c2; exact of_decide_eq_true c2
      rw [c2, show stLo (S "if") = 4 by decide +kernel] at l1
      rw [c2, show stHi (S "if") = 4 by decide +kernel] at l2
      obtain ⟨x0, t, y, z, ep⟩ := len4 l1 l2
      have ht : ps[1]? = some t := by rw [ep]; rfl
      have hy : ps[2]? = some y := by rw [ep]; rfl
      have hz : ps[3]? = some z := by rw [ep]; rfl
      obtain ⟨gt, wt, dt⟩ := oks t (List.mem_of_getElem? ht)
      obtain ⟨gy, wy, dy⟩ := oks y (List.mem_of_getElem? hy)
      obtain ⟨gz, wz, dz⟩ := oks z (List.mem_of_getElem? hz)
      rw [ep, c2] at q
      have q : Ret Q H m (rdTest (n + 1) t >>= fun t => body (rdStmt n) y >>= fun x => body (rdStmt n) z >>= fun y => (.ok (.tuple [.str (S "if"), t, x, y]) : Rd PyData)) := q
      unfold Ret at q
      rw [err3] at q
      refine ⟨_, rfl, ?_⟩
      refine ix_at (i := 3) (k := 1) (by rfl) hl hn ht (by rfl) (fun u hu => ?_)
      refine ⟨m, none, u, t, rfl, ⟨b3, hu, gt, wt⟩, by omega, fun v4 H4 f4 b4 t4 => ?_⟩
      have b4 : Bad H4 m (err (rdTest (n + 1) t)) := b4
      refine ⟨_, rfl, _, rfl, ?_⟩
      refine ix_at (i := 3) (k := 2) (by rfl) (f4.lst hl) (nds.fr f4 _ _ hn) hy (by rfl) (fun u2 hu2 => ?_)
      refine ⟨m, _, u2, y, 0, 9999, rfl, ⟨b4, hu2, gy, wy⟩, fun v5 H5 f5 b5 o5 => ?_⟩
      refine lbody_of (E := E0) gy wy dy b5 o5 (fun v6 H6 f6 b6 t6 => ?_)
      have f46 := (f4.trans f5).trans f6
      refine ⟨_, rfl, _, rfl, _, rfl, _, rfl, _, rfl, ?_⟩
      refine ix_at (i := 3) (k := 3) (by rfl) (f46.lst hl) (nds.fr f46 _ _ hn) hz (by rfl) (fun u3 hu3 => ?_)
      refine ⟨m, _, u3, z, 0, 9999, rfl, ⟨b6, hu3, gz, wz⟩, fun v7 H7 f7 b7 o7 => ?_⟩
      refine lbody_of (E := E0) gz wz dz b7 o7 (fun v8 H8 f8 b8 t8 => ⟨lb rfl, fun p hp => ?_⟩)
      refine q _ _ ((((f03.trans f46).trans f7).trans f8).trans (Fr.new hp)) (b8.new hp) (fun d e => ?_)
      obtain ⟨d1, d2, d3, r1, r2, r3, rfl⟩ := ok3 e
      rw [c2]
      exact dp_tup hp (.cons (.str _) (.cons (Tv.fr (((f5.trans f6).trans f7).trans f8) _ _ (t4 d1 rfl r1)) (.cons (Tv.fr (f7.trans f8) _ _ (t6 d2 (err_none r1) r2)) (.cons (t8 d3 (by rw [err_none r1, err_none r2]; rfl) r3) .nil))))
    have c2 : ¬ h = S "if" := by rw [str_eq] at c2; simpa using c2
    have l3 : 3 ≤ ps.length := by
      unfold stLo at l1
      split at l1 <;> omega
    obtain ⟨x0, y, z, r', ep⟩ := lenM l3
    have hy : ps[1]? = some y := by rw [ep]; rfl
    have hz : ps[2]? = some z := by rw [ep]; rfl
    obtain ⟨gy, wy, dy⟩ := oks y (List.mem_of_getElem? hy)
    obtain ⟨gz, wz, dz⟩ := oks z (List.mem_of_getElem? hz)
    refine ⟨_, rfl, ?_⟩
    refine ix_at (i := 3) (k := 1) (by rfl) hl hn hy (by rfl) (fun u hu => ?_)
    refine ⟨m, none, u, y, rfl, ⟨b3, hu, gy, wy⟩, fun v4 H4 f4 b4 t4 => ?_⟩
    have b4 : Bad H4 m (err (nameOf y)) := b4
    refine ⟨_, rfl, rfl, _, rfl, ite2 (fun c3 => ?_) (fun c3 => ?_)⟩
    · -- call
      have c3 : h = S "call" := by rw [str_eq] at c3; exact of_decide_eq_true c3
      rw [c3, show stLo (S "call") = 4 by decide +kernel] at l1
      rw [c3, show stHi (S "call") = 4 by decide +kernel] at l2
      obtain ⟨x0', y', z', t, ep'⟩ := len4 l1 l2
      rw [ep] at ep'
      cases ep'
      have ht : ps[3]? = some t := by rw [ep]; rfl
      obtain ⟨gt, wt, dt⟩ := oks t (List.mem_of_getElem? ht)
      rw [ep, c3] at q
      have q : Ret Q H m (nameOf y >>= fun nm => body (rdIdx (n + 1)) z >>= fun x => body nameD t >>= fun y => (.ok (.tuple [.str (S "call"), .str nm, x, y]) : Rd PyData)) := q
      unfold Ret at q
      rw [err3] at q
      refine ⟨_, rfl, ?_⟩
      refine ix_at (i := 3) (k := 2) (by rfl) (f4.lst hl) (nds.fr f4 _ _ hn) hz (by rfl) (fun u2 hu2 => ?_)
      refine ⟨m, _, u2, z, 0, 9999, rfl, ⟨b4, hu2, gz, wz⟩, fun v5 H5 f5 b5 o5 => ?_⟩
      rw [parts_9999 gz wz] at b5 o5
      obtain ⟨ok5, ln5⟩ := parts_oks gz wz dz
      refine or_list (i := 8) (x := z) (by rfl) o5 (fun l6 us6 H6 s6 hl6 hn6 => ?_)
      refine ⟨l6, rfl, ⟨_, SqL.of hl6⟩, fun D hD => lc_law (K := K) (m := m) (rd := rdIdx (n + 1)) hl6 hn6 (by rw [nds.length hn6]; exact ln5) hD (b5.same s6) (fun v y H' st' Q' hy f hv b q => ⟨_, rfl, _, rfl, m, st', v, y, rfl, ⟨b, hv, (ok5 y hy).1, (ok5 y hy).2.1⟩, Nat.lt_succ_of_lt (ok5 y hy).2.2, q⟩) (fun H7 us7 f7 hd7 b7 t7 => ?_)⟩
      rw [orE_assoc, ← body_err] at b7
      refine ⟨D, us7, rfl, .inl ⟨SqL.of hd7, fun p8 hp8 => ?_⟩⟩
      have f48 := (((f4.trans f5).trans (frS s6)).trans f7).trans (Fr.new (o := .tup us7) hp8)
      have b8 := b7.new (o := .tup us7) hp8
      refine ⟨_, rfl, ?_⟩
      refine ix_at (i := 3) (k := 3) (by rfl) (f48.lst hl) (nds.fr f48 _ _ hn) ht (by rfl) (fun u9 hu9 => ?_)
      refine ⟨m, _, u9, t, 0, 9999, rfl, ⟨b8, hu9, gt, wt⟩, fun v9 H9 f9 b9 o9 => ?_⟩
      rw [parts_9999 gt wt] at b9 o9
      obtain ⟨ok9, ln9⟩ := parts_oks gt wt dt
      refine ⟨_, rfl, _, rfl, _, rfl, ?_⟩
      refine or_list (i := 10) (x := t) (by rfl) o9 (fun la usa Ha sa hla hna => ?_)
      refine ⟨la, rfl, ⟨_, SqL.of hla⟩, fun Da hDa => lc_law (K := K) (m := m) (rd := nameD) hla hna (by rw [nds.length hna]; exact ln9) hDa (b9.same sa) (fun v y H' st' Q' hy f hv b q => ⟨_, rfl, _, rfl, m, st', v, y, rfl, ⟨b, hv, (ok9 y hy).1, (ok9 y hy).2.1⟩, fun v' H'' f' b' t' => q v' H'' f' ?_ (fun d _ e => ?_)⟩) (fun Hb usb fb hdb bb tb => ?_)⟩
      · unfold nameD
        cases e : nameOf y with
        | error j => rw [e] at b'; exact b'
        | ok s => rw [e] at b'; exact b'
      · unfold nameD at e
        cases e3 : nameOf y with
        | error j => rw [e3] at e; cases e
        | ok s => rw [e3] at e; cases e; rw [t' s e3]; exact .str _
      · rw [orE_assoc, ← body_err] at bb
        refine ⟨Da, usb, rfl, .inl ⟨SqL.of hdb, fun pc hpc => ⟨lb rfl, fun p hp => ?_⟩⟩⟩
        have f8b := ((f9.trans (frS sa)).trans fb)
        refine q _ _ ((((f03.trans f48).trans f8b).trans (Fr.new hpc)).trans (Fr.new hp)) ((bb.new hpc).new hp) (fun d e => ?_)
        obtain ⟨d1, d2, d3, r1, r2, r3, rfl⟩ := ok3 e
        obtain ⟨ds2, p2, q2, rfl⟩ := body_ok r2
        obtain ⟨ds3, p3, q3, rfl⟩ := body_ok r3
        have x1 : v4 = .str d1 := t4 d1 r1
        have x2 := t7 ds2 (by rw [err_none r1, err_none p2]; rfl) q2
        have x3 := tb ds3 (by rw [err_none r1, err_none r2, err_none p3]; rfl) q3
        rw [c3, x1]
        exact dp_tup hp (.cons (.str _) (.cons (.str _) (.cons (Tv.fr (f8b.trans (Fr.new hpc)) _ _ (dp_tup hp8 x2)) (.cons (dp_tup hpc x3) .nil))))
    have c3 : ¬ h = S "call" := by rw [str_eq] at c3; simpa using c3
    have e2 : ∀ {α : Type} (a b : α), (if h = S "set" then a else b) = b := fun a b => if_neg c
    have oksr : Oks n r' := fun u hu => oks u (by rw [ep]; simp [hu])
    have hlr : r'.length ≤ 6000 := by
      have := g.good; rw [Node.good] at this
      have g1 := len_le_wts this.1
      have := g.wt; rw [Node.wt] at this
      rw [ep] at g1 this
      simp at g1
      omega
    obtain ⟨v0, vy, vz, vr, rfl, _, _, _, hvr⟩ := ndsM (ep ▸ hn)
    have cut : cutV (v0 :: vy :: vz :: vr) (some (3 : Int)) none = vr := cut_from 3
    have q : Ret Q H m (nameOf y >>= fun nm => (if h = S "loop" then rdIdx (n + 1) z else rdExpr (n + 1) z) >>= fun x => rdAll (rdStmt n) r' >>= fun ys => (.ok (.tuple [.str h, .str nm, x, .tuple ys]) : Rd PyData)) := by
      rw [ep] at q
      have q : Ret Q H m (if h = S "set" then _ else if h = S "if" then _ else if h = S "call" then _ else _) := q
      rw [if_neg c, if_neg c2, if_neg c3] at q
      exact q
    have fin : ∀ {v5 : V} {H5 : Hp} {rx : Rd PyData}, Fr H4 H5 → Bad H5 m (orE (err (nameOf y)) (err rx)) → (∀ d, err (nameOf y) = none → rx = .ok d → Tv H5 v5 d) → Ret Q H m (nameOf y >>= fun nm => rx >>= fun x => rdAll (rdStmt n) r' >>= fun ys => (.ok (.tuple [.str h, .str nm, x, .tuple ys]) : Rd PyData)) →
        tRet (tTup (tCons (tVar 2) (tCons (tVar 7) (tCons (tVar 11) (tCons (tCall (spLBody n (rdStmt n)) [] E0 (tCons (tVar 0) (tCons (tSl (rSlL K) (tVar 3) (tPart (L2.tC (.int 3))) tNoPart) tNil))) tNil))))) { nx := fun _ H' => Q .non H', rt := Q }
          [some (.ref m), some (.ref a), some (.str h), some (.ref l), none, none, none, some v4, none, none, none, some v5, none] H5 := fun {v5 H5 rx} f5 b5 t5 q => by
      unfold Ret at q
      rw [err3] at q
      refine ⟨_, rfl, _, rfl, _, rfl, _, rfl, _, rfl, _, rfl, _, _, rfl, SqL.of ((f4.trans f5).lst hl), fun p hp => ?_⟩
      refine ⟨m, _, .ref p, r', rfl, b5.new hp, fun _ => ⟨p, vr, rfl, by rw [cut]; exact upd_same, nds.fr ((f4.trans f5).trans (Fr.new hp)) _ _ hvr⟩, oksr, hlr, fun v6 H6 f6 b6 t6 => ⟨lb rfl, fun p2 hp2 => ?_⟩⟩
      refine q _ _ ((((f03.trans f4).trans f5).trans ((Fr.new hp).trans f6)).trans (Fr.new hp2)) (b6.new hp2) (fun d e => ?_)
      obtain ⟨d1, d2, d3, r1, r2, r3, rfl⟩ := ok3 e
      have x1 : v4 = .str d1 := t4 d1 r1
      rw [x1]
      exact dp_tup hp2 (.cons (.str _) (.cons (.str _) (.cons (Tv.fr ((Fr.new hp).trans f6) _ _ (t5 d2 (err_none r1) r2)) (.cons (t6 d3 (by rw [err_none r1, err_none r2]; rfl) r3) .nil))))
    refine ⟨_, rfl, rfl, _, rfl, ite2 (fun c4 => ?_) (fun c4 => ?_)⟩
    · -- loop
      have c4 : h = S "loop" := by rw [str_eq] at c4; exact of_decide_eq_true c4
      simp only [if_pos c4] at q
      refine ⟨_, rfl, ?_⟩
      refine ix_at (i := 3) (k := 2) (by rfl) (f4.lst hl) (nds.fr f4 _ _ hn) hz (by rfl) (fun u2 hu2 => ?_)
      exact ⟨m, _, u2, z, rfl, ⟨b4, hu2, gz, wz⟩, by omega, fun v5 H5 f5 b5 t5 => fin f5 b5 t5 q⟩
    · -- let
      have c4 : ¬ h = S "loop" := by rw [str_eq] at c4; simpa using c4
      simp only [if_neg c4] at q
      refine ⟨_, rfl, ?_⟩
      refine ix_at (i := 3) (k := 2) (by rfl) (f4.lst hl) (nds.fr f4 _ _ hn) hz (by rfl) (fun u2 hu2 => ?_)
      exact ⟨m, _, u2, z, rfl, ⟨b4, hu2, gz, wz⟩, by omega, fun v5 H5 f5 b5 t5 => fin f5 b5 t5 q⟩
end
end K10
/-! K10Law7: the law's own reader: variables, procedures. Printed by expand.py from K10Law7.tpl. -/
namespace K10
open PySem PySem.Spec PyProof.Rows L2
theorem or_listV {K : PySem.W.Frag} {σ : L2.St} {H : Hp} {u v : V} {x : Node} {Q : VK} (o : LOut H u v (partsIn 0 inf x))
    (q : ∀ l us H', Same H H' → H' l = some (.lst us) → nds H' us (partsL x) → ((H l = none ∧ partsL x = []) ∨ ∃ a i, u = .ref a ∧ H a = some (.tup [.ref l, .int i])) → Q (.ref l) H') : ∃ k, TruV K v H k ∧ if k = true then Q v H else tLst tNil σ H Q := by
  unfold partsL at q
  cases e : partsIn 0 inf x with
  | error j =>
    rw [e] at o q
    rw [show v = .non from o]
    exact ⟨false, rfl, iteF ⟨lb rfl, fun p hp => q p [] _ (sameNew hp) upd_same rfl (.inl ⟨hp, rfl⟩)⟩⟩
  | ok ps =>
    rw [e] at o q
    obtain ⟨l, us, rfl, hl, hn, hx⟩ := o
    cases us with
    | nil =>
      have := nds.length hn
      have e : ps = [] := List.length_eq_zero_iff.mp (by simpa using this.symm)
      subst e
      exact ⟨false, .inl ⟨[], SqL.of hl, rfl⟩, iteF ⟨lb rfl, fun p hp => q p [] _ (sameNew hp) upd_same rfl (.inl ⟨hp, rfl⟩)⟩⟩
    | cons a r => exact ⟨true, .inl ⟨_, SqL.of hl, rfl⟩, iteT (q l _ _ (Same.refl _) hl hn (.inr hx))⟩
theorem partsL_form {ps : List Node} {i : Int} (g : (Node.form ps i).good) (w : (Node.form ps i).wt ≤ 6000) : partsL (.form ps i) = ps := by
  rw [Node.good] at g
  rw [Node.wt] at w
  have := len_le_wts g.1
  unfold partsL
  simp only [partsIn]
  rw [if_pos (by unfold inf; omega)]
theorem refOf_err (x : Node) : err (refOf x) = match partsIn 1 2 x with
    | .ok ps => err (varOf ps)
    | .error j => some j := by
  unfold refOf
  cases partsIn 1 2 x <;> rfl
section
variable {P : Program} {w : World} {K : PySem.W.Frag} {mg : Str → Option Value} {base : Heap}
def nLawReadVariable : List Str := ["_law_m", "_law_parts", "_law_name_here", "_law_word_here"]
def pLawReadVariable : List Str := ["_law_m", "_law_parts"]
theorem scLawReadVariable : FnScope nLawReadVariable pLawReadVariable (defScope sLawReadVariable) := ⟨rfl, rfl, rfl, by decide +kernel, rfl, by decide +kernel, by decide +kernel⟩
theorem bLawReadVariable : BindsBy "_law_read_variable" sLawReadVariable pLawReadVariable := fun _ _ _ _ _ _ us hl => match us, hl with | [_, _], _ => rfl
def nLawReadProcedure : List Str := ["_law_m", "_law_node", "_law_parts", "_law_name_here", "_law_given", "_law_indexes", "_law_references", "_law_part"]
def pLawReadProcedure : List Str := ["_law_m", "_law_node"]
theorem scLawReadProcedure : FnScope nLawReadProcedure pLawReadProcedure (defScope sLawReadProcedure) := ⟨rfl, rfl, rfl, by decide +kernel, rfl, by decide +kernel, by decide +kernel⟩
theorem bLawReadProcedure : BindsBy "_law_read_procedure" sLawReadProcedure pLawReadProcedure := fun _ _ _ _ _ _ us hl => match us, hl with | [_, _], _ => rfl
def spLVar : Sp := fun vs H Q _ => ∃ m st l us ps, vs = [.ref m, .ref l] ∧ Bad H m st ∧ H l = some (.lst us) ∧ nds H us ps ∧ 1 ≤ ps.length ∧ (∀ y ∈ ps, y.good ∧ y.wt ≤ 6000) ∧
  ∀ v' H', Fr H H' → Bad H' m (orE st (err (varOf ps))) → (∀ d, st = none → varOf ps = .ok d → Tv H' v' d) → Q v' H'
theorem has__law_read_variable (F : Facts w K mg) : Has P w K mg base CX0 4 "_law_read_variable" pLawReadVariable spLVar := by
  have h__law_fail := has__law_fail (P := P) (base := base) F
  have h__law_word := has__law_word (P := P) (base := base) F
  have h__law_named := has__law_named (P := P) (base := base) F
  have h__law_valued := has__law_valued (P := P) (base := base) F
  refine has_0 F.g__law_read_variable F.f__law_read_variable scLawReadVariable bLawReadVariable (fun vs H Q E h => by obtain ⟨_, _, _, _, _, rfl, _⟩ := h; rfl) fun cdv A outer s H vs Q E hr h => ?_
  obtain ⟨m, st, l, us, ps, rfl, hb, hl, hn, h1, ok, q⟩ := h
  have hu := hu_of hr
  refine ⟨_, (pss_cons (ps_set (i := 2) scLawReadVariable.nd rfl (Or.inl rfl) (pe_callH h__law_named hr (by omega) rfl pass0 (pa_cons (pv 0) (pa_cons (pe_ix ix_list (pv 1) pe_int (fun _ _ => rfl)) pa_nil))))
    (pss_cons (ps_if (pt_cmpR op_eq (pe_callB call_len_seq (by rfl) F.z_len (by decide +kernel) (pa_cons (pv 1) pa_nil)) pe_int (nomark _)) (pss_one (ps_ret (pe_tup (pa_cons (pv 2) (pa_cons pe_int pa_nil)))))
      pss_nil)
    (pss_cons (ps_set (i := 3) scLawReadVariable.nd rfl (Or.inl rfl) (pe_callH h__law_word hr (by omega) rfl pass0 (pa_cons (pv 0) (pa_cons (pe_ix ix_list (pv 1) pe_int (fun _ _ => rfl)) pa_nil))))
    (pss_cons (ps_if (PW.pt (pw_or (pt_cmpR op_isN (pv 3) pe_non (nomark _)) (pw_or1 (pt_cmpR op_lt (pe_callH h__law_valued hr (by omega) rfl pass0 (pa_cons (pv 3) (pa_cons pe_int (pa_cons pe_int pa_nil)))) pe_int (nomark _))))) (pss_one (ps_ret (pe_callH h__law_fail hr (by omega) rfl pass0 (pa_cons (pv 0) (pa_cons (pe_ix ix_tup (pe_ix ix_list (pv 1) pe_int (fun _ _ => rfl)) pe_int (fun _ _ => rfl)) pa_nil)))))
      pss_nil)
    (pss_one (ps_ret (pe_tup (pa_cons (pv 2) (pa_cons (pe_callTy call_int_str (by rfl) F.z_int (by decide +kernel) (pa_cons (pv 3) pa_nil)) pa_nil))))))))), ?_⟩
  refine ⟨_, rfl, ?_⟩
  obtain ⟨y, hy⟩ : ∃ y, ps[0]? = some y := ⟨_, List.getElem?_eq_getElem (show 0 < ps.length by omega)⟩
  obtain ⟨gy, wy⟩ := ok y (List.mem_of_getElem? hy)
  refine ix_at (i := 1) (k := 0) (by rfl) hl hn hy (by rfl) (fun u hu => ?_)
  refine ⟨m, st, u, y, rfl, ⟨hb, hu, gy, wy⟩, fun v1 H1 f1 b1 t1 => ?_⟩
  refine ⟨_, rfl, l, us, rfl, .inl (SqL.of (f1.lst hl)), rfl, _, rfl, ?_⟩
  rw [int_eq]
  have el := nds.length hn
  refine ite2 (fun c => ?_) (fun c => ?_)
  · have c := of_decide_eq_true c
    have e : ps = [y] := by
      match ps, hy, el, h1 with
      | [a], hy, _, _ => cases hy; rfl
      | a :: b :: r, hy, el, _ => simp at el; omega
    subst e
    simp only [varOf] at q
    rw [err1] at q
    refine ⟨_, rfl, lb rfl, fun p hp => q _ _ (f1.trans (Fr.new hp)) (b1.new hp) (fun d hs e => ?_)⟩
    obtain ⟨d1, r1, rfl⟩ := ok1 e
    rw [t1 d1 r1]
    exact dp_tup hp (.cons (.str _) (.cons (.int _) .nil))
  · have c : ¬ (us.length : Int) = 1 := by simpa using c
    obtain ⟨z, r', ep⟩ : ∃ z r', ps = y :: z :: r' := by
      match ps, hy, el, h1 with
      | [a], hy, el, _ => simp at el; omega
      | a :: b :: r, hy, el, _ => cases hy; exact ⟨b, r, rfl⟩
    have hz : ps[1]? = some z := by rw [ep]; rfl
    obtain ⟨gz, wz⟩ := ok z (List.mem_of_getElem? hz)
    rw [ep] at q
    simp only [varOf] at q
    rw [err2] at q
    refine ⟨_, rfl, ?_⟩
    refine ix_at (i := 1) (k := 1) (by rfl) (f1.lst hl) (nds.fr f1 _ _ hn) hz (by rfl) (fun u2 hu2 => ?_)
    refine ⟨m, _, u2, z, rfl, ⟨b1, hu2, gz, wz⟩, fun v4 H4 f4 b4 e4 => ?_⟩
    have f04 := f1.trans f4
    have fail : ∀ {j : Int} {st4 : Option Int} {HH : Hp}, numOf 1 8 z = .error j → z.at = j → Fr H HH → orE st4 (some j) = orE (orE st (err (nameOf y))) (some j) → ∀ H5, Fr HH H5 → Bad H5 m (orE st4 (some z.at)) → Q .non H5 := fun {j st4 HH} e ej f eo H5 f5 b5 => by
      rw [e] at q
      refine q _ _ (f.trans f5) ?_ (fun d hs e => ?_)
      · rw [show err (Except.error j : Rd Int) = some j from rfl, ← orE_assoc, ← eo, ← ej]; exact b5
      · obtain ⟨d1, d2, r1, r2, _⟩ := ok2 e
        cases r2
    cases z with
    | form qs j =>
      rw [show v4 = .non from e4]
      have b4 : Bad H4 m (orE (orE st (err (nameOf y))) (some j)) := b4
      refine ⟨_, rfl, rfl, _, rfl, iteT ⟨_, rfl, ?_⟩⟩
      refine ix_at (i := 1) (k := 1) (by rfl) (f04.lst hl) (nds.fr f04 _ _ hn) hz (by rfl) (fun u3 hu3 => ?_)
      refine at_v hu3 ?_
      exact ⟨m, _, _, rfl, at_nonneg gz, b4, fail rfl rfl f04 (orE_self _ _)⟩
    | word w j =>
      rw [show v4 = .str w from e4]
      have hlen : w.length ≤ sizeLine := by rw [Node.wt] at wz; rw [line_eq]; omega
      have b4 : Bad H4 m (orE st (err (nameOf y))) := by have b4 : Bad H4 m (orE (orE st (err (nameOf y))) none) := b4; rw [orE_none] at b4; exact b4
      refine ⟨_, rfl, rfl, _, rfl, iteF ⟨_, rfl, w, _, _, rfl, hlen, fun H5 s5 => ⟨_, _, rfl, rfl, _, rfl, ite2 (fun h2 => ?_) (fun h2 => ?_)⟩⟩⟩
      · have h2 : (numIn w 1 8).getD (-1) < 0 := of_decide_eq_true h2
        cases e : numIn w 1 8 with
        | some k => exact absurd (getD_some e (by decide)) (by omega)
        | none =>
          have en : numOf 1 8 (.word w j) = .error j := by simp only [numOf]; rw [e]
          refine ⟨_, rfl, ?_⟩
          refine ix_at (i := 1) (k := 1) (by rfl) ((f04.trans (frS s5)).lst hl) (nds.fr (f04.trans (frS s5)) _ _ hn) hz (by rfl) (fun u3 hu3 => ?_)
          refine at_v hu3 ?_
          exact ⟨m, _, _, rfl, at_nonneg gz, b4.same s5, fail en rfl (f04.trans (frS s5)) rfl⟩
      · have h2 : ¬ (numIn w 1 8).getD (-1) < 0 := by simpa using h2
        cases e : numIn w 1 8 with
        | none => exact absurd (by rw [e]; decide) h2
        | some k =>
          obtain ⟨e1, e2, _⟩ := numIn_some e
          obtain ⟨x1, x2⟩ := isNum_text e1
          have en : numOf 1 8 (.word w j) = .ok k := by simp only [numOf]; rw [e]
          rw [en] at q
          refine ⟨_, rfl, _, rfl, w, _, rfl, x1, x2, lb rfl, fun p hp => ?_⟩
          refine q _ _ ((f04.trans (frS s5)).trans (Fr.new hp)) ?_ (fun d hs e => ?_)
          · show Bad _ m (orE st (orE _ none))
            rw [orE_none]
            exact (b4.same s5).new hp
          · obtain ⟨d1, d2, r1, r2, rfl⟩ := ok2 e
            cases r2
            rw [← e2, t1 d1 r1]
            exact dp_tup hp (.cons (.str _) (.cons (.int _) .nil))
theorem has__law_read_procedure (F : Facts w K mg) (n : Nat) : Has P w K mg base CX0 (2 * n + 13) "_law_read_procedure" pLawReadProcedure (spLRead (n + 1) (procOf (rdStmt n))) := by
  have h__law_read_body := has__law_read_body F (has__law_read_statement (P := P) (base := base) F n)
  have h__law_read_variable := has__law_read_variable (P := P) (base := base) F
  have h__law_named := has__law_named (P := P) (base := base) F
  have h__law_list := has__law_list (P := P) (base := base) F
  refine has_0 (k := 2 * n + 12) F.g__law_read_procedure F.f__law_read_procedure scLawReadProcedure bLawReadProcedure (fun vs H Q E h => by obtain ⟨_, _, _, _, rfl, _⟩ := h; rfl) fun cdv A outer s H vs Q E hr h => ?_
  obtain ⟨m, st, v, x, rfl, g, dep, q⟩ := h
  have hu := hu_of hr
  refine ⟨_, (pss_cons (ps_if (pt_cmpR op_isN (pe_callH h__law_list hr (by omega) rfl pass0 (pa_cons (pv 0) (pa_cons (pv 1) (pa_cons pe_int (pa_cons pe_int pa_nil))))) pe_non (nomark _)) (pss_one (ps_ret pe_non))
      pss_nil)
    (pss_cons (ps_set (i := 2) scLawReadProcedure.nd rfl (Or.inl rfl) (pe_ix ix_tup (pv 1) pe_int (fun _ _ => rfl)))
    (pss_cons (ps_set (i := 3) scLawReadProcedure.nd rfl (Or.inl rfl) (pe_callH h__law_named hr (by omega) rfl pass0 (pa_cons (pv 0) (pa_cons (pe_ix ix_list (pv 2) pe_int (fun _ _ => rfl)) pa_nil))))
    (pss_cons (ps_set (i := 4) scLawReadProcedure.nd rfl (Or.inl rfl) (pe_callH h__law_list hr (by omega) rfl pass0 (pa_cons (pv 0) (pa_cons (pe_ix ix_list (pv 2) pe_int (fun _ _ => rfl)) (pa_cons pe_int (pa_cons pe_int pa_nil))))))
    (pss_cons (ps_set (i := 5) scLawReadProcedure.nd rfl (Or.inl rfl) (pe_callTy call_tuple_of (by rfl) F.z_tuple (by decide +kernel) (pa_cons (pe_lc (own := [("_law_part", 7)]) (g := gName 7) (tt := tYes) rfl scLawReadProcedure.nd (pi_list (pe_orT (pv 4) (pe_one (pe_lst pa_nil)))) (blkOk_by (N := nLawReadProcedure) (sc := defScope sLawReadProcedure) (by decide +kernel)) (fun _ _ _ _ _ => (pg_name (i := 7) scLawReadProcedure.nd rfl (Or.inl rfl))) (fun _ _ _ _ _ => pts_nil) (fun _ _ _ _ _ => (pe_callH h__law_named hr (by omega) rfl pass0 (pa_cons (pv 0) (pa_cons (pv 7) pa_nil))))) pa_nil)))
    (pss_cons (ps_set (i := 6) scLawReadProcedure.nd rfl (Or.inl rfl) (pe_lst pa_nil))
    (pss_cons (ps_for PassesOwn.never rfl (pi_list (pe_orT (pe_callH h__law_list hr (by omega) rfl pass0 (pa_cons (pv 0) (pa_cons (pe_ix ix_list (pv 2) pe_int (fun _ _ => rfl)) (pa_cons pe_int (pa_cons pe_int pa_nil))))) (pe_one (pe_lst pa_nil)))) (pg_name (i := 7) scLawReadProcedure.nd rfl (Or.inl rfl))
      (pss_one (ps_if (pt_cmpR op_notN (pe_callH h__law_list hr (by omega) rfl pass0 (pa_cons (pv 0) (pa_cons (pv 7) (pa_cons pe_int (pa_cons pe_int pa_nil))))) pe_non (nomark _)) (pss_one (ps_expr (pe_bm PySem.F.plainAttrs_list PySem.F.slot_list_append PySem.F.type_list_append mt_append (pv 6) (pa_cons (pe_callH h__law_read_variable hr (by omega) rfl pass0 (pa_cons (pv 0) (pa_cons (pe_ix ix_tup (pv 7) pe_int (fun _ _ => rfl)) pa_nil))) pa_nil))))
        pss_nil)))
    (pss_one (ps_ret (pe_tup (pa_cons (pv 3) (pa_cons (pv 5) (pa_cons (pe_callTy call_tuple_of (by rfl) F.z_tuple (by decide +kernel) (pa_cons (pv 6) pa_nil)) (pa_cons (pe_callH h__law_read_body hr (by omega) rfl pass0 (pa_cons (pv 0) (pa_cons (pe_slice sl_list (pv 2) (po_some pe_int) po_none) pa_nil))) pa_nil)))))))))))))), ?_⟩
  refine ⟨_, rfl, _, rfl, m, st, v, x, 4, 9999, rfl, g, fun v1 H1 f1 b1 o1 => ?_⟩
  rw [parts_9999 g.good g.wt] at b1 o1
  unfold procOf at q
  cases e1 : partsIn 4 inf x with
  | error j =>
    rw [e1] at b1 o1 q
    rw [show v1 = .non from o1]
    exact ⟨rfl, _, rfl, iteT (q _ _ f1 b1 (fun d _ z => nomatch z))⟩
  | ok ps =>
  rw [e1] at b1 o1 q
  obtain ⟨i, ex, l1, _⟩ := parts_form e1
  rw [ex] at g dep
  obtain ⟨l0, us0, rfl, _, _⟩ := o1
  have b1 : Bad H1 m st := by have b1 : Bad H1 m (orE st none) := b1; rw [orE_none] at b1; exact b1
  have oks := Oks.of g.good g.wt dep
  obtain ⟨a, l, us, rfl, ha, hl, hn⟩ := nd.fr f1 _ _ g.n
  obtain ⟨x0, y, b, c, r', ep⟩ := lenP l1
  have hy : ps[1]? = some y := by rw [ep]; rfl
  have hb : ps[2]? = some b := by rw [ep]; rfl
  have hc : ps[3]? = some c := by rw [ep]; rfl
  obtain ⟨gy, wy, dy⟩ := oks y (List.mem_of_getElem? hy)
  obtain ⟨gb, wb, db⟩ := oks b (List.mem_of_getElem? hb)
  obtain ⟨gc, wc, dc⟩ := oks c (List.mem_of_getElem? hc)
  have oksr : Oks n r' := fun u hu => oks u (by rw [ep]; simp [hu])
  have hlr : r'.length ≤ 6000 := by
    have := g.good; rw [Node.good] at this
    have g1 := len_le_wts this.1
    have := g.wt; rw [Node.wt] at this
    rw [ep] at g1 this
    simp at g1
    omega
  rw [ep] at q
  have q : ∀ v' H', Fr H H' → Bad H' m (orE st (err (nameOf y >>= fun nm => body nameD b >>= fun x => body refOf c >>= fun y => rdAll (rdStmt n) r' >>= fun z => (.ok (.tuple [.str nm, x, y, .tuple z]) : Rd PyData)))) →
    (∀ d, st = none → (nameOf y >>= fun nm => body nameD b >>= fun x => body refOf c >>= fun y => rdAll (rdStmt n) r' >>= fun z => (.ok (.tuple [.str nm, x, y, .tuple z]) : Rd PyData)) = .ok d → Tv H' v' d) → Q v' H' := q
  rw [err4] at q
  clear ex e1
  refine ⟨rfl, _, rfl, iteF ⟨_, rfl, _, _, _, _, rfl, rfl, SqT.of ha, rfl, ?_⟩⟩
  refine ⟨_, rfl, ?_⟩
  refine ix_at (i := 2) (k := 1) (by rfl) hl hn hy (by rfl) (fun u hu => ?_)
  refine ⟨m, st, u, y, rfl, ⟨b1, hu, gy, wy⟩, fun v3 H3 f3 b3 t3 => ?_⟩
  refine ⟨_, rfl, ?_⟩
  refine ix_at (i := 2) (k := 2) (by rfl) (f3.lst hl) (nds.fr f3 _ _ hn) hb (by rfl) (fun u2 hu2 => ?_)
  refine ⟨m, _, u2, b, 0, 9999, rfl, ⟨b3, hu2, gb, wb⟩, fun v5 H5 f5 b5 o5 => ?_⟩
  rw [parts_9999 gb wb] at b5 o5
  obtain ⟨ok5, ln5⟩ := parts_oks gb wb db
  refine or_list (i := 4) (x := b) (by rfl) o5 (fun l6 us6 H6 s6 hl6 hn6 => ?_)
  refine ⟨l6, rfl, ⟨_, SqL.of hl6⟩, fun D hD => lc_law (K := K) (m := m) (rd := nameD) hl6 hn6 (by rw [nds.length hn6]; exact ln5) hD (b5.same s6) (fun v y H' st' Q' hy f hv b q => ⟨_, rfl, _, rfl, m, st', v, y, rfl, ⟨b, hv, (ok5 y hy).1, (ok5 y hy).2.1⟩, fun v' H'' f' b' t' => q v' H'' f' ?_ (fun d _ e => ?_)⟩) (fun H7 us7 f7 hd7 b7 t7 => ?_)⟩
  · unfold nameD
    cases e : nameOf y with
    | error j => rw [e] at b'; exact b'
    | ok s => rw [e] at b'; exact b'
  · unfold nameD at e
    cases e3 : nameOf y with
    | error j => rw [e3] at e; cases e
    | ok s => rw [e3] at e; cases e; rw [t' s e3]; exact .str _
  rw [orE_assoc, ← body_err] at b7
  refine ⟨D, us7, rfl, .inl ⟨SqL.of hd7, fun p8 hp8 => ?_⟩⟩
  have f38 := (((f3.trans f5).trans (frS s6)).trans f7).trans (Fr.new (o := .tup us7) hp8)
  have b8 := b7.new (o := .tup us7) hp8
  have x8 : ∀ ds, st = none → err (nameOf y) = none → partsIn 0 inf b = .ok (partsL b) → rdAll nameD (partsL b) = .ok ds → Tv (upd H7 p8 (.tup us7)) (.ref p8) (.tuple ds) := fun ds h1 h2 h3 h4 => dp_tup hp8 (t7 ds (by rw [h1, h2, err_none h3]; rfl) h4)
  generalize hH8 : upd H7 p8 (.tup us7) = H8 at *
  refine ⟨lb rfl, fun R hR => ?_⟩
  have fR := Fr.new (o := .lst []) hR
  obtain ⟨u9, hu9', hc8⟩ := (nds.fr f38 _ _ hn).get hc
  refine ⟨_, rfl, _, rfl, l, us, 3, u9, rfl, rfl, SqL.of ((f38.trans fR).lst hl), at_of (j := 3) rfl hu9', ?_⟩
  refine ⟨m, _, u9, c, 0, 9999, rfl, ⟨b8.new hR, nd.fr fR _ _ hc8, gc, wc⟩, fun v9 H9 f9 b9 o9 => ?_⟩
  rw [parts_9999 gc wc] at b9 o9
  obtain ⟨okc, lnc⟩ := parts_oks gc wc dc
  refine or_listV o9 (fun la usa Ha sa hla hna hlk => ?_)
  refine ⟨la, rfl, ⟨_, SqL.of hla⟩, ?_⟩
  have hR9 : H9 R = some (.lst []) := f9.lst upd_same
  have hRa : Ha R = some (.lst []) := sa _ _ hR9
  have f89 := fR.trans f9
  have f8a : Fr H8 Ha := f89.trans (frS sa)
  have ba := b9.same sa
  -- the heap without R
  obtain ⟨HB, hBa, hBR⟩ : ∃ HB : Hp, (∀ b, b ≠ R → HB b = Ha b) ∧ HB R = none := ⟨fun b => if b = R then none else Ha b, fun b h => if_neg h, if_pos rfl⟩
  have sB : Same HB Ha := fun b o h => by
    have b1 : b ≠ R := fun z => by rw [z, hBR] at h; cases h
    rw [← hBa b b1]; exact h
  have f8B : Fr H8 HB := fun b o hd h => by
    rw [hBa b (ne_of_none h hR)]
    exact f8a b o hd h
  have hnB : HB la = some (.lst usa) ∧ nds HB usa (partsL c) := by
    rcases hlk with ⟨h1, h2⟩ | ⟨a', i', e1, e2⟩
    · have lR : la ≠ R := fun z => by rw [z, hR9] at h1; cases h1
      refine ⟨by rw [hBa la lR]; exact hla, ?_⟩
      rw [h2] at hna ⊢
      exact hna
    · cases c with
      | word w j =>
        obtain ⟨a2, x1, x2⟩ := hc8
        rw [e1] at x1
        cases x1
        rw [f89.tup x2] at e2
        cases e2
      | form ps' j =>
        rw [partsL_form gc wc]
        obtain ⟨a2, l2, us2, x1, x2, x3, x4⟩ := hc8
        rw [e1] at x1
        cases x1
        rw [f89.tup x2] at e2
        cases e2
        have y3 := f8a.lst x3
        rw [hla] at y3
        cases y3
        exact ⟨f8B.lst x3, nds.fr f8B _ _ x4⟩
  have hzc : usa.length ≤ 6000 := by rw [nds.length hnB.2]; exact lnc
  generalize estR : orE (orE (orE st (err (nameOf y))) (err (body nameD b))) (err (partsIn 0 inf c)) = stR at *
  refine for_list (xs := usa) (fun k σ H3 => ∃ z us', σ = [some (.ref m), some (.ref a), some (.ref l), some v3, some v5, some (.ref p8), some (.ref R), z] ∧ Fr HB H3 ∧ H3 R = some (.lst us') ∧ us'.length ≤ k ∧ Bad H3 m (orE stR (err (rdAll refOf ((partsL c).take k)))) ∧
    (∀ ds, stR = none → rdAll refOf ((partsL c).take k) = .ok ds → TvAll H3 us' ds)) ⟨none, [], rfl, frS sB, hRa, Nat.le_refl _, by show Bad _ m (orE stR none); rw [orE_none]; exact ba, fun ds _ e => by cases e; exact .nil⟩ (fun k σ H3 _ h => ?_) (fun k x σ H3 hx h => ?_) (fun σ H3 h => ?_)
  · obtain ⟨z, us', _, f, _⟩ := h
    exact SqL.of (f.lst hnB.1)
  · obtain ⟨z, us', rfl, f, hd, hk, bk, tk⟩ := h
    obtain ⟨yk, hyk, hnk⟩ := nds.back hnB.2 hx
    obtain ⟨gk, wk, dk⟩ := okc yk (List.mem_of_getElem? hyk)
    have hkl : k < usa.length := (List.getElem?_eq_some_iff.mp hx).1
    have etake : (partsL c).take (k + 1) = (partsL c).take k ++ [yk] := by rw [List.take_add_one, hyk]; rfl
    have n3 := nd.fr f _ _ hnk
    refine ⟨_, rfl, _, rfl, m, _, x, yk, 1, 2, rfl, ⟨bk, n3, gk, wk⟩, fun v4 H4 f4 b4 o4 => ?_⟩
    have er := refOf_err yk
    cases e4 : partsIn 1 2 yk with
    | error j =>
      rw [e4] at b4 o4 er
      rw [show v4 = .non from o4]
      refine ⟨rfl, _, rfl, iteF ?_⟩
      refine ⟨some x, us', rfl, f.trans f4, f4.lst hd, by omega, ?_, fun ds hs e => ?_⟩
      · rw [etake, rdAll_snoc, err2, ← orE_assoc, er]; exact b4
      · rw [etake, rdAll_snoc] at e
        obtain ⟨d1, d2, r1, r2, rfl⟩ := ok2 e
        rw [r2] at er; cases er
    | ok pk =>
      obtain ⟨ik, ek, lk1, lk2⟩ := parts_form e4
      rw [e4] at b4 o4 er
      obtain ⟨lx, ux, rfl, _⟩ := o4
      subst ek
      have b4 : Bad H4 m (orE stR (err (rdAll refOf ((partsL c).take k)))) := by have b4 : Bad H4 m (orE (orE stR (err (rdAll refOf ((partsL c).take k)))) none) := b4; rw [orE_none] at b4; exact b4
      obtain ⟨ax, l4, u4, rfl, q1, q2, q3⟩ := nd.fr f4 _ _ n3
      refine ⟨rfl, _, rfl, iteT ⟨_, rfl, .inl ⟨rfl, _, SqL.of (f4.lst hd)⟩, _, rfl, _, rfl, _, _, _, _, rfl, rfl, SqT.of q1, rfl, ?_⟩⟩
      refine ⟨m, _, l4, u4, pk, rfl, b4, q2, q3, lk1, fun u hu => ?_, fun v5 H5 f5 b5 t5 => ?_⟩
      · have h1 := gk; rw [Node.good] at h1
        have h2 := wk; rw [Node.wt] at h2
        have := wt_mem hu
        exact ⟨good_mem h1.1 hu, by omega⟩
      · have hd5 := f5.lst (f4.lst hd)
        have ft : Ft H5 (upd H5 R (.lst (us' ++ [v5]))) := Ft.upd hd5 (fun _ z => nomatch z)
        refine ⟨_, _, _, rfl, rfl, hd5, by rw [line_eq]; omega, some (.ref ax), us' ++ [v5], rfl, Fr.at_new ((f.trans f4).trans f5) hBR, upd_same, by simp; omega, ?_, fun ds hs e => ?_⟩
        · rw [etake, rdAll_snoc, err2, ← orE_assoc, er]
          exact b5.upd hd5 (fun _ z => nomatch z)
        · rw [etake, rdAll_snoc] at e
          obtain ⟨d1, d2, r1, r2, rfl⟩ := ok2 e
          have r2' : varOf pk = .ok d2 := by unfold refOf at r2; rw [e4] at r2; exact r2
          have z : orE stR (err (rdAll refOf ((partsL c).take k))) = none := by rw [hs, r1]; rfl
          exact (TvAll.ft ft _ _ (TvAll.fr (f4.trans f5) _ _ (tk d1 hs r1))).append (.cons (Tv.ft ft _ _ (t5 d2 z r2')) .nil)
  · obtain ⟨z, us', rfl, f, hd, hk, bk, tk⟩ := h
    rw [nds.length hnB.2, List.take_length] at bk tk
    refine ⟨_, rfl, _, rfl, _, rfl, R, us', rfl, .inl ⟨SqL.of hd, fun p9 hp9 => ?_⟩⟩
    have f1B := f38.trans f8B
    have fr9 := Fr.new (o := .tup us') hp9
    have cut : cutV us (some (4 : Int)) none = us.drop 4 := cut_from 4
    have dr : ps.drop 4 = r' := by rw [ep]; rfl
    refine ⟨_, rfl, _, rfl, _, rfl, _, _, rfl, SqL.of (((f1B.trans f).trans fr9).lst hl), fun p hp => ?_⟩
    refine ⟨m, _, .ref p, r', rfl, (bk.new hp9).new hp, fun _ => ⟨p, us.drop 4, rfl, by rw [cut]; exact upd_same, ?_⟩, oksr, hlr, fun v6 H6 f6 b6 t6 => ⟨lb rfl, fun p2 hp2 => ?_⟩⟩
    · rw [← dr]
      exact nds.fr (((f1B.trans f).trans fr9).trans (Fr.new hp)) _ _ (nds.drop 4 hn)
    · have fpp := (Fr.new hp).trans f6
      refine q _ _ (((((f1.trans f1B).trans f).trans fr9).trans fpp).trans (Fr.new hp2)) ?_ (fun d hs e => ?_)
      · have e3 : err (body refOf c) = orE (err (partsIn 0 inf c)) (err (rdAll refOf (partsL c))) := body_err _ _
        rw [e3, ← orE_assoc, ← orE_assoc, ← orE_assoc, ← orE_assoc, estR]
        exact b6.new hp2
      · obtain ⟨d1, d2, d3, d4, r1, r2, r3, r4, rfl⟩ := ok4 e
        obtain ⟨ds2, y1, y2, rfl⟩ := body_ok r2
        obtain ⟨ds3, z1, z2, rfl⟩ := body_ok r3
        have hR0 : stR = none := by rw [← estR, hs, err_none r1, err_none r2, err_none z1]; rfl
        have x1 : v3 = .str d1 := t3 d1 r1
        have x2 := x8 ds2 hs (err_none r1) y1 y2
        have x3 := tk ds3 hR0 z2
        have x4 := t6 d4 (by rw [hR0, err_none z2]; rfl) r4
        rw [x1]
        exact dp_tup hp2 (.cons (.str _) (.cons (Tv.fr (((f8B.trans f).trans fr9).trans fpp) _ _ x2) (.cons (Tv.fr fpp _ _ (dp_tup hp9 x3)) (.cons x4 .nil))))
end
end K10
/-! K10Law8: the law's own reader: forms. Printed by expand.py from K10Law8.tpl. -/
namespace K10
open PySem PySem.Spec PyProof.Rows L2
theorem s_op : Str.ofString "(" = ⟨#[40]⟩ := by decide +kernel
theorem s_cp : Str.ofString ")" = ⟨#[41]⟩ := by decide +kernel
theorem s_spc : Str.ofString " " = ⟨#[32]⟩ := by decide +kernel
theorem s_em : Str.ofString "" = ⟨#[]⟩ := by decide +kernel
theorem lex_space : ∀ (cs cur : List Nat) (i : Int), lex i cur (cs ++ [32]) = lex i cur cs
  | [], cur, i => by
    simp [lex, isSep, isPar, wordTok]
  | c :: cs, cur, i => by
    rw [List.cons_append, lex, lex, lex_space cs, lex_space cs]
theorem frS_trans {H H1 H2 : Hp} (s : Same H H1) (f : Fr H1 H2) : Fr H H2 := (frS s).trans f
/-- what the caller of the forms is owed -/
def RetF (Q : VK) (H : Hp) (m : Addr) (r : Rd (List Node)) : Prop := ∀ v' H', Fr H H' → Bad H' m (err r) → (∀ ns, r = .ok ns → ∃ l us Hn, v' = .ref l ∧ Same Hn H' ∧ (∀ b, Hn b ≠ none → H b = none) ∧ Hn l = some (.lst us) ∧ nds Hn us ns) → (∀ e, r = .error e → v' = .non) → Q v' H'
theorem RetF.bad {Q : VK} {H H' : Hp} {m : Addr} {r : Rd (List Node)} {j : Int} (q : RetF Q H m r) (e : r = .error j) (f : Fr H H') (b : Bad H' m (some j)) : Q .non H' := by
  subst e
  exact q .non H' f b (fun d z => nomatch z) (fun _ _ => rfl)
def finOf (len : Int) (r : Rd FS) : Rd (List Node) := match r with
  | .error e => .error e
  | .ok f => f.fin len
theorem cat_sign (cur : List Nat) (c : Nat) : ((⟨cur.toArray⟩ : Str) ++ (⟨#[c]⟩ : Str)) = ⟨(cur ++ [c]).toArray⟩ := by
  have e : ((⟨cur.toArray⟩ : Str) ++ (⟨#[c]⟩ : Str)).cps.toList = cur ++ [c] := by
    show (cur.toArray ++ #[c]).toList = _
    simp
  have : ((⟨cur.toArray⟩ : Str) ++ (⟨#[c]⟩ : Str)).cps = (cur ++ [c]).toArray := by apply Array.ext'; rw [e]
  have h : ((⟨cur.toArray⟩ : Str) ++ (⟨#[c]⟩ : Str)) = ⟨((⟨cur.toArray⟩ : Str) ++ (⟨#[c]⟩ : Str)).cps⟩ := rfl
  rw [h, this]
theorem cur_len (cur : List Nat) : (⟨cur.toArray⟩ : Str).length = cur.length := by show cur.toArray.size = _; simp
/-- text[at] if at < len(text) else ' ' -/
theorem char_at {σ : L2.St} {H : Hp} {t : Str} {k c : Nat} {kk : Int} {Q : VK} (h0 : σ[0]? = some (some (.str t))) (h4 : σ[4]? = some (some (.int kk))) (ek : kk = (k : Int)) (ht : t.length ≤ sizeLine) (hc : (t.cps.toList ++ [32])[k]? = some c) (q : Q (.str ⟨#[c]⟩) H) :
    tIf (tTest (tOp (rI0 fun i j => .bl (decide (i < j))) (tVar 4) (tCB (fun xs H Q => ∃ z, xs = [.str z] ∧ z.length ≤ sizeLine ∧ Q (.int z.length) H) (tCons (tVar 0) tNil)))) (tOp rIxS (tVar 0) (tVar 4)) (L2.tC (.str " ")) σ H Q := by
  have hL := len_toList t
  subst ek
  refine ⟨_, h4, _, h0, t, rfl, ht, _, _, rfl, rfl, _, rfl, ite2 (fun y => ?_) (fun y => ?_)⟩
  · have y : ((k : Nat) : Int) < t.length := of_decide_eq_true y
    rw [List.getElem?_append_left (by omega)] at hc
    exact ⟨_, h0, _, h4, t, _, c, rfl, rfl, ht, atI_nat hc, q⟩
  · have y : ¬ ((k : Nat) : Int) < t.length := by simpa using y
    rw [List.getElem?_append_right (by omega)] at hc
    have e : k - t.cps.toList.length = 0 := by
      have := (List.getElem?_eq_some_iff.mp hc).1
      simp at this
      omega
    rw [e] at hc
    cases hc
    rw [show (" " : Str) = ⟨#[32]⟩ from s_spc]
    exact q
section
variable {P : Program} {w : World} {K : PySem.W.Frag} {mg : Str → Option Value} {base : Heap}
def nLawForms : List Str := ["_law_text_here", "_law_m", "_law_rows", "_law_word_here", "_law_at", "_law_char", "_law_inner"]
def pLawForms : List Str := ["_law_text_here", "_law_m"]
theorem scLawForms : FnScope nLawForms pLawForms (defScope sLawForms) := ⟨rfl, rfl, rfl, by decide +kernel, rfl, by decide +kernel, by decide +kernel⟩
theorem bLawForms : BindsBy "_law_forms" sLawForms pLawForms := fun _ _ _ _ _ _ us hl => match us, hl with | [_, _], _ => rfl
def spLForms : Sp := fun vs H Q _ => ∃ (t : Str) (m : Addr), vs = [.str t, .ref m] ∧ t.length ≤ 6000 ∧ Bad H m none ∧ RetF Q H m (formsOf t.cps.toList)
theorem has__law_forms (F : Facts w K mg) : Has P w K mg base CX0 2 "_law_forms" pLawForms spLForms := by
  have h__law_fail := has__law_fail (P := P) (base := base) F
  refine has_0 F.g__law_forms F.f__law_forms scLawForms bLawForms (fun vs H Q E h => by obtain ⟨_, _, rfl, _⟩ := h; rfl) fun cdv A outer s H vs Q E hr h => ?_
  obtain ⟨t, m, rfl, hle, hb, q⟩ := h
  refine ⟨_, (pss_cons (ps_set (i := 2) scLawForms.nd rfl (Or.inl rfl) (pe_lst (pa_cons (pe_lst pa_nil) pa_nil)))
    (pss_cons (ps_set (i := 3) scLawForms.nd rfl (Or.inl rfl) pe_str)
    (pss_cons (ps_for PassesOwn.never rfl (pi_range1 rfl F.z_range (pa_cons (pe_op op_add (pe_callB call_len_str (by rfl) F.z_len (by decide +kernel) (pa_cons (pv 0) pa_nil)) pe_int) pa_nil)) (pg_name (i := 4) scLawForms.nd rfl (Or.inl rfl))
      (pss_cons (ps_set (i := 5) scLawForms.nd rfl (Or.inl rfl) (pe_ifExp (pt_cmpR op_lt (pv 4) (pe_callB call_len_str (by rfl) F.z_len (by decide +kernel) (pa_cons (pv 0) pa_nil)) (nomark _)) (pe_ix ix_str (pv 0) (pv 4) (fun _ _ => rfl)) pe_str))
      (pss_cons (ps_if (pt_cmpR op_notIn_sign (pv 5) pe_str (by rfl)) (pss_cons (ps_set (i := 3) scLawForms.nd rfl (Or.inl rfl) (pe_op op_add_str (pv 3) (pv 5)))
        (pss_one ps_continue))
        pss_nil)
      (pss_cons (ps_if (pt_cmpR op_ne (pv 3) pe_str (nomark _)) (pss_cons (ps_if (pt_cmpR op_eq (pe_callB call_len_seq (by rfl) F.z_len (by decide +kernel) (pa_cons (pv 2) pa_nil)) pe_int (nomark _)) (pss_one (ps_ret (pe_callH h__law_fail hr (by omega) rfl pass0 (pa_cons (pv 1) (pa_cons (pe_op op_sub (pv 4) (pe_callB call_len_str (by rfl) F.z_len (by decide +kernel) (pa_cons (pv 3) pa_nil))) pa_nil)))))
          pss_nil)
        (pss_one (ps_expr (pe_bm PySem.F.plainAttrs_list PySem.F.slot_list_append PySem.F.type_list_append mt_append (pe_ix ix_list (pv 2) (pe_un un_neg pe_int) (fun _ _ => rfl)) (pa_cons (pe_tup (pa_cons (pv 3) (pa_cons (pe_op op_sub (pv 4) (pe_callB call_len_str (by rfl) F.z_len (by decide +kernel) (pa_cons (pv 3) pa_nil))) pa_nil))) pa_nil)))))
        pss_nil)
      (pss_cons (ps_set (i := 3) scLawForms.nd rfl (Or.inl rfl) pe_str)
      (pss_one (ps_if (pt_cmpR op_eq (pv 5) pe_str (nomark _)) (pss_cons (ps_if (pt_cmpR op_gt (pe_callB call_len_seq (by rfl) F.z_len (by decide +kernel) (pa_cons (pv 2) pa_nil)) pe_int (nomark _)) (pss_one (ps_ret (pe_callH h__law_fail hr (by omega) rfl pass0 (pa_cons (pv 1) (pa_cons (pv 4) pa_nil)))))
          pss_nil)
        (pss_cons (ps_set (i := 6) scLawForms.nd rfl (Or.inl rfl) (pe_lst pa_nil))
        (pss_cons (ps_expr (pe_bm PySem.F.plainAttrs_list PySem.F.slot_list_append PySem.F.type_list_append mt_append (pe_ix ix_list (pv 2) (pe_un un_neg pe_int) (fun _ _ => rfl)) (pa_cons (pe_tup (pa_cons (pv 6) (pa_cons (pv 4) pa_nil))) pa_nil)))
        (pss_one (ps_expr (pe_bm PySem.F.plainAttrs_list PySem.F.slot_list_append PySem.F.type_list_append mt_append (pv 2) (pa_cons (pv 6) pa_nil)))))))
        (pss_one (ps_if (pt_cmpR op_eq (pv 5) pe_str (nomark _)) (pss_cons (ps_if (pt_cmpR op_eq (pe_callB call_len_seq (by rfl) F.z_len (by decide +kernel) (pa_cons (pv 2) pa_nil)) pe_int (nomark _)) (pss_one (ps_ret (pe_callH h__law_fail hr (by omega) rfl pass0 (pa_cons (pv 1) (pa_cons (pv 4) pa_nil)))))
            pss_nil)
          (pss_one (ps_expr (pe_bm0 PySem.F.plainAttrs_list PySem.F.slot_list_pop PySem.F.type_list_pop mt_pop (pv 2)))))
          pss_nil)))))))))
    (pss_cons (ps_if (pt_cmpR op_gt (pe_callB call_len_seq (by rfl) F.z_len (by decide +kernel) (pa_cons (pv 2) pa_nil)) pe_int (nomark _)) (pss_one (ps_ret (pe_callH h__law_fail hr (by omega) rfl pass0 (pa_cons (pv 1) (pa_cons (pe_callB call_len_str (by rfl) F.z_len (by decide +kernel) (pa_cons (pv 0) pa_nil)) pa_nil)))))
      pss_nil)
    (pss_one (ps_ret (pe_ix ix_list (pv 2) pe_int (fun _ _ => rfl)))))))), ?_⟩
  have hL := len_toList t
  have ht : t.length ≤ sizeLine := by rw [line_eq]; omega
  refine ⟨lb rfl, fun F0 hF => ⟨lb rfl, fun Pa hP => ?_⟩⟩
  have PF : Pa ≠ F0 := fun z => by rw [z, upd_same] at hP; cases hP
  have hP' : H Pa = none := by rw [upd_ne PF] at hP; exact hP
  have sP := Same.trans (sameNew (o := .lst []) hF) (sameNew (o := .lst [.ref F0]) hP)
  have hPF : (upd (upd H F0 (.lst [])) Pa (.lst [.ref F0])) F0 = some (.lst []) := by rw [upd_ne (Ne.symm PF), upd_same]
  have hPP : (upd (upd H F0 (.lst [])) Pa (.lst [.ref F0])) Pa = some (.lst [.ref F0]) := upd_same
  generalize upd (upd H F0 (.lst [])) Pa (.lst [.ref F0]) = HP at *
  have eF : formsOf t.cps.toList = finOf (t.cps.toList.length : Nat) (fs0.run (lex 0 [] (t.cps.toList ++ [32]))) := by rw [lex_space]; rfl
  rw [eF] at q
  have cl : (t.cps.toList ++ [32]).length = t.length + 1 := by simp [hL]
  refine ⟨_, rfl, t, rfl, ht, _, _, rfl, rfl, _, rfl, by omega, by omega, ?_⟩
  have en : ((t.length : Int) + 1).toNat = t.length + 1 := by omega
  rw [en]
  refine for_range (n := t.length + 1) (fun k σ H3 => ∃ f Hc lc ls cur n z4 z5 z6, σ = [some (.str t), some (.ref m), some (.ref Pa), some (.str ⟨cur.toArray⟩), z4, z5, z6] ∧ FI H Hc H3 Pa F0 lc ls f ∧ FB f n ∧ n + cur.length ≤ k ∧ (k ≤ t.length ∨ cur = []) ∧ (∀ x ∈ cur, isSep x = false) ∧
    finOf (t.cps.toList.length : Nat) (fs0.run (lex 0 [] (t.cps.toList ++ [32]))) = finOf (t.cps.toList.length : Nat) (f.run (lex (k : Int) cur ((t.cps.toList ++ [32]).drop k))))
    ⟨fs0, _, F0, [], [], 0, none, none, none, by rw [show (Str.ofString "") = ⟨#[]⟩ from s_em]; rfl, FI.start hF hP' PF sP hPF hPP, fb0, Nat.le_refl _, .inr rfl, fun _ z => absurd z (by simp), rfl⟩ (fun k σ H3 hk h => ?_) (fun σ H3 h => ?_)
  · obtain ⟨f, Hc, lc, ls, cur, n, z4, z5, z6, rfl, fi, fb, hn, _, hsep, hrun⟩ := h
    obtain ⟨c, hc⟩ : ∃ c, (t.cps.toList ++ [32])[k]? = some c := ⟨_, List.getElem?_eq_getElem (by omega)⟩
    rw [drop_cons hc] at hrun
    have zk : (0 : Int) + ((k : Nat) : Int) = (k : Nat) := by omega
    have hsz : (⟨cur.toArray⟩ : Str).length ≤ 6000 := by rw [cur_len]; omega
    rw [zk]
    refine char_at (by rfl) (by rfl) rfl ht hc ?_
    refine ⟨_, rfl, c, _, rfl, rfl, _, rfl, ?_⟩
    rw [sep_eq]
    refine ite2 (fun y => ?_) (fun y => ?_)
    · have y : ¬ isSep c = true := by simpa using y
      rw [lex_go y] at hrun
      refine ⟨_, rfl, _, rfl, _, _, rfl, rfl, by rw [line_eq]; show _ + 1 ≤ _; omega, ?_⟩
      rw [cat_sign]
      have kl : k ≠ t.length := fun z => by
        rw [z, List.getElem?_append_right (by omega)] at hc
        rw [hL, Nat.sub_self] at hc
        cases hc
        exact y rfl
      exact ⟨_, _, _, _, _, _, _, _, _, rfl, fi, fb, by simp; omega, .inl (by omega), fun x hx => by rcases List.mem_append.mp hx with hx | hx; exact hsep x hx; rw [List.mem_singleton.mp hx]; simpa using y, hrun⟩
    have y : isSep c = true := by simpa using y
    rw [lex_sep y] at hrun
    have bad0 : Bad H3 m none := hb.same fi.same
    have ul := fi.up.len
    have hrl : (ls.reverse.map V.ref ++ [V.ref lc]).length = ls.length + 1 := by simp
    have hat : atI (ls.reverse.map V.ref ++ [V.ref lc]) (-1) = some (V.ref lc) := atI_last _ _
    have bl := fb.len (by omega)
    refine ⟨_, rfl, rfl, _, rfl, ite2 (fun y0 => ?_) (fun y0 => ?_)⟩
    · have y0 : ¬ cur = [] := fun z => by rw [z] at y0; exact absurd y0 (by rw [str_eq]; decide +kernel)
      obtain ⟨c0, r0, ecur⟩ := List.exists_cons_of_ne_nil y0
      have ewt : wordTok ((k : Nat) : Int) cur = [((⟨cur.toArray⟩ : Str), ((k : Nat) : Int) - (cur.length : Nat))] := by rw [ecur]; rfl
      rw [ewt, List.singleton_append, FS.run] at hrun
      have cpos : 0 < cur.length := by rw [ecur]; simp
      have tn1 : ¬ (⟨cur.toArray⟩ : Str) = S "(" := fun e => by have e1 : cur = [40] := by {have := congrArg (fun s : Str => s.cps.toList) e; simpa [s_op] using this}; exact absurd (hsep 40 (by rw [e1]; simp)) (by decide)
      have tn2 : ¬ (⟨cur.toArray⟩ : Str) = S ")" := fun e => by have e1 : cur = [41] := by {have := congrArg (fun s : Str => s.cps.toList) e; simpa [s_cp] using this}; exact absurd (hsep 41 (by rw [e1]; simp)) (by decide)
      refine ⟨_, rfl, Pa, _, rfl, .inl (SqL.of fi.rows), rfl, _, rfl, ?_⟩
      rw [int_eq]
      refine ite2 (fun y2 => ?_) (fun y2 => ?_)
      · have y2 := of_decide_eq_true y2
        rw [hrl] at y2
        have eu : f.up = [] := List.length_eq_zero_iff.mp (by omega)
        have ep : f.push ((⟨cur.toArray⟩ : Str), ((k : Nat) : Int) - (cur.length : Nat)) = .error (((k : Nat) : Int) - (cur.length : Nat)) := by unfold FS.push; rw [if_neg tn1, eu]
        rw [ep] at hrun
        refine ⟨_, rfl, _, rfl, _, rfl, _, rfl, by rw [line_eq]; omega, _, _, rfl, rfl, m, _, none, rfl, by rw [cur_len]; omega, bad0, fun H9 f9 b9 => ?_⟩
        exact q.bad hrun (frS_trans fi.same f9) (by rw [cur_len] at b9; exact b9)
      · have y2 : ¬ _ := fun z => y2 (decide_eq_true z)
        rw [hrl] at y2
        obtain ⟨vs, hlc, hvs⟩ := fi.top
        have vl := nds.length hvs
        obtain ⟨top, ix, up⟩ := f
        cases up with
        | nil => simp at ul; omega
        | cons pj r =>
        obtain ⟨p, j⟩ := pj
        have ep : FS.push ⟨top, ix, (p, j) :: r⟩ ((⟨cur.toArray⟩ : Str), ((k : Nat) : Int) - (cur.length : Nat)) = .ok ⟨top ++ [.word ⟨cur.toArray⟩ (((k : Nat) : Int) - (cur.length : Nat))], ix, (p, j) :: r⟩ := by unfold FS.push; rw [if_neg tn1]; show (if (⟨cur.toArray⟩ : Str) = S ")" then _ else _) = _; rw [if_neg tn2]
        rw [ep] at hrun
        replace hrun : _ = finOf _ (FS.run _ _) := hrun
        refine ⟨_, rfl, _, rfl, _, _, _, _, rfl, rfl, SqL.of fi.rows, hat, .inl ⟨rfl, _, SqL.of hlc⟩, _, rfl, _, rfl, _, rfl, _, rfl, by rw [line_eq]; omega, _, _, rfl, rfl, lb rfl, fun tt htt => ?_⟩
        simp only [cur_len]
        have r2 := sameNew (o := .tup [.str ⟨cur.toArray⟩, .int (((k : Nat) : Int) - (cur.length : Nat))]) htt
        refine ⟨_, _, _, rfl, rfl, r2 _ _ hlc, by rw [line_eq]; simp only at bl vl; omega, ?_⟩
        have fi1 := fi.word hlc htt (w := ⟨cur.toArray⟩) (i := ((k : Nat) : Int) - (cur.length : Nat))
        have fb1 := push_ok fb (t := ((⟨cur.toArray⟩ : Str), ((k : Nat) : Int) - (cur.length : Nat))) (by show 0 < (⟨cur.toArray⟩ : Str).length; rw [cur_len]; exact cpos) (by show (0 : Int) ≤ _; omega) ep
        have hn1 : n + (⟨cur.toArray⟩ : Str).length ≤ k := by rw [cur_len]; omega
        generalize hZ : upd (upd H3 tt (.tup [.str ⟨cur.toArray⟩, .int (((k : Nat) : Int) - (cur.length : Nat))])) lc (.lst (vs ++ [.ref tt])) = HZ at *
        generalize n + (⟨cur.toArray⟩ : Str).length = n1 at *
        generalize hf1 : FS.mk (top ++ [.word ⟨cur.toArray⟩ (((k : Nat) : Int) - (cur.length : Nat))]) ix ((p, j) :: r) = f1 at *
        have s1 := fi1.same
        have bad1 : Bad HZ m none := hb.same s1
        have ul1 := fi1.up.len
        have hrl1 : (ls.reverse.map V.ref ++ [V.ref lc]).length = ls.length + 1 := by simp
        have hat1 : atI (ls.reverse.map V.ref ++ [V.ref lc]) (-1) = some (V.ref lc) := atI_last _ _
        have bl1 := fb1.len (by omega)
        -- char == '('
        refine ⟨_, rfl, rfl, _, rfl, ?_⟩
        rw [s_op, sign_eq]
        refine ite2 (fun y => ?_) (fun y => ?_)
        · have y : c = 40 := of_decide_eq_true y
          have tk : (⟨#[c]⟩ : Str) = S "(" := by rw [y]; exact s_op.symm
          have ep0 : f1.push (⟨#[c]⟩, ((k : Nat) : Int)) = (if f1.up.length + 1 > 20 then .error ((k : Nat) : Int) else .ok ⟨[], ((k : Nat) : Int), (f1.top, f1.ix) :: f1.up⟩) := by unfold FS.push; rw [if_pos tk]
          rw [show isPar c = true by rw [y]; rfl, if_pos rfl, List.singleton_append, FS.run] at hrun
          refine ⟨_, rfl, Pa, _, rfl, .inl (SqL.of fi1.rows), _, _, rfl, rfl, _, rfl, ite2 (fun y2 => ?_) (fun y2 => ?_)⟩
          · have y2 := of_decide_eq_true y2
            rw [hrl1] at y2
            rw [ep0, if_pos (by omega)] at hrun
            refine ⟨_, rfl, _, rfl, m, _, none, rfl, by omega, bad1, fun H9 f9 b9 => ?_⟩
            exact q.bad hrun (frS_trans fi1.same f9) b9
          · have y2 : ¬ _ := fun z => y2 (decide_eq_true z)
            rw [hrl1] at y2
            have ep : f1.push (⟨#[c]⟩, ((k : Nat) : Int)) = .ok ⟨[], ((k : Nat) : Int), (f1.top, f1.ix) :: f1.up⟩ := by rw [ep0, if_neg (by omega)]
            rw [ep] at hrun
            refine ⟨lb rfl, fun Lq hq => ?_⟩
            have r1 := sameNew (o := .lst []) hq
            obtain ⟨vs1, hlc, hvs1⟩ := fi1.top
            have vl1 := nds.length hvs1
            refine ⟨_, rfl, _, rfl, _, _, _, _, rfl, rfl, SqL.of (r1 _ _ fi1.rows), hat1, .inl ⟨rfl, _, SqL.of (r1 _ _ hlc)⟩, _, rfl, _, rfl, lb rfl, fun tt htt => ?_⟩
            have htt : (upd HZ Lq (.lst [])) tt = none := htt
            have r2 := r1.trans (sameNew (o := .tup [.ref Lq, .int ((k : Nat) : Int)]) htt)
            have fi2 := fi1.push hlc hq htt (i := ((k : Nat) : Int))
            have lcP := (fi1.opn lc (by simp)).2.2
            refine ⟨_, _, _, rfl, rfl, r2 _ _ hlc, by rw [line_eq]; omega, ?_⟩
            have hr3 : (upd (upd (upd HZ Lq (.lst [])) tt (.tup [.ref Lq, .int ((k : Nat) : Int)])) lc (.lst (vs1 ++ [.ref tt]))) Pa = some (.lst (ls.reverse.map V.ref ++ [.ref lc])) := by
              rw [upd_ne (Ne.symm lcP)]; exact r2 _ _ fi1.rows
            refine ⟨_, rfl, .inl ⟨rfl, _, SqL.of hr3⟩, _, rfl, _, _, _, rfl, rfl, hr3, by rw [line_eq]; omega, ?_⟩
            have := push_ok fb1 (t := (⟨#[c]⟩, ((k : Nat) : Int))) (by show 0 < (⟨#[c]⟩ : Str).length; exact Nat.one_pos) (by show (0 : Int) ≤ _; omega) ep
            exact ⟨_, _, _, _, [], _, _, _, _, rfl, fi2, this, by show n1 + 1 + 0 ≤ k + 1; omega, .inr rfl, fun _ z => absurd z (by simp), hrun⟩
        · have y : ¬ c = 40 := by simpa using y
          refine ⟨_, rfl, rfl, _, rfl, ?_⟩
          rw [s_cp, sign_eq]
          refine ite2 (fun y1 => ?_) (fun y1 => ?_)
          · have y1 : c = 41 := of_decide_eq_true y1
            have tk : (⟨#[c]⟩ : Str) = S ")" := by rw [y1]; exact s_cp.symm
            have tk0 : ¬ (⟨#[c]⟩ : Str) = S "(" := by rw [y1]; decide +kernel
            rw [show isPar c = true by rw [y1]; rfl, if_pos rfl, List.singleton_append, FS.run] at hrun
            refine ⟨_, rfl, Pa, _, rfl, .inl (SqL.of fi1.rows), rfl, _, rfl, ?_⟩
            rw [int_eq]
            refine ite2 (fun y2 => ?_) (fun y2 => ?_)
            · have y2 := of_decide_eq_true y2
              rw [hrl1] at y2
              have eu : f1.up = [] := List.length_eq_zero_iff.mp (by omega)
              have ep : f1.push (⟨#[c]⟩, ((k : Nat) : Int)) = .error ((k : Nat) : Int) := by unfold FS.push; rw [if_neg tk0, eu]
              rw [ep] at hrun
              refine ⟨_, rfl, _, rfl, m, _, none, rfl, by omega, bad1, fun H9 f9 b9 => ?_⟩
              exact q.bad hrun (frS_trans fi1.same f9) b9
            · have y2 : ¬ _ := fun z => y2 (decide_eq_true z)
              rw [hrl1] at y2
              obtain ⟨top, ix, up⟩ := f1
              cases up with
              | nil => simp at ul1; omega
              | cons pj r =>
              obtain ⟨p, j⟩ := pj
              have ep : FS.push ⟨top, ix, (p, j) :: r⟩ (⟨#[c]⟩, ((k : Nat) : Int)) = .ok ⟨p ++ [.form top ix], j, r⟩ := by unfold FS.push; rw [if_neg tk0]; show (if (⟨#[c]⟩ : Str) = S ")" then _ else _) = _; rw [if_pos tk]
              rw [ep] at hrun
              obtain ⟨l', lr, rfl, Hc', fi2⟩ := fi1.pop
              refine ⟨_, rfl, .inl ⟨rfl, _, SqL.of fi1.rows⟩, _, _, V.ref lc, rfl, rfl, fi1.rows, by simp, ?_⟩
              have := push_ok fb1 (t := (⟨#[c]⟩, ((k : Nat) : Int))) (by show 0 < (⟨#[c]⟩ : Str).length; exact Nat.one_pos) (by show (0 : Int) ≤ _; omega) ep
              exact ⟨_, _, _, _, [], _, _, _, _, rfl, fi2, this, by show n1 + 1 + 0 ≤ k + 1; omega, .inr rfl, fun _ z => absurd z (by simp), hrun⟩
          · have y1 : ¬ c = 41 := by simpa using y1
            rw [show isPar c = false by unfold isPar; simp [y, y1], if_neg Bool.false_ne_true, List.nil_append] at hrun
            exact ⟨_, _, _, _, [], _, _, _, _, rfl, fi1, fb1, by show n1 + 0 ≤ k + 1; omega, .inr rfl, fun _ z => absurd z (by simp), hrun⟩
    · have y0 : cur = [] := by
        by_cases z : cur = []
        · exact z
        · exfalso
          apply y0
          rw [str_eq]
          have : ¬ (⟨cur.toArray⟩ : Str) = Str.ofString "" := fun e => by
            have e1 : cur = [] := by
              have := congrArg (fun s : Str => s.cps.toList) e
              simpa [s_em] using this
            exact z e1
          rw [decide_eq_false this]
          rfl
      subst y0
      have ewt : wordTok ((k : Nat) : Int) [] = [] := rfl
      rw [ewt, List.nil_append] at hrun
      have s1 := fi.same
      have bad1 : Bad H3 m none := hb.same s1
      have ul := fi.up.len
      have hrl1 : (ls.reverse.map V.ref ++ [V.ref lc]).length = ls.length + 1 := by simp
      have hat1 : atI (ls.reverse.map V.ref ++ [V.ref lc]) (-1) = some (V.ref lc) := atI_last _ _
      have bl1 := fb.len (by omega)
      -- char == '('
      refine ⟨_, rfl, rfl, _, rfl, ?_⟩
      rw [s_op, sign_eq]
      refine ite2 (fun y => ?_) (fun y => ?_)
      · have y : c = 40 := of_decide_eq_true y
        have tk : (⟨#[c]⟩ : Str) = S "(" := by rw [y]; exact s_op.symm
        have ep0 : f.push (⟨#[c]⟩, ((k : Nat) : Int)) = (if f.up.length + 1 > 20 then .error ((k : Nat) : Int) else .ok ⟨[], ((k : Nat) : Int), (f.top, f.ix) :: f.up⟩) := by unfold FS.push; rw [if_pos tk]
        rw [show isPar c = true by rw [y]; rfl, if_pos rfl, List.singleton_append, FS.run] at hrun
        refine ⟨_, rfl, Pa, _, rfl, .inl (SqL.of fi.rows), _, _, rfl, rfl, _, rfl, ite2 (fun y2 => ?_) (fun y2 => ?_)⟩
        · have y2 := of_decide_eq_true y2
          rw [hrl1] at y2
          rw [ep0, if_pos (by omega)] at hrun
          refine ⟨_, rfl, _, rfl, m, _, none, rfl, by omega, bad1, fun H9 f9 b9 => ?_⟩
          exact q.bad hrun (frS_trans fi.same f9) b9
        · have y2 : ¬ _ := fun z => y2 (decide_eq_true z)
          rw [hrl1] at y2
          have ep : f.push (⟨#[c]⟩, ((k : Nat) : Int)) = .ok ⟨[], ((k : Nat) : Int), (f.top, f.ix) :: f.up⟩ := by rw [ep0, if_neg (by omega)]
          rw [ep] at hrun
          refine ⟨lb rfl, fun Lq hq => ?_⟩
          have r1 := sameNew (o := .lst []) hq
          obtain ⟨vs, hlc, hvs⟩ := fi.top
          have vl1 := nds.length hvs
          refine ⟨_, rfl, _, rfl, _, _, _, _, rfl, rfl, SqL.of (r1 _ _ fi.rows), hat1, .inl ⟨rfl, _, SqL.of (r1 _ _ hlc)⟩, _, rfl, _, rfl, lb rfl, fun tt htt => ?_⟩
          have htt : (upd H3 Lq (.lst [])) tt = none := htt
          have r2 := r1.trans (sameNew (o := .tup [.ref Lq, .int ((k : Nat) : Int)]) htt)
          have fi2 := fi.push hlc hq htt (i := ((k : Nat) : Int))
          have lcP := (fi.opn lc (by simp)).2.2
          refine ⟨_, _, _, rfl, rfl, r2 _ _ hlc, by rw [line_eq]; omega, ?_⟩
          have hr3 : (upd (upd (upd H3 Lq (.lst [])) tt (.tup [.ref Lq, .int ((k : Nat) : Int)])) lc (.lst (vs ++ [.ref tt]))) Pa = some (.lst (ls.reverse.map V.ref ++ [.ref lc])) := by
            rw [upd_ne (Ne.symm lcP)]; exact r2 _ _ fi.rows
          refine ⟨_, rfl, .inl ⟨rfl, _, SqL.of hr3⟩, _, rfl, _, _, _, rfl, rfl, hr3, by rw [line_eq]; omega, ?_⟩
          have := push_ok fb (t := (⟨#[c]⟩, ((k : Nat) : Int))) (by show 0 < (⟨#[c]⟩ : Str).length; exact Nat.one_pos) (by show (0 : Int) ≤ _; omega) ep
          exact ⟨_, _, _, _, [], _, _, _, _, rfl, fi2, this, by show n + 1 + 0 ≤ k + 1; omega, .inr rfl, fun _ z => absurd z (by simp), hrun⟩
      · have y : ¬ c = 40 := by simpa using y
        refine ⟨_, rfl, rfl, _, rfl, ?_⟩
        rw [s_cp, sign_eq]
        refine ite2 (fun y1 => ?_) (fun y1 => ?_)
        · have y1 : c = 41 := of_decide_eq_true y1
          have tk : (⟨#[c]⟩ : Str) = S ")" := by rw [y1]; exact s_cp.symm
          have tk0 : ¬ (⟨#[c]⟩ : Str) = S "(" := by rw [y1]; decide +kernel
          rw [show isPar c = true by rw [y1]; rfl, if_pos rfl, List.singleton_append, FS.run] at hrun
          refine ⟨_, rfl, Pa, _, rfl, .inl (SqL.of fi.rows), rfl, _, rfl, ?_⟩
          rw [int_eq]
          refine ite2 (fun y2 => ?_) (fun y2 => ?_)
          · have y2 := of_decide_eq_true y2
            rw [hrl1] at y2
            have eu : f.up = [] := List.length_eq_zero_iff.mp (by omega)
            have ep : f.push (⟨#[c]⟩, ((k : Nat) : Int)) = .error ((k : Nat) : Int) := by unfold FS.push; rw [if_neg tk0, eu]
            rw [ep] at hrun
            refine ⟨_, rfl, _, rfl, m, _, none, rfl, by omega, bad1, fun H9 f9 b9 => ?_⟩
            exact q.bad hrun (frS_trans fi.same f9) b9
          · have y2 : ¬ _ := fun z => y2 (decide_eq_true z)
            rw [hrl1] at y2
            obtain ⟨top, ix, up⟩ := f
            cases up with
            | nil => simp at ul; omega
            | cons pj r =>
            obtain ⟨p, j⟩ := pj
            have ep : FS.push ⟨top, ix, (p, j) :: r⟩ (⟨#[c]⟩, ((k : Nat) : Int)) = .ok ⟨p ++ [.form top ix], j, r⟩ := by unfold FS.push; rw [if_neg tk0]; show (if (⟨#[c]⟩ : Str) = S ")" then _ else _) = _; rw [if_pos tk]
            rw [ep] at hrun
            obtain ⟨l', lr, rfl, Hc', fi2⟩ := fi.pop
            refine ⟨_, rfl, .inl ⟨rfl, _, SqL.of fi.rows⟩, _, _, V.ref lc, rfl, rfl, fi.rows, by simp, ?_⟩
            have := push_ok fb (t := (⟨#[c]⟩, ((k : Nat) : Int))) (by show 0 < (⟨#[c]⟩ : Str).length; exact Nat.one_pos) (by show (0 : Int) ≤ _; omega) ep
            exact ⟨_, _, _, _, [], _, _, _, _, rfl, fi2, this, by show n + 1 + 0 ≤ k + 1; omega, .inr rfl, fun _ z => absurd z (by simp), hrun⟩
        · have y1 : ¬ c = 41 := by simpa using y1
          rw [show isPar c = false by unfold isPar; simp [y, y1], if_neg Bool.false_ne_true, List.nil_append] at hrun
          exact ⟨_, _, _, _, [], _, _, _, _, rfl, fi, fb, by show n + 0 ≤ k + 1; omega, .inr rfl, fun _ z => absurd z (by simp), hrun⟩
  · obtain ⟨f, Hc, lc, ls, cur, n, z4, z5, z6, rfl, fi, fb, hn, hcur, hsep, hrun⟩ := h
    have e0 : cur = [] := hcur.resolve_left (by omega)
    subst e0
    have ed : (t.cps.toList ++ [32]).drop (t.length + 1) = [] := List.drop_eq_nil_of_le (by omega)
    rw [ed] at hrun
    have hrun : _ = finOf (t.cps.toList.length : Nat) (.ok f) := hrun
    have bad0 : Bad H3 m none := hb.same fi.same
    have ul := fi.up.len
    have hrl : (ls.reverse.map V.ref ++ [V.ref lc]).length = ls.length + 1 := by simp
    refine ⟨_, rfl, Pa, _, rfl, .inl (SqL.of fi.rows), _, _, rfl, rfl, _, rfl, ite2 (fun y2 => ?_) (fun y2 => ?_)⟩
    · have y2 := of_decide_eq_true y2
      rw [hrl] at y2
      obtain ⟨top, ix, up⟩ := f
      cases up with
      | nil => simp at ul; omega
      | cons pj r =>
      have hrun : _ = Except.error ((t.cps.toList.length : Nat) : Int) := hrun
      rw [hL] at hrun
      refine ⟨_, rfl, _, rfl, t, rfl, ht, m, _, none, rfl, by omega, bad0, fun H9 f9 b9 => ?_⟩
      exact q.bad (by rw [hL]; exact hrun) (frS_trans fi.same f9) b9
    · have y2 : ¬ _ := fun z => y2 (decide_eq_true z)
      rw [hrl] at y2
      have e : ls = [] := List.length_eq_zero_iff.mp (by omega)
      subst e
      obtain ⟨e1, e2, us2, Hn, d1, d2, d3, d4⟩ := fi.done
      obtain ⟨top, ix, up⟩ := f
      simp only at e1
      subst e1 e2
      have hrun : _ = Except.ok top := hrun
      rw [hrun] at q
      refine ⟨_, rfl, Pa, _, 0, .ref lc, rfl, rfl, SqL.of fi.rows, at_of (j := 0) rfl rfl, q _ _ (frS fi.same) bad0 (fun ns e => ?_) (fun e z => nomatch z)⟩
      cases e
      exact ⟨lc, us2, Hn, rfl, d1, d2, d3, d4⟩
end
end K10
/-! K10Law9: the law's own reader: the whole text. Printed by expand.py from K10Law9.tpl. -/
namespace K10
open PySem PySem.Spec PyProof.Rows L2
/-- the four lists of the groups, whatever they hold -/
structure GJ (H : Hp) (G : Addr) (as : List Addr) (us : List (List V)) : Prop where
  at_ : H G = some (.lst (as.map V.ref))
  l4 : as.length = 4 ∧ us.length = 4
  nd : as.Nodup ∧ G ∉ as
  each : ∀ (i : Nat) (a : Addr) (u : List V), as[i]? = some a → us[i]? = some u → H a = some (.lst u)
def GT (H : Hp) (us : List (List V)) (gs : List (List PyData)) : Prop := ∀ (i : Nat) (u : List V) (g : List PyData), us[i]? = some u → gs[i]? = some g → TvAll H u g
theorem GI.j {H : Hp} {G : Addr} {as : List Addr} {us : List (List V)} {gs : List (List PyData)} (h : GI H G as us gs) : GJ H G as us ∧ GT H us gs := by
  refine ⟨⟨h.at_, ⟨h.l4.1, h.l4.2.1⟩, h.nd, fun i a u h1 h2 => ?_⟩, fun i u g h1 h2 => ?_⟩
  · have : i < gs.length := by rw [h.l4.2.2, ← h.l4.1]; exact (List.getElem?_eq_some_iff.mp h1).1
    exact (h.each i a u _ h1 h2 (List.getElem?_eq_getElem this)).1
  · have : i < as.length := by rw [h.l4.1, ← h.l4.2.1]; exact (List.getElem?_eq_some_iff.mp h1).1
    exact (h.each i _ u g (List.getElem?_eq_getElem this) h1 h2).2
theorem GJ.fr {H H' : Hp} {G : Addr} {as : List Addr} {us : List (List V)} (h : GJ H G as us) (e : Fr H H') : GJ H' G as us := ⟨e.lst h.at_, h.l4, h.nd, fun i a u h1 h2 => e.lst (h.each i a u h1 h2)⟩
theorem GT.fr {H H' : Hp} {us : List (List V)} {gs : List (List PyData)} (h : GT H us gs) (e : Fr H H') : GT H' us gs := fun i u g h1 h2 => TvAll.fr e _ _ (h i u g h1 h2)
theorem GJ.put {H : Hp} {G a : Addr} {as : List Addr} {us : List (List V)} {k : Nat} {u : List V} {v : V} (h : GJ H G as us) (h1 : as[k]? = some a) (h2 : us[k]? = some u) : GJ (upd H a (.lst (u ++ [v]))) G as (us.set k (u ++ [v])) := by
  have am : a ∈ as := List.mem_of_getElem? h1
  have Ga : G ≠ a := fun z => h.nd.2 (by rw [z]; exact am)
  refine ⟨by rw [upd_ne Ga]; exact h.at_, by simp [h.l4], h.nd, fun i b u' e1 e2 => ?_⟩
  by_cases e : i = k
  · subst e
    rw [h1] at e1
    cases e1
    rw [List.getElem?_set_self (by rw [h.l4.2, ← h.l4.1]; exact (List.getElem?_eq_some_iff.mp h1).1)] at e2
    cases e2
    exact upd_same
  · rw [List.getElem?_set_ne (Ne.symm e)] at e2
    have ba : b ≠ a := fun z => by
      subst z
      exact e (nd_ix h.nd.1 e1 h1)
    rw [upd_ne ba]
    exact h.each i b u' e1 e2
theorem GT.put {H : Hp} {a : Addr} {us : List (List V)} {gs : List (List PyData)} {k : Nat} {u : List V} {l : List PyData} {v : V} {d : PyData} (h : GT H us gs) (ha : H a = some (.lst u)) (h2 : us[k]? = some u) (h3 : gs[k]? = some l) (hv : Tv H v d) :
    GT (upd H a (.lst (u ++ [v]))) (us.set k (u ++ [v])) (gs.set k (l ++ [d])) := fun i u' g' e2 e3 => by
  have ft : Ft H (upd H a (.lst (u ++ [v]))) := Ft.upd ha (fun _ z => nomatch z)
  by_cases e : i = k
  · subst e
    rw [List.getElem?_set_self (List.getElem?_eq_some_iff.mp h2).1] at e2
    rw [List.getElem?_set_self (List.getElem?_eq_some_iff.mp h3).1] at e3
    cases e2
    cases e3
    exact (TvAll.ft ft _ _ (h i u l h2 h3)).append (.cons (Tv.ft ft _ _ hv) .nil)
  · rw [List.getElem?_set_ne (Ne.symm e)] at e2 e3
    exact TvAll.ft ft _ _ (h i u' g' e2 e3)
theorem or_us {K : PySem.W.Frag} {σ : L2.St} {H : Hp} {i : Nat} {v : V} {us : List V} {Q : VK} (hs : σ[i]? = some (some v)) (o : (v = .non ∧ us = []) ∨ ∃ l, v = .ref l ∧ H l = some (.lst us))
    (q : ∀ lx Hx, Same H Hx → Hx lx = some (.lst us) → (H lx = none ∨ v = .ref lx) → Q (.ref lx) Hx) : tOrT K (tVar i) (tLst tNil) σ H Q := by
  rcases o with ⟨rfl, rfl⟩ | ⟨l, rfl, hl⟩
  · exact ⟨_, hs, false, rfl, iteF ⟨lb rfl, fun p hp => q p _ (sameNew hp) upd_same (.inl hp)⟩⟩
  · cases us with
    | nil => exact ⟨_, hs, false, .inl ⟨[], SqL.of hl, rfl⟩, iteF ⟨lb rfl, fun p hp => q p _ (sameNew hp) upd_same (.inl hp)⟩⟩
    | cons a r => exact ⟨_, hs, true, .inl ⟨_, SqL.of hl, rfl⟩, iteT (q l _ (Same.refl _) hl (.inr rfl))⟩
/-- the list of the words that may come, as the law makes it -/
theorem may_list {K : PySem.W.Frag} {σ : L2.St} {H : Hp} {wl : Addr} {st : Nat} {Q : VK} (h3 : σ[3]? = some (some (.int (st : Nat)))) (h5 : σ[5]? = some (some (.ref wl))) (hw : H wl = some (.lst (wDecl.map V.str)))
    (q : ∀ p H', Same H H' → H' p = some (.lst ((mayCome st).map V.str)) → Q (.ref p) H') :
    tIf (tTest (tOp (rI0 fun i j => .bl (decide (i < j))) (tVar 3) (L2.tC (.int 3)))) (tSl (rSlL K) (tVar 5) (tPart (tVar 3)) tNoPart) (tLst tNil) σ H Q := by
  refine ⟨_, h3, _, _, rfl, rfl, _, rfl, ite2 (fun y => ?_) (fun y => ?_)⟩
  · have y : ((st : Nat) : Int) < 3 := of_decide_eq_true y
    refine ⟨_, h5, _, h3, _, rfl, wl, _, rfl, SqL.of hw, fun p hp => q p _ (sameNew hp) ?_⟩
    rw [upd_same, cut_from, ← List.map_drop]
    unfold mayCome
    rw [if_pos (by omega)]
  · have y : ¬ ((st : Nat) : Int) < 3 := by simpa using y
    refine ⟨lb rfl, fun p hp => q p _ (sameNew hp) ?_⟩
    rw [upd_same]
    unfold mayCome
    rw [if_neg (by omega)]
    rfl
theorem eqV_str (a b : Str) : eqV (.str a) (.str b) = (a == b) := rfl
def RInv (t : Str) (m G lx wl : Addr) (v1 : V) (us : List V) (ns : List Node) (Hn H : Hp) (as : List Addr) (k : Nat) (σ : L2.St) (H3 : Hp) : Prop := ∃ (st : Nat) (gr : Gr) (z6 z7 : Option V) (vs4 : List (List V)),
  σ = [some (.str t), some (.ref m), some (.ref G), some (.int (st : Nat)), some v1, some (.ref wl), z6, z7] ∧ st < 4 ∧ H3 lx = some (.lst us) ∧ Fr Hn H3 ∧ Fr H H3 ∧ H3 wl = some (.lst (wDecl.map V.str)) ∧ GJ H3 G as vs4 ∧ (∀ u ∈ vs4, u.length ≤ k) ∧
    ((Bad H3 m none ∧ GT H3 vs4 gr.list ∧ (∃ ns', formsOf t.cps.toList = .ok ns') ∧ readText t.cps.toList = (match declsOf (rdStmt 22) st gr (ns.drop k) with | .error e => .error e | .ok g => treeOf (t.cps.toList.length : Nat) g)) ∨ (∃ e, Bad H3 m (some e) ∧ readText t.cps.toList = .error e))
theorem bad_ltI {σ : L2.St} {H : Hp} {m : Addr} {i : Nat} {st : Option Int} {Q : Bool → Hp → Prop} (hs : σ[i]? = some (some (.ref m))) (hb : Bad H m st) (q : Q st.isNone H) :
    tTest (tOp (rI0 fun i j => .bl (decide (i < j))) (tDGet (tVar i) (L2.tC (.str "bad"))) (L2.tC (.int 0))) σ H Q := by
  obtain ⟨b, hm, hb⟩ := hb
  refine ⟨_, hs, m, _, rfl, bad_get hm, _, _, rfl, rfl, _, rfl, ?_⟩
  cases st with
  | none => rw [decide_eq_true (show b < 0 from hb)]; exact q
  | some e => rw [decide_eq_false (show ¬ b < 0 from by have : b = e ∧ 0 ≤ e := hb; omega)]; exact q
section
variable {P : Program} {w : World} {K : PySem.W.Frag} {mg : Str → Option Value} {base : Heap}
def nLawRead : List Str := ["_law_text_here", "_law_m", "_law_groups", "_law_stage", "_law_nodes", "_law_words_here", "_law_node", "_law_op"]
def pLawRead : List Str := ["_law_text_here", "_law_m"]
theorem scLawRead : FnScope nLawRead pLawRead (defScope sLawRead) := ⟨rfl, rfl, rfl, by decide +kernel, rfl, by decide +kernel, by decide +kernel⟩
theorem bLawRead : BindsBy "_law_read" sLawRead pLawRead := fun _ _ _ _ _ _ us hl => match us, hl with | [_, _], _ => rfl
def spLText : Sp := fun vs H Q _ => ∃ (t : Str) (m : Addr), vs = [.str t, .ref m] ∧ t.length ≤ 6000 ∧ Bad H m none ∧ Ret Q H m (readText t.cps.toList)
theorem has__law_read (F : Facts w K mg) : Has P w K mg base CX0 60 "_law_read" pLawRead spLText := by
  have h__law_forms := has__law_forms (P := P) (base := base) F
  have h__law_fail := has__law_fail (P := P) (base := base) F
  have h__law_first := has__law_first (P := P) (base := base) F
  have h__law_list := has__law_list (P := P) (base := base) F
  have h__law_read_variable := has__law_read_variable (P := P) (base := base) F
  have h__law_read_procedure := has__law_read_procedure (P := P) (base := base) F 22
  have h__law_read_body := has__law_read_body F (has__law_read_statement (P := P) (base := base) F 22)
  refine has_0 (k := 59) F.g__law_read F.f__law_read scLawRead bLawRead (fun vs H Q E h => by obtain ⟨_, _, rfl, _⟩ := h; rfl) fun cdv A outer s H vs Q E hr h => ?_
  obtain ⟨t, m, rfl, hle, hb, q⟩ := h
  have hu := hu_of hr
  refine ⟨_, (pss_cons (ps_set (i := 2) scLawRead.nd rfl (Or.inl rfl) (pe_lst (pa_cons (pe_lst pa_nil) (pa_cons (pe_lst pa_nil) (pa_cons (pe_lst pa_nil) (pa_cons (pe_lst pa_nil) pa_nil))))))
    (pss_cons (ps_set (i := 3) scLawRead.nd rfl (Or.inl rfl) pe_int)
    (pss_cons (ps_set (i := 4) scLawRead.nd rfl (Or.inl rfl) (pe_callH h__law_forms hr (by omega) rfl pass0 (pa_cons (pv 0) (pa_cons (pv 1) pa_nil))))
    (pss_cons (ps_set (i := 5) scLawRead.nd rfl (Or.inl rfl) (pe_lst (pa_cons pe_str (pa_cons pe_str (pa_cons pe_str (pa_cons pe_str pa_nil))))))
    (pss_cons (ps_for PassesOwn.never rfl (pi_list (pe_orT (pv 4) (pe_one (pe_lst pa_nil)))) (pg_name (i := 6) scLawRead.nd rfl (Or.inl rfl))
      (pss_cons (ps_set (i := 7) scLawRead.nd rfl (Or.inl rfl) pe_non)
      (pss_cons (ps_if (pt_cmpR op_lt (pe_dget hu (pv 1) pe_str (fun _ _ => rfl)) pe_int (nomark _)) (pss_one (ps_set (i := 7) scLawRead.nd rfl (Or.inl rfl) (pe_callH h__law_first hr (by omega) rfl pass0 (pa_cons (pv 1) (pa_cons (pv 6) (pa_cons (pe_ifExp (pt_cmpR op_lt (pv 3) pe_int (nomark _)) (pe_slice sl_list (pv 5) (po_some (pv 3)) po_none) (pe_lst pa_nil)) pa_nil))))))
        pss_nil)
      (pss_cons (ps_if (pt_cmpR op_isN (pv 7) pe_non (nomark _)) (pss_one (ps_ret pe_non))
        pss_nil)
      (pss_cons (ps_set (i := 3) scLawRead.nd rfl (Or.inl rfl) (pe_bm PySem.F.plainAttrs_list PySem.F.slot_list_index PySem.F.type_list_index mt_index (pv 5) (pa_cons (pv 7) pa_nil)))
      (pss_one (ps_if (pt_cmpR op_eq (pv 7) pe_str (nomark _)) (pss_one (ps_expr (pe_bm PySem.F.plainAttrs_list PySem.F.slot_list_append PySem.F.type_list_append mt_append (pe_ix ix_list (pv 2) pe_int (fun _ _ => rfl)) (pa_cons (pe_callH h__law_read_body hr (by omega) rfl pass0 (pa_cons (pv 1) (pa_cons (pe_slice sl_list (pe_ix ix_tup (pv 6) pe_int (fun _ _ => rfl)) (po_some pe_int) po_none) pa_nil))) pa_nil))))
        (pss_one (ps_if (pt_cmpR op_eq (pv 7) pe_str (nomark _)) (pss_one (ps_expr (pe_bm PySem.F.plainAttrs_list PySem.F.slot_list_append PySem.F.type_list_append mt_append (pe_ix ix_list (pv 2) pe_int (fun _ _ => rfl)) (pa_cons (pe_callH h__law_read_procedure hr (by omega) rfl pass0 (pa_cons (pv 1) (pa_cons (pv 6) pa_nil))) pa_nil))))
          (pss_one (ps_if (pt_cmpR op_notN (pe_callH h__law_list hr (by omega) rfl pass0 (pa_cons (pv 1) (pa_cons (pv 6) (pa_cons pe_int (pa_cons pe_int pa_nil))))) pe_non (nomark _)) (pss_one (ps_expr (pe_bm PySem.F.plainAttrs_list PySem.F.slot_list_append PySem.F.type_list_append mt_append (pe_ix ix_list (pv 2) (pv 3) (fun _ _ => rfl)) (pa_cons (pe_callH h__law_read_variable hr (by omega) rfl pass0 (pa_cons (pv 1) (pa_cons (pe_slice sl_list (pe_ix ix_tup (pv 6) pe_int (fun _ _ => rfl)) (po_some pe_int) po_none) pa_nil))) pa_nil))))
            pss_nil)))))))))))
    (pss_cons (ps_if (pt_not (pt_truth (pe_ix ix_list (pv 2) pe_int (fun _ _ => rfl)) (by intro _; rfl))) (pss_one (ps_ret (pe_callH h__law_fail hr (by omega) rfl pass0 (pa_cons (pv 1) (pa_cons (pe_callB call_len_str (by rfl) F.z_len (by decide +kernel) (pa_cons (pv 0) pa_nil)) pa_nil)))))
      pss_nil)
    (pss_one (ps_ret (pe_tup (pa_cons (pe_callTy call_tuple_of (by rfl) F.z_tuple (by decide +kernel) (pa_cons (pe_ix ix_list (pv 2) pe_int (fun _ _ => rfl)) pa_nil)) (pa_cons (pe_callTy call_tuple_of (by rfl) F.z_tuple (by decide +kernel) (pa_cons (pe_ix ix_list (pv 2) pe_int (fun _ _ => rfl)) pa_nil)) (pa_cons (pe_callTy call_tuple_of (by rfl) F.z_tuple (by decide +kernel) (pa_cons (pe_ix ix_list (pv 2) pe_int (fun _ _ => rfl)) pa_nil)) (pa_cons (pe_ix ix_list (pe_ix ix_list (pv 2) pe_int (fun _ _ => rfl)) pe_int (fun _ _ => rfl)) pa_nil))))))))))))), ?_⟩
  have hL := len_toList t
  have ht : t.length ≤ sizeLine := by rw [line_eq]; omega
  refine ⟨lb rfl, fun a0 n0 => ⟨lb rfl, fun a1 n1 => ⟨lb rfl, fun a2 n2 => ⟨lb rfl, fun a3 n3 => ⟨lb rfl, fun G nG => ?_⟩⟩⟩⟩⟩
  obtain ⟨KG, eKG, sKG, gi, new⟩ := groups_new n0 n1 n2 n3 nG
  rw [← eKG]
  clear eKG
  obtain ⟨gj, gt⟩ := gi.j
  have fKG := frS sKG
  refine ⟨_, rfl, _, rfl, t, m, rfl, hle, hb.same sKG, fun v1 H1 f1 b1 o1 e1 => ?_⟩
  refine ⟨lb rfl, fun wl hwl => ?_⟩
  have fw := Fr.new (o := .lst [.str (S "state"), .str (S "param"), .str (S "procedure"), .str (S "beat")]) hwl
  have bw := b1.new (o := .lst [.str (S "state"), .str (S "param"), .str (S "procedure"), .str (S "beat")]) hwl
  have hw2 : (upd H1 wl (.lst [.str (S "state"), .str (S "param"), .str (S "procedure"), .str (S "beat")])) wl = some (.lst (wDecl.map V.str)) := upd_same
  have f02 := (fKG.trans f1).trans fw
  have fK2 := f1.trans fw
  -- the nodes and the list that is walked
  obtain ⟨ns, us, Hn, hns, hsn, hap, hrd⟩ : ∃ (ns : List Node) (us : List V) (Hn : Hp), nds Hn us ns ∧ Same Hn H1 ∧ (∀ b, Hn b ≠ none → KG b = none) ∧
      ((∃ e, formsOf t.cps.toList = .error e ∧ v1 = .non ∧ us = [] ∧ ns = []) ∨ (formsOf t.cps.toList = .ok ns ∧ ∃ l, v1 = .ref l ∧ Hn l = some (.lst us))) := by
    cases e : formsOf t.cps.toList with
    | error j => exact ⟨[], [], fun _ => none, rfl, (fun _ _ z => nomatch z), (fun _ z => absurd rfl z), .inl ⟨j, rfl, e1 j e, rfl, rfl⟩⟩
    | ok ns =>
      obtain ⟨l, us, Hn, x1, x2, x3, x4, x5⟩ := o1 ns e
      exact ⟨ns, us, Hn, x5, x2, x3, .inr ⟨rfl, l, x1, x4⟩⟩
  generalize upd H1 wl (.lst [.str (S "state"), .str (S "param"), .str (S "procedure"), .str (S "beat")]) = H2 at *
  have newn : ∀ a ∈ [a0, a1, a2, a3], Hn a = none ∧ H a = none := fun a ha => by
    refine ⟨?_, new a ha⟩
    cases e : Hn a with
    | none => rfl
    | some o =>
      have z := hap a (by rw [e]; exact fun z => nomatch z)
      obtain ⟨i, hi⟩ := List.mem_iff_getElem?.mp ha
      obtain ⟨u, hu⟩ : ∃ u, ([[], [], [], []] : List (List V))[i]? = some u := by
        have : i < 4 := (List.getElem?_eq_some_iff.mp hi).1
        exact ⟨_, List.getElem?_eq_getElem this⟩
      rw [gj.each i a u hi hu] at z
      cases z
  have fn2 : Fr Hn H2 := (frS hsn).trans fw
  have gj2 := gj.fr fK2
  -- all that the list's place must keep
  have alst : ∀ a ∈ [a0, a1, a2, a3], ∃ u, H2 a = some (.lst u) := fun a ha => by
    obtain ⟨i, hi⟩ := List.mem_iff_getElem?.mp ha
    have : i < 4 := (List.getElem?_eq_some_iff.mp hi).1
    exact ⟨_, gj2.each i a _ hi (List.getElem?_eq_getElem (by rw [gj2.l4.2]; exact this))⟩
  have awl : ∀ a ∈ [a0, a1, a2, a3], a ≠ wl := fun a ha z => by
    subst z
    obtain ⟨i, hi⟩ := List.mem_iff_getElem?.mp ha
    have hi4 : i < 4 := (List.getElem?_eq_some_iff.mp hi).1
    have x := (gj.fr f1).each i a _ hi (List.getElem?_eq_getElem (by rw [(gj.fr f1).l4.2]; exact hi4))
    rw [hwl] at x
    cases x
  refine or_us (i := 4) (v := v1) (us := us) (by rfl) ?_ (fun lx Hx sx hx hxn => ?_)
  · rcases hrd with ⟨e, _, x, y, _⟩ | ⟨_, l, x, y⟩
    · exact .inl ⟨x, y⟩
    · exact .inr ⟨l, x, fn2.lst y⟩
  have alx : ∀ a ∈ [a0, a1, a2, a3], a ≠ lx := fun a ha z => by
    subst z
    rcases hxn with h | h
    · obtain ⟨u, hu⟩ := alst a ha
      rw [h] at hu; cases hu
    · rcases hrd with ⟨e, _, x, _⟩ | ⟨_, l, x, y⟩
      · rw [h] at x; cases x
      · rw [h] at x
        cases x
        rw [(newn a ha).1] at y
        cases y
  have fx := frS sx
  have hg : ∀ ns', formsOf t.cps.toList = .ok ns' → goods ns ∧ wts ns ≤ 6000 ∧ depths ns ≤ 20 := fun ns' e => by
    rcases hrd with ⟨e2, x, _⟩ | ⟨x, _⟩
    · rw [x] at e; cases e
    · exact forms_ok x (by omega)
  refine ⟨lx, rfl, ⟨us, SqL.of hx⟩, ?_⟩
  refine for_list (xs := us) (fun k σ H3 => RInv t m G lx wl v1 us ns Hn H [a0, a1, a2, a3] k σ H3)
    ⟨0, {}, none, none, [[], [], [], []], rfl, by omega, hx, fn2.trans fx, f02.trans fx, sx _ _ hw2, gj2.fr fx, fun u hu => by simp at hu; simp [hu], ?_⟩ (fun k σ H3 _ h => ?_) (fun k x σ H3 hx3 h => ?_) (fun σ H3 h => ?_)
  · rcases hrd with ⟨e, x, _⟩ | ⟨x, l, y, _⟩
    · refine .inr ⟨e, ?_, by unfold readText; rw [x]⟩
      rw [x] at bw
      exact bw.same sx
    · refine .inl ⟨?_, (gt.fr fK2).fr fx, ⟨_, x⟩, by unfold readText; rw [x]; rfl⟩
      rw [x] at bw
      exact bw.same sx
  · obtain ⟨_, _, _, _, _, _, _, h, _⟩ := h
    exact SqL.of h
  · obtain ⟨st, gr, z6, z7, vs4, rfl, hst, hlx, fn, f3, hwl3, gj3, hlen, hcase⟩ := h
    have hk : k < us.length := (List.getElem?_eq_some_iff.mp hx3).1
    rcases hcase with ⟨b3, gt3, ⟨ns', ens⟩, er⟩ | ⟨e, b3, er⟩
    rotate_left
    · refine bad_ltI (i := 1) (by rfl) b3 (iteF ⟨_, rfl, rfl, _, rfl, iteT (q.bad er f3 b3)⟩)
    obtain ⟨ng, nw, nd'⟩ := hg ns' ens
    have hus : us.length ≤ 6000 := by rw [nds.length hns]; exact Nat.le_trans (len_le_wts ng) nw
    obtain ⟨y, hy, hny⟩ := nds.back hns hx3
    have ym := List.mem_of_getElem? hy
    have gy := good_mem ng ym
    have wy := wt_le nw ym
    have dy : y.depth < 22 := by have := depth_mem ym; omega
    rw [drop_cons hy, declsOf] at er
    have fin : ∀ {g : Nat} {X : Rd PyData} {H6 : Hp} {v6 : V} {z7 : Option V}, g < 4 → declOf (rdStmt 22) st y = (X >>= fun d => (.ok (g, d) : Rd (Nat × PyData))) → Fr H3 H6 → Bad H6 m (err X) → (∀ d, X = .ok d → Tv H6 v6 d) →
        ∀ a u, [a0, a1, a2, a3][g]? = some a → vs4[g]? = some u → RInv t m G lx wl v1 us ns Hn H [a0, a1, a2, a3] (k + 1) [some (.str t), some (.ref m), some (.ref G), some (.int (g : Nat)), some v1, some (.ref wl), some x, z7] (upd H6 a (.lst (u ++ [v6]))) := fun {g X H6 v6 z7} hg4 ed f6 b6 t6 a u ha hu => by
      have am := List.mem_of_getElem? ha
      have h6a := (gj3.fr f6).each g a u ha hu
      obtain ⟨gl, hgl, eput⟩ := gr.list_put hg4 (match X with | .ok d => d | .error _ => .none)
      refine ⟨g, gr.put g (match X with | .ok d => d | .error _ => .none), _, _, _, rfl, hg4, ?_, Fr.at_new (fn.trans f6) (newn a am).1, Fr.at_new (f3.trans f6) (newn a am).2, ?_, (gj3.fr f6).put ha hu (v := v6), fun u' hu' => ?_, ?_⟩
      · rw [upd_ne (Ne.symm (alx a am))]; exact f6.lst hlx
      · rw [upd_ne (Ne.symm (awl a am))]; exact f6.lst hwl3
      · rcases List.mem_or_eq_of_mem_set hu' with h | h
        · have := hlen u' h; omega
        · have := hlen u (List.mem_of_getElem? hu)
          subst h; simp; omega
      · cases X with
        | error e =>
          refine .inr ⟨e, b6.upd h6a (fun _ z => nomatch z), ?_⟩
          have ed : declOf (rdStmt 22) st y = .error e := ed
          rw [ed] at er
          exact er
        | ok d =>
          have ed : declOf (rdStmt 22) st y = .ok (g, d) := ed
          rw [ed] at er
          refine .inl ⟨b6.upd h6a (fun _ z => nomatch z), ?_, ⟨ns', ens⟩, er⟩
          have eput : (gr.put g d).list = gr.list.set g (gl ++ [d]) := eput
          show GT _ _ (gr.put g d).list
          rw [eput]
          exact (gt3.fr f6).put h6a hu hgl (t6 d rfl)
    refine bad_ltI (i := 1) (by rfl) b3 (iteT ⟨_, rfl, _, rfl, ?_⟩)
    refine may_list (st := st) (by rfl) (by rfl) hwl3 (fun p H4 s4 hp4 => ?_)
    refine ⟨m, none, x, y, p, mayCome st, rfl, ⟨b3.same s4, nd.fr (fn.trans (frS s4)) _ _ hny, gy, wy⟩, hp4, fun v5 H5 f5 b5 e5 => ?_⟩
    have f35 := (frS s4).trans f5
    cases ef : firstIn (mayCome st) y with
    | error j =>
      rw [ef] at b5 e5
      rw [e5]
      have ed : declOf (rdStmt 22) st y = .error j := by unfold declOf; rw [ef]; rfl
      rw [ed] at er
      exact ⟨_, rfl, rfl, _, rfl, iteT (q.bad er (f3.trans f35) b5)⟩
    | ok h =>
    rw [ef] at b5 e5
    rw [e5]
    have b5 : Bad H5 m none := b5
    obtain ⟨j, r, i, ey, hm⟩ := first_form ef
    have hmd := may_sub hm
    obtain ⟨g, g4, gi', gm, gs, gb, gp, gt'⟩ := decl_idx hmd
    have hw5 := f35.lst hwl3
    have n5 := nd.fr (fn.trans f35) _ _ hny
    have gj5 := gj3.fr f35
    obtain ⟨a, ha⟩ : ∃ a, [a0, a1, a2, a3][g]? = some a := ⟨_, List.getElem?_eq_getElem (show g < 4 from g4)⟩
    obtain ⟨u, hu⟩ : ∃ u, vs4[g]? = some u := ⟨_, List.getElem?_eq_getElem (by rw [gj3.l4.2]; exact g4)⟩
    have h5a := gj5.each g a u ha hu
    have ul := hlen u (List.mem_of_getElem? hu)
    refine ⟨_, rfl, rfl, _, rfl, iteF ⟨_, rfl, .inl ⟨rfl, _, SqL.of hw5⟩, _, rfl, wl, wDecl.map V.str, .str h, g, .str h, rfl, rfl, SqL.of hw5, rfl, flat_str _, by rw [List.getElem?_map, gi']; rfl, by rw [eqV_str]; simp, fun m' z' hm' hz' => ?_, ?_⟩⟩
    · rw [List.getElem?_map] at hz'
      obtain ⟨s', hs', rfl⟩ := Option.map_eq_some_iff.mp hz'
      rw [eqV_str]
      have := gm m' hm'
      rw [hs'] at this
      have ne : ¬ s' = h := fun z => this (by rw [z])
      simpa using ne
    subst ey
    obtain ⟨ax, l5, u5, rfl, q1, q2, q3⟩ := id n5
    obtain ⟨w0, wr, rfl, _, hwr⟩ := q3
    have cut : cutV (w0 :: wr) (some (1 : Int)) none = wr := cut_from 1
    have okr : Oks 22 r ∧ r.length ≤ 6000 := by
      have h1 := gy; rw [Node.good] at h1
      have h2 := wy; rw [Node.wt] at h2
      have h3 := dy; rw [Node.depth] at h3
      refine ⟨fun u hu => ⟨good_mem h1.1 (List.mem_cons_of_mem _ hu), ?_, ?_⟩, ?_⟩
      · have := wt_mem (List.mem_cons_of_mem (Node.word h j) hu); omega
      · have := depth_mem (List.mem_cons_of_mem (Node.word h j) hu); omega
      · have := len_le_wts h1.1; simp at this; omega
    refine ⟨_, rfl, rfl, _, rfl, ite2 (fun c => ?_) (fun c => ?_)⟩
    · -- beat
      have c : h = S "beat" := by rw [str_eq] at c; exact of_decide_eq_true c
      have eg := gb.mp c
      subst eg
      cases ha
      have ed : declOf (rdStmt 22) st (.form (.word h j :: r) i) = (rdAll (rdStmt 22) r >>= fun xs => (.ok (PyData.tuple xs) : Rd PyData)) >>= fun d => (.ok (3, d) : Rd (Nat × PyData)) := by
        unfold declOf
        rw [ef]
        show (if h = S "beat" then _ else _) = _
        rw [if_pos c]
        show (rdAll (rdStmt 22) r >>= fun x => (.ok (3, .tuple x) : Rd (Nat × PyData))) = _
        cases rdAll (rdStmt 22) r <;> rfl
      refine ⟨_, rfl, G, _, 3, .ref a3, rfl, rfl, SqL.of gj5.at_, at_of (j := 3) rfl rfl, .inl ⟨rfl, _, SqL.of h5a⟩, _, rfl, _, rfl, _, _, _, _, rfl, rfl, SqT.of q1, rfl, _, rfl, l5, _, rfl, SqL.of q2, fun p6 hp6 => ?_⟩
      refine ⟨m, none, .ref p6, r, rfl, b5.new hp6, fun _ => ⟨p6, wr, rfl, by rw [cut]; exact upd_same, nds.fr (Fr.new hp6) _ _ hwr⟩, okr.1, okr.2, fun v7 H7 f7 b7 t7 => ?_⟩
      have f57 := (Fr.new hp6).trans f7
      refine ⟨_, _, _, rfl, rfl, f57.lst h5a, by rw [line_eq]; omega, ?_⟩
      refine fin (g := 3) (by omega) ed (f35.trans f57) ?_ (fun d e => ?_) a3 u rfl hu
      · rw [err1]; exact b7
      · obtain ⟨ds, r1, rfl⟩ := ok1 e
        exact t7 ds rfl r1
    have c : ¬ h = S "beat" := by rw [str_eq] at c; simpa using c
    refine ⟨_, rfl, rfl, _, rfl, ite2 (fun c2 => ?_) (fun c2 => ?_)⟩
    · -- procedure
      have c2 : h = S "procedure" := by rw [str_eq] at c2; exact of_decide_eq_true c2
      have eg := gp.mp c2
      subst eg
      cases ha
      have ed : declOf (rdStmt 22) st (.form (.word h j :: r) i) = procOf (rdStmt 22) (.form (.word h j :: r) i) >>= fun d => (.ok (2, d) : Rd (Nat × PyData)) := by
        unfold declOf
        rw [ef]
        show (if h = S "beat" then _ else _) = _
        rw [if_neg c, if_pos c2]
      refine ⟨_, rfl, G, _, 2, .ref a2, rfl, rfl, SqL.of gj5.at_, at_of (j := 2) rfl rfl, .inl ⟨rfl, _, SqL.of h5a⟩, _, rfl, _, rfl, m, none, _, _, rfl, ⟨b5, n5, gy, wy⟩, by omega, fun v7 H7 f7 b7 t7 => ?_⟩
      refine ⟨_, _, _, rfl, rfl, f7.lst h5a, by rw [line_eq]; omega, ?_⟩
      exact fin (g := 2) (by omega) ed (f35.trans f7) b7 (fun d e => t7 d rfl e) a2 u rfl hu
    have c2 : ¬ h = S "procedure" := by rw [str_eq] at c2; simpa using c2
    have eg : g = if h = S "state" then 0 else 1 := by
      by_cases c3 : h = S "state"
      · rw [if_pos c3]; exact gt'.mp c3
      · rw [if_neg c3]
        have a1 : ¬ g = 0 := fun z => c3 (gt'.mpr z)
        have a2 : ¬ g = 2 := fun z => c2 (gp.mpr z)
        have a3 : ¬ g = 3 := fun z => c (gb.mpr z)
        omega
    have ed : declOf (rdStmt 22) st (.form (.word h j :: r) i) = (partsIn 2 3 (.form (.word h j :: r) i) >>= fun ps => varOf (ps.drop 1)) >>= fun d => (.ok (g, d) : Rd (Nat × PyData)) := by
      unfold declOf
      rw [ef]
      show (if h = S "beat" then _ else _) = _
      rw [if_neg c, if_neg c2, ← eg]
      cases partsIn 2 3 (.form (.word h j :: r) i) <;> rfl
    refine ⟨_, rfl, _, rfl, m, none, _, _, 2, 3, rfl, ⟨b5, n5, gy, wy⟩, fun v6 H6 f6 b6 o6 => ?_⟩
    cases e6 : partsIn 2 3 (.form (.word h j :: r) i) with
    | error jj =>
      rw [e6] at b6 o6 ed
      rw [show v6 = .non from o6]
      have ed : declOf (rdStmt 22) st (.form (.word h j :: r) i) = .error jj := ed
      rw [ed] at er
      have f36 := f35.trans f6
      refine ⟨rfl, _, rfl, iteF ?_⟩
      exact ⟨g, gr, _, _, vs4, rfl, g4, f36.lst hlx, fn.trans f36, f3.trans f36, f36.lst hwl3, gj3.fr f36, fun u hu => Nat.le_succ_of_le (hlen u hu), .inr ⟨jj, b6, er⟩⟩
    | ok ps =>
      rw [e6] at b6 o6 ed
      obtain ⟨i6, e7, l1, l2⟩ := parts_form e6
      cases e7
      obtain ⟨l6, u6, rfl, _⟩ := o6
      have b6 : Bad H6 m none := b6
      have ed : declOf (rdStmt 22) st (.form (.word h j :: r) i) = varOf r >>= fun d => (.ok (g, d) : Rd (Nat × PyData)) := ed
      have gj6 := gj5.fr f6
      have h6a := gj6.each g a u ha hu
      refine ⟨rfl, _, rfl, iteT ⟨_, rfl, _, rfl, G, _, _, .ref a, rfl, rfl, SqL.of gj6.at_, at_of (j := g) rfl (by rw [List.getElem?_map, ha]; rfl), .inl ⟨rfl, _, SqL.of h6a⟩, _, rfl, _, rfl, _, _, _, _, rfl, rfl, SqT.of (f6.tup q1), rfl, _, rfl, l5, _, rfl, SqL.of (f6.lst q2), fun p7 hp7 => ?_⟩⟩
      refine ⟨m, none, p7, wr, r, rfl, b6.new hp7, by rw [cut]; exact upd_same, nds.fr (f6.trans (Fr.new hp7)) _ _ hwr, by simp at l1; omega, fun u hu => ⟨(okr.1 u hu).1, (okr.1 u hu).2.1⟩, fun v8 H8 f8 b8 t8 => ?_⟩
      have f68 := (Fr.new hp7).trans f8
      refine ⟨_, _, _, rfl, rfl, f68.lst h6a, by rw [line_eq]; omega, ?_⟩
      exact fin (g := g) g4 ed ((f35.trans f6).trans f68) b8 (fun d e => t8 d rfl e) a u ha hu
  · obtain ⟨st, gr, z6, z7, vs4, rfl, hst, hlx, fn, f3, hwl3, gj3, hlen, hcase⟩ := h
    obtain ⟨u0, u1, u2, u3, rfl⟩ := get4 gj3.l4.2
    have p0 := gj3.each 0 a0 u0 rfl rfl
    have p1 := gj3.each 1 a1 u1 rfl rfl
    have p2 := gj3.each 2 a2 u2 rfl rfl
    have p3 := gj3.each 3 a3 u3 rfl rfl
    rw [nds.length hns, List.drop_length] at hcase
    have hcase : (Bad H3 m none ∧ GT H3 [u0, u1, u2, u3] gr.list ∧ (∃ ns', formsOf t.cps.toList = .ok ns') ∧ readText t.cps.toList = treeOf (t.cps.toList.length : Nat) gr) ∨ (∃ e, Bad H3 m (some e) ∧ readText t.cps.toList = .error e) := hcase
    refine ⟨_, rfl, G, _, 3, .ref a3, rfl, rfl, SqL.of gj3.at_, at_of (j := 3) rfl rfl, _, .inl ⟨u3, SqL.of p3, rfl⟩, ?_⟩
    cases u3 with
    | nil =>
      refine iteT ?_
      rcases hcase with ⟨b3, gt3, _, er⟩ | ⟨e, b3, er⟩
      · have q3 : TvAll H3 [] gr.d := gt3 3 [] gr.d rfl rfl
        have e3 : gr.d = [] := by generalize gr.d = gd at q3; cases q3; rfl
        unfold treeOf at er
        rw [e3] at er
        refine ⟨_, rfl, _, rfl, t, rfl, ht, m, _, none, rfl, by omega, b3, fun H9 f9 b9 => q.bad er (f3.trans f9) (by rw [hL]; exact b9)⟩
      · exact ⟨_, rfl, _, rfl, t, rfl, ht, m, _, some e, rfl, by omega, b3, fun H9 f9 b9 => q.bad er (f3.trans f9) b9⟩
    | cons v vs =>
      refine iteF ?_
      refine ⟨_, rfl, G, _, 0, .ref a0, rfl, rfl, SqL.of gj3.at_, at_of (j := 0) rfl rfl, a0, u0, rfl, .inl ⟨SqL.of p0, fun b0 m0 => ?_⟩⟩
      have r0 := sameNew (o := .tup u0) m0
      refine ⟨_, rfl, G, _, 1, .ref a1, rfl, rfl, SqL.of (r0 _ _ gj3.at_), at_of (j := 1) rfl rfl, a1, u1, rfl, .inl ⟨SqL.of (r0 _ _ p1), fun b1 m1 => ?_⟩⟩
      have r1 := r0.trans (sameNew (o := .tup u1) m1)
      refine ⟨_, rfl, G, _, 2, .ref a2, rfl, rfl, SqL.of (r1 _ _ gj3.at_), at_of (j := 2) rfl rfl, a2, u2, rfl, .inl ⟨SqL.of (r1 _ _ p2), fun b2 m2 => ?_⟩⟩
      have r2 := r1.trans (sameNew (o := .tup u2) m2)
      refine ⟨_, rfl, G, _, 3, .ref a3, rfl, rfl, SqL.of (r2 _ _ gj3.at_), at_of (j := 3) rfl rfl, a3, _, 0, v, rfl, rfl, SqL.of (r2 _ _ p3), at_of (j := 0) rfl rfl, lb rfl, fun p hp => ?_⟩
      have fp := f3.trans ((frS r2).trans (Fr.new (o := .tup [.ref b0, .ref b1, .ref b2, v]) hp))
      rcases hcase with ⟨b3, gt3, _, er⟩ | ⟨e, b3, er⟩
      · have q0 : TvAll H3 u0 gr.a := gt3 0 u0 gr.a rfl rfl
        have q1 : TvAll H3 u1 gr.b := gt3 1 u1 gr.b rfl rfl
        have q2 : TvAll H3 u2 gr.c := gt3 2 u2 gr.c rfl rfl
        have q3 : TvAll H3 (v :: vs) gr.d := gt3 3 _ gr.d rfl rfl
        obtain ⟨d, dr, e3, hv⟩ : ∃ d dr, gr.d = d :: dr ∧ Tv H3 v d := by generalize gr.d = gd at q3; cases q3 with | cons h _ => exact ⟨_, _, rfl, h⟩
        unfold treeOf at er
        rw [e3] at er
        refine q _ _ fp ?_ (fun dd e => ?_)
        · rw [er]; exact ((b3.same r2).new hp)
        · rw [er] at e
          cases e
          refine dp_tup hp ?_
          have t0 : Tv (upd (upd (upd H3 b0 (.tup u0)) b1 (.tup u1)) b2 (.tup u2)) (.ref b0) (.tuple gr.a) := Tv.fr (Fr.trans (Fr.new m1) (Fr.new m2)) _ _ (dp_tup m0 q0)
          have t1 : Tv (upd (upd (upd H3 b0 (.tup u0)) b1 (.tup u1)) b2 (.tup u2)) (.ref b1) (.tuple gr.b) := Tv.fr (Fr.new m2) _ _ (dp_tup m1 (TvAll.fr (Fr.new m0) _ _ q1))
          have t2 : Tv (upd (upd (upd H3 b0 (.tup u0)) b1 (.tup u1)) b2 (.tup u2)) (.ref b2) (.tuple gr.c) := dp_tup m2 (TvAll.fr (Fr.trans (Fr.new m0) (Fr.new m1)) _ _ q2)
          exact .cons t0 (.cons t1 (.cons t2 (.cons (Tv.fr (frS r2) _ _ hv) .nil)))
      · refine q _ _ fp ?_ (fun dd e' => ?_)
        · rw [er]; exact ((b3.same r2).new hp)
        · rw [er] at e'; cases e'
end
end K10
/-! K10Gen1: the law's draws: takes, numbers, indexes, places, expressions, tests. Printed by expand.py from K10Gen1.tpl. -/
namespace K10
open PySem PySem.Spec PyProof.Rows L2
/-! ### the heap but for the place in the draws, at A -/
def hid (A : Addr) (H : Hp) : Hp := fun b => if b = A then none else H b
theorem hid_of {A b : Addr} {H : Hp} {o : HO} (h : hid A H b = some o) : H b = some o ∧ b ≠ A := by
  unfold hid at h
  by_cases e : b = A
  · rw [if_pos e] at h; cases h
  · rw [if_neg e] at h; exact ⟨h, e⟩
theorem hid_ne {A b : Addr} {H : Hp} (e : b ≠ A) : hid A H b = H b := if_neg e
theorem hid_A {A : Addr} {H : Hp} : hid A H A = none := if_pos rfl
abbrev Sm (A : Addr) (H H' : Hp) : Prop := Same (hid A H) (hid A H')
structure Dr (D A : Addr) (H : Hp) : Prop where
  ds : ∃ zs : List Int, hid A H D = some (.lst (zs.map V.int))
  at_ : ∃ k : Nat, H A = some (.lst [.int (k : Nat)])
theorem Dr.ne {D A p : Addr} {H : Hp} (d : Dr D A H) (hp : H p = none) : p ≠ A := fun z => by
  obtain ⟨k, h⟩ := d.at_
  rw [← z, hp] at h; cases h
theorem hid_new {A p : Addr} {H : Hp} {o : HO} (n : p ≠ A) : hid A (upd H p o) = upd (hid A H) p o := by
  funext b
  by_cases e : b = A
  · subst e; rw [hid_A, upd_ne (Ne.symm n), hid_A]
  · rw [hid_ne e]
    by_cases e2 : b = p
    · subst e2; rw [upd_same, upd_same]
    · rw [upd_ne e2, upd_ne e2, hid_ne e]
theorem hid_none {A p : Addr} {H : Hp} (hp : H p = none) : hid A H p = none := by
  unfold hid
  by_cases e : p = A
  · rw [if_pos e]
  · rw [if_neg e]; exact hp
theorem Dr.sm {D A p : Addr} {H : Hp} {o : HO} (d : Dr D A H) (hp : H p = none) : Sm A H (upd H p o) := by
  show Same _ (hid A (upd H p o))
  rw [hid_new (d.ne hp)]
  exact sameNew (hid_none hp)
theorem Dr.new {D A p : Addr} {H : Hp} {o : HO} (d : Dr D A H) (hp : H p = none) : Dr D A (upd H p o) := by
  obtain ⟨zs, h⟩ := d.ds
  obtain ⟨k, h2⟩ := d.at_
  exact ⟨⟨zs, d.sm hp _ _ h⟩, k, by rw [upd_ne (Ne.symm (d.ne hp))]; exact h2⟩
theorem Dr.at_new {D A p : Addr} {H : Hp} {o : HO} (d : Dr D A H) (hp : H p = none) : hid A (upd H p o) p = some o := by rw [hid_new (d.ne hp), upd_same]
theorem pick {xs : List V} {r : Int} (h0 : 0 ≤ r) (h1 : r < xs.length) : ∃ v, v ∈ xs ∧ atI xs r = some v := by
  obtain ⟨k, rfl⟩ : ∃ k : Nat, r = (k : Int) := ⟨r.toNat, by omega⟩
  have hk : k < xs.length := by omega
  exact ⟨xs[k], List.getElem_mem hk, atI_nat (List.getElem?_eq_getElem hk)⟩
/-! ### what is drawn -/
def gw (s : Str) : Prop := s.length ≤ 14 ∧ s.cps.toList.all legal = true
instance (s : Str) : Decidable (gw s) := inferInstanceAs (Decidable (_ ∧ _))
def numOk (i : Int) : Prop := 0 ≤ i ∧ i ≤ 4294967296
def HIdx (H : Hp) : Nat → Nat → V → Prop
  | 0, n, v => 1 ≤ n ∧ ∃ a xs, v = .ref a ∧ H a = some (.tup xs) ∧ ((∃ i, xs = [.str (S "integer"), .int i] ∧ numOk i) ∨ xs = [.str (S "beat")] ∨ ∃ w, xs = [.str (S "index"), .str w] ∧ gw w)
  | d + 1, n, v => 1 ≤ n ∧ ∃ a xs, v = .ref a ∧ H a = some (.tup xs) ∧ (((∃ i, xs = [.str (S "integer"), .int i] ∧ numOk i) ∨ xs = [.str (S "beat")] ∨ ∃ w, xs = [.str (S "index"), .str w] ∧ gw w) ∨
      (∃ b k n1, xs = [.str (S "rem"), b, .int k] ∧ numOk k ∧ HIdx H d n1 b ∧ n1 + 4 ≤ n) ∨
      ∃ o b c n1 n2, xs = [.str o, b, c] ∧ o ∈ [S "plus", S "minus", S "times"] ∧ HIdx H d n1 b ∧ HIdx H d n2 c ∧ n1 + n2 + 3 ≤ n)
theorem HIdx.ft {H H' : Hp} (e : Ft H H') : ∀ {d n : Nat} {v : V}, HIdx H d n v → HIdx H' d n v
  | 0, n, v, h => by
    obtain ⟨h1, a, xs, rfl, h2, h3⟩ := h
    exact ⟨h1, a, xs, rfl, e _ _ h2, h3⟩
  | d + 1, n, v, h => by
    obtain ⟨h1, a, xs, rfl, h2, h3⟩ := h
    refine ⟨h1, a, xs, rfl, e _ _ h2, ?_⟩
    rcases h3 with h3 | ⟨b, k, n1, x1, x2, x3, x4⟩ | ⟨o, b, c, n1, n2, x1, x2, x3, x4, x5⟩
    · exact .inl h3
    · exact .inr (.inl ⟨b, k, n1, x1, x2, HIdx.ft e x3, x4⟩)
    · exact .inr (.inr ⟨o, b, c, n1, n2, x1, x2, HIdx.ft e x3, HIdx.ft e x4, x5⟩)
theorem smFt {A : Addr} {H H' : Hp} (s : Sm A H H') : Ft (hid A H) (hid A H') := (frS s).ft
theorem HIdx.atom {H : Hp} {a : Addr} {xs : List V} {d n : Nat} (h1 : 1 ≤ n) (h2 : H a = some (.tup xs)) (h3 : (∃ i, xs = [.str (S "integer"), .int i] ∧ numOk i) ∨ xs = [.str (S "beat")] ∨ ∃ w, xs = [.str (S "index"), .str w] ∧ gw w) : HIdx H d n (.ref a) := by
  cases d with
  | zero => exact ⟨h1, a, xs, rfl, h2, h3⟩
  | succ d => exact ⟨h1, a, xs, rfl, h2, .inl h3⟩
theorem HIdx.up {H : Hp} : ∀ {d n m : Nat} {v : V}, HIdx H d n v → n ≤ m → HIdx H (d + 1) m v
  | 0, n, m, v, h, l => by
    obtain ⟨h1, a, xs, rfl, h2, h3⟩ := h
    exact ⟨by omega, a, xs, rfl, h2, .inl h3⟩
  | d + 1, n, m, v, h, l => by
    obtain ⟨h1, a, xs, rfl, h2, h3⟩ := h
    refine ⟨by omega, a, xs, rfl, h2, ?_⟩
    rcases h3 with h3 | ⟨b, k, n1, x1, x2, x3, x4⟩ | ⟨o, b, c, n1, n2, x1, x2, x3, x4, x5⟩
    · exact .inl h3
    · exact .inr (.inl ⟨b, k, n1, x1, x2, HIdx.up x3 (Nat.le_refl _), by omega⟩)
    · exact .inr (.inr ⟨o, b, c, n1, n2, x1, x2, HIdx.up x3 (Nat.le_refl _), HIdx.up x4 (Nat.le_refl _), by omega⟩)
def fI : Nat → Nat
  | 0 => 1
  | d + 1 => 2 * fI d + 4
theorem fI_pos : ∀ d, 1 ≤ fI d
  | 0 => Nat.le_refl _
  | d + 1 => by rw [fI]; omega
def NamL (H : Hp) (l : Addr) : Prop := ∃ ws : List Str, H l = some (.lst (ws.map V.str)) ∧ ∀ w ∈ ws, gw w
theorem NamL.sm {H H' : Hp} {l : Addr} (h : NamL H l) (s : Same H H') : NamL H' l := by
  obtain ⟨ws, h1, h2⟩ := h
  exact ⟨ws, s _ _ h1, h2⟩
/-- the words and sizes of variables: (name, size, fixed) -/
def VarL (H : Hp) (l : Addr) (ne : Prop) : Prop := ∃ vs : List V, H l = some (.lst vs) ∧ vs.length ≤ 1000 ∧ (ne → vs ≠ []) ∧ ∀ v ∈ vs, ∃ a w z b, v = .ref a ∧ H a = some (.tup [.str w, .int z, .bl b]) ∧ gw w ∧ numOk z
theorem VarL.sm {H H' : Hp} {l : Addr} {ne : Prop} (h : VarL H l ne) (s : Same H H') : VarL H' l ne := by
  obtain ⟨vs, h1, h2, h3, h4⟩ := h
  refine ⟨vs, s _ _ h1, h2, h3, fun v hv => ?_⟩
  obtain ⟨a, w, z, b, e1, e2, e3⟩ := h4 v hv
  exact ⟨a, w, z, b, e1, s _ _ e2, e3⟩
/-- a place, its name and its index -/
def HPlc (H : Hp) (n : Nat) (w x : V) : Prop := ∃ s, w = .str s ∧ gw s ∧ ((x = .non ∧ 1 ≤ n) ∨ ∃ n1, HIdx H 3 n1 x ∧ n1 + 4 ≤ n)
theorem HPlc.ft {H H' : Hp} {n : Nat} {w x : V} (h : HPlc H n w x) (e : Ft H H') : HPlc H' n w x := by
  obtain ⟨s, h1, h2, h3⟩ := h
  refine ⟨s, h1, h2, ?_⟩
  rcases h3 with h3 | ⟨n1, h3, h4⟩
  · exact .inl h3
  · exact .inr ⟨n1, h3.ft e, h4⟩
def HExp (H : Hp) : Nat → Nat → V → Prop
  | 0, n, v => 1 ≤ n ∧ ∃ a xs, v = .ref a ∧ H a = some (.tup xs) ∧ ((∃ i, xs = [.str (S "number"), .int i] ∧ numOk i) ∨ ∃ w x, xs = [.str (S "place"), w, x] ∧ HPlc H n w x)
  | d + 1, n, v => 1 ≤ n ∧ ∃ a xs, v = .ref a ∧ H a = some (.tup xs) ∧ (((∃ i, xs = [.str (S "number"), .int i] ∧ numOk i) ∨ ∃ w x, xs = [.str (S "place"), w, x] ∧ HPlc H n w x) ∨
      ∃ o b c n1 n2, xs = [.str o, b, c] ∧ o ∈ [S "add", S "mul", S "sub", S "div"] ∧ HExp H d n1 b ∧ HExp H d n2 c ∧ n1 + n2 + 3 ≤ n)
theorem HExp.ft {H H' : Hp} (e : Ft H H') : ∀ {d n : Nat} {v : V}, HExp H d n v → HExp H' d n v
  | 0, n, v, h => by
    obtain ⟨h1, a, xs, rfl, h2, h3⟩ := h
    refine ⟨h1, a, xs, rfl, e _ _ h2, ?_⟩
    rcases h3 with h3 | ⟨w, x, h3, h4⟩
    · exact .inl h3
    · exact .inr ⟨w, x, h3, h4.ft e⟩
  | d + 1, n, v, h => by
    obtain ⟨h1, a, xs, rfl, h2, h3⟩ := h
    refine ⟨h1, a, xs, rfl, e _ _ h2, ?_⟩
    rcases h3 with (h3 | ⟨w, x, h3, h4⟩) | ⟨o, b, c, n1, n2, x1, x2, x3, x4, x5⟩
    · exact .inl (.inl h3)
    · exact .inl (.inr ⟨w, x, h3, h4.ft e⟩)
    · exact .inr ⟨o, b, c, n1, n2, x1, x2, HExp.ft e x3, HExp.ft e x4, x5⟩
theorem HExp.atom {H : Hp} {a : Addr} {xs : List V} {d n : Nat} (h1 : 1 ≤ n) (h2 : H a = some (.tup xs)) (h3 : (∃ i, xs = [.str (S "number"), .int i] ∧ numOk i) ∨ ∃ w x, xs = [.str (S "place"), w, x] ∧ HPlc H n w x) : HExp H d n (.ref a) := by
  cases d with
  | zero => exact ⟨h1, a, xs, rfl, h2, h3⟩
  | succ d => exact ⟨h1, a, xs, rfl, h2, .inl h3⟩
def fE : Nat → Nat
  | 0 => 24
  | d + 1 => 2 * fE d + 3
theorem fE_ge : ∀ d, 24 ≤ fE d
  | 0 => Nat.le_refl _
  | d + 1 => by rw [fE]; have := fE_ge d; omega
section
variable {P : Program} {w : World} {K : PySem.W.Frag} {mg : Str → Option Value} {base : Heap}
def nLawTake : List Str := ["_law_draws_here", "_law_at", "_law_many", "_law_number_here"]
def pLawTake : List Str := ["_law_draws_here", "_law_at", "_law_many"]
theorem scLawTake : FnScope nLawTake pLawTake (defScope sLawTake) := ⟨rfl, rfl, rfl, by decide +kernel, rfl, by decide +kernel, by decide +kernel⟩
theorem bLawTake : BindsBy "_law_take" sLawTake pLawTake := fun _ _ _ _ _ _ us hl => match us, hl with | [_, _, _], _ => rfl
def nLawNumber : List Str := ["_law_draws_here", "_law_at"]
def pLawNumber : List Str := ["_law_draws_here", "_law_at"]
theorem scLawNumber : FnScope nLawNumber pLawNumber (defScope sLawNumber) := ⟨rfl, rfl, rfl, by decide +kernel, rfl, by decide +kernel, by decide +kernel⟩
theorem bLawNumber : BindsBy "_law_number" sLawNumber pLawNumber := fun _ _ _ _ _ _ us hl => match us, hl with | [_, _], _ => rfl
def nLawIndex : List Str := ["_law_integers", "_law_draws_here", "_law_at", "_law_depth", "_law_choice", "_law_left"]
def pLawIndex : List Str := ["_law_integers", "_law_draws_here", "_law_at", "_law_depth"]
theorem scLawIndex : FnScope nLawIndex pLawIndex (defScope sLawIndex) := ⟨rfl, rfl, rfl, by decide +kernel, rfl, by decide +kernel, by decide +kernel⟩
theorem bLawIndex : BindsBy "_law_index" sLawIndex pLawIndex := fun _ _ _ _ _ _ us hl => match us, hl with | [_, _, _, _], _ => rfl
def nLawPlace : List Str := ["_law_variables", "_law_integers", "_law_draws_here", "_law_at", "_law_name_here", "_law_size", "_law_fixed", "_law_index_here"]
def pLawPlace : List Str := ["_law_variables", "_law_integers", "_law_draws_here", "_law_at"]
theorem scLawPlace : FnScope nLawPlace pLawPlace (defScope sLawPlace) := ⟨rfl, rfl, rfl, by decide +kernel, rfl, by decide +kernel, by decide +kernel⟩
theorem bLawPlace : BindsBy "_law_place" sLawPlace pLawPlace := fun _ _ _ _ _ _ us hl => match us, hl with | [_, _, _, _], _ => rfl
def nLawExpression : List Str := ["_law_variables", "_law_integers", "_law_draws_here", "_law_at", "_law_depth", "_law_choice", "_law_name_here", "_law_index_here", "_law_op", "_law_left"]
def pLawExpression : List Str := ["_law_variables", "_law_integers", "_law_draws_here", "_law_at", "_law_depth"]
theorem scLawExpression : FnScope nLawExpression pLawExpression (defScope sLawExpression) := ⟨rfl, rfl, rfl, by decide +kernel, rfl, by decide +kernel, by decide +kernel⟩
theorem bLawExpression : BindsBy "_law_expression" sLawExpression pLawExpression := fun _ _ _ _ _ _ us hl => match us, hl with | [_, _, _, _, _], _ => rfl
def nLawTest : List Str := ["_law_variables", "_law_integers", "_law_draws_here", "_law_at", "_law_choice", "_law_op"]
def pLawTest : List Str := ["_law_variables", "_law_integers", "_law_draws_here", "_law_at"]
theorem scLawTest : FnScope nLawTest pLawTest (defScope sLawTest) := ⟨rfl, rfl, rfl, by decide +kernel, rfl, by decide +kernel, by decide +kernel⟩
theorem bLawTest : BindsBy "_law_test" sLawTest pLawTest := fun _ _ _ _ _ _ us hl => match us, hl with | [_, _, _, _], _ => rfl
def spTake : Sp := fun vs H Q _ => ∃ D A many, vs = [.ref D, .ref A, .int many] ∧ Dr D A H ∧ 0 < many ∧ ∀ r H', 0 ≤ r → r < many → Sm A H H' → Dr D A H' → Q (.int r) H'
theorem has__law_take (F : Facts w K mg) : Has P w K mg base CX0 1 "_law_take" pLawTake spTake := by
  refine has_0 F.g__law_take F.f__law_take scLawTake bLawTake (fun vs H Q E h => by obtain ⟨_, _, _, rfl, _⟩ := h; rfl) fun cdv A' outer s H vs Q E hr h => ?_
  obtain ⟨D, A, many, rfl, dr, hm, q⟩ := h
  refine ⟨_, (pss_cons (ps_if (pt_cmpR op_ge (pe_ix ix_list (pv 1) pe_int (fun _ _ => rfl)) (pe_callB call_len_seq (by rfl) F.z_len (by decide +kernel) (pa_cons (pv 0) pa_nil)) (nomark _)) (pss_one (ps_ret pe_int))
      pss_nil)
    (pss_cons (ps_set (i := 3) scLawTake.nd rfl (Or.inl rfl) (pe_ix ix_list (pv 0) (pe_ix ix_list (pv 1) pe_int (fun _ _ => rfl)) (fun _ _ => rfl)))
    (pss_cons (ps_asg (pe_op op_add (pe_ix ix_list (pv 1) pe_int (fun _ _ => rfl)) pe_int) (pg_sub (pv 1) pe_int set_list))
    (pss_one (ps_ret (pe_op op_modN (pe_callTy call_int1 (by rfl) F.z_int (by decide +kernel) (pa_cons (pv 3) pa_nil)) (pv 2))))))), ?_⟩
  obtain ⟨zs, hD'⟩ := id dr.ds
  obtain ⟨k, hA⟩ := id dr.at_
  obtain ⟨hD, DA⟩ := hid_of hD'
  refine ⟨_, rfl, A, _, 0, .int (k : Nat), rfl, rfl, SqL.of hA, rfl, _, rfl, D, _, rfl, .inl (SqL.of hD), _, _, rfl, rfl, _, rfl, ite2 (fun z => ?_) (fun z => ?_)⟩
  · exact q 0 H (Int.le_refl _) hm (Same.refl _) dr
  · have z : ¬ ((zs.map V.int).length : Int) ≤ (k : Nat) := by simpa using z
    have hk : k < zs.length := by simp at z; omega
    have hat : atI (zs.map V.int) ((k : Nat) : Int) = some (.int zs[k]) := atI_nat (by simp [hk])
    refine ⟨_, rfl, _, rfl, A, _, 0, .int (k : Nat), rfl, rfl, SqL.of hA, rfl, D, _, _, _, rfl, rfl, SqL.of hD, hat, ?_⟩
    refine ⟨_, rfl, A, _, 0, .int (k : Nat), rfl, rfl, SqL.of hA, rfl, _, _, rfl, rfl, _, rfl, A, _, 0, 0, rfl, rfl, hA, rfl, ?_⟩
    refine ⟨_, rfl, .inl ⟨_, rfl, _, rfl, _, _, rfl, rfl, by omega, ?_⟩⟩
    have hs : Sm A H (upd H A (.lst ([V.int (k : Nat)].set 0 (.int ((k : Nat) + 1))))) := fun b o h => by
      obtain ⟨h1, h2⟩ := hid_of h
      rw [hid_ne h2, upd_ne h2]; exact h1
    refine q _ _ (Int.fmod_nonneg_of_pos _ hm) (Int.fmod_lt_of_pos _ hm) hs ⟨⟨zs, hs _ _ hD'⟩, k + 1, ?_⟩
    rw [upd_same]
    rfl
def spNumber : Sp := fun vs H Q _ => ∃ D A, vs = [.ref D, .ref A] ∧ Dr D A H ∧ ∀ r H', numOk r → Sm A H H' → Dr D A H' → Q (.int r) H'
theorem has__law_number (F : Facts w K mg) : Has P w K mg base CX0 2 "_law_number" pLawNumber spNumber := by
  have h__law_take := has__law_take (P := P) (base := base) F
  refine has_0 F.g__law_number F.f__law_number scLawNumber bLawNumber (fun vs H Q E h => by obtain ⟨_, _, rfl, _⟩ := h; rfl) fun cdv A' outer s H vs Q E hr h => ?_
  obtain ⟨D, A, rfl, dr, q⟩ := h
  refine ⟨_, (pss_cons (ps_if (pt_cmpR op_eq (pe_callH h__law_take hr (by omega) rfl pass0 (pa_cons (pv 0) (pa_cons (pv 1) (pa_cons pe_int pa_nil)))) pe_int (nomark _)) (pss_one (ps_ret (pe_ix ix_list (pe_lst (pa_cons pe_int (pa_cons pe_int (pa_cons pe_int (pa_cons pe_int (pa_cons pe_int pa_nil)))))) (pe_callH h__law_take hr (by omega) rfl pass0 (pa_cons (pv 0) (pa_cons (pv 1) (pa_cons pe_int pa_nil)))) (fun _ _ => rfl))))
      pss_nil)
    (pss_one (ps_ret (pe_callH h__law_take hr (by omega) rfl pass0 (pa_cons (pv 0) (pa_cons (pv 1) (pa_cons pe_int pa_nil))))))), ?_⟩
  refine ⟨_, rfl, _, rfl, D, A, 4, rfl, dr, by omega, fun r H1 r0 r1 s1 d1 => ⟨rfl, _, rfl, ite2 (fun _ => ?_) (fun _ => ?_)⟩⟩
  · refine ⟨lb rfl, fun L hL => ⟨_, rfl, _, rfl, D, A, 5, rfl, d1.new hL, by omega, fun r2 H2 r20 r21 s2 d2 => ?_⟩⟩
    have hL2 := s2 _ _ (d1.at_new hL)
    obtain ⟨v, hv, hat⟩ := pick (xs := [.int 2147483646, .int 1073741824, .int 65536, .int 46341, .int 0]) r20 r21
    have hv2 : ∃ i, v = .int i ∧ numOk i := by
      simp only [List.mem_cons, List.not_mem_nil, or_false] at hv
      rcases hv with rfl | rfl | rfl | rfl | rfl <;> exact ⟨_, rfl, by constructor <;> decide⟩
    obtain ⟨i, rfl, hi⟩ := hv2
    exact ⟨L, _, _, _, rfl, rfl, SqL.of (hid_of hL2).1, hat, q _ _ hi ((s1.trans (d1.sm hL)).trans s2) d2⟩
  · exact ⟨_, rfl, _, rfl, D, A, 9, rfl, d1, by omega, fun r2 H2 r20 r21 s2 d2 => q _ _ ⟨r20, by omega⟩ (s1.trans s2) d2⟩
def spGIdx (d : Nat) : Sp := fun vs H Q _ => ∃ I D A, vs = [.ref I, .ref D, .ref A, .int (d : Nat)] ∧ Dr D A H ∧ NamL (hid A H) I ∧ ∀ v H', Sm A H H' → Dr D A H' → HIdx (hid A H') d (fI d) v → Q v H'
theorem index_step (F : Facts w K mg) (d : Nat) (h__law_index : Has P w K mg base CX0 (d + 1) "_law_index" pLawIndex (fun vs H Q E => ∃ d', d = d' + 1 ∧ spGIdx d' vs H Q E)) : Has P w K mg base CX0 (d + 2) "_law_index" pLawIndex (spGIdx d) := by
  have h__law_take := has__law_take (P := P) (base := base) F
  refine has_0 F.g__law_index F.f__law_index scLawIndex bLawIndex (fun vs H Q E h => by obtain ⟨_, _, _, rfl, _⟩ := h; rfl) fun cdv A' outer s H vs Q E hr h => ?_
  obtain ⟨I, D, A, rfl, dr, hI, q⟩ := h
  refine ⟨_, (pss_cons (ps_set (i := 4) scLawIndex.nd rfl (Or.inl rfl) (pe_callH h__law_take hr (by omega) rfl pass0 (pa_cons (pv 1) (pa_cons (pv 2) (pa_cons pe_int pa_nil)))))
    (pss_cons (ps_if (PW.pt (pw_or (pt_cmpR op_lt (pv 4) pe_int (nomark _)) (pw_or1 (pt_cmpR op_eq (pv 3) pe_int (nomark _))))) (pss_one (ps_ret (pe_tup (pa_cons pe_str (pa_cons (pe_callH h__law_take hr (by omega) rfl pass0 (pa_cons (pv 1) (pa_cons (pv 2) (pa_cons pe_int pa_nil)))) pa_nil)))))
      pss_nil)
    (pss_cons (ps_if (pt_cmpR op_eq (pv 4) pe_int (nomark _)) (pss_one (ps_ret (pe_tup (pa_cons pe_str pa_nil))))
      pss_nil)
    (pss_cons (ps_if (pt_cmpR op_lt (pv 4) pe_int (nomark _)) (pss_cons (ps_if (pt_truth (pv 0) (by intro _; rfl)) (pss_one (ps_ret (pe_tup (pa_cons pe_str (pa_cons (pe_ix ix_list (pv 0) (pe_callH h__law_take hr (by omega) rfl pass0 (pa_cons (pv 1) (pa_cons (pv 2) (pa_cons (pe_callB call_len_seq (by rfl) F.z_len (by decide +kernel) (pa_cons (pv 0) pa_nil)) pa_nil)))) (fun _ _ => rfl)) pa_nil)))))
        pss_nil)
      (pss_one (ps_ret (pe_tup (pa_cons pe_str pa_nil)))))
      pss_nil)
    (pss_cons (ps_set (i := 5) scLawIndex.nd rfl (Or.inl rfl) (pe_callH h__law_index hr (by omega) rfl pass0 (pa_cons (pv 0) (pa_cons (pv 1) (pa_cons (pv 2) (pa_cons (pe_op op_sub (pv 3) pe_int) pa_nil))))))
    (pss_cons (ps_if (pt_cmpR op_eq (pv 4) pe_int (nomark _)) (pss_one (ps_ret (pe_tup (pa_cons pe_str (pa_cons (pv 5) (pa_cons (pe_op op_add pe_int (pe_callH h__law_take hr (by omega) rfl pass0 (pa_cons (pv 1) (pa_cons (pv 2) (pa_cons pe_int pa_nil))))) pa_nil))))))
      pss_nil)
    (pss_one (ps_ret (pe_tup (pa_cons (pe_ix ix_list (pe_lst (pa_cons pe_str (pa_cons pe_str (pa_cons pe_str pa_nil)))) (pe_callH h__law_take hr (by omega) rfl pass0 (pa_cons (pv 1) (pa_cons (pv 2) (pa_cons pe_int pa_nil)))) (fun _ _ => rfl)) (pa_cons (pv 5) (pa_cons (pe_callH h__law_index hr (by omega) rfl pass0 (pa_cons (pv 0) (pa_cons (pv 1) (pa_cons (pv 2) (pa_cons (pe_op op_sub (pv 3) pe_int) pa_nil))))) pa_nil)))))))))))), ?_⟩
  refine ⟨_, rfl, _, rfl, D, A, 7, rfl, dr, by omega, fun c H1 c0 c1 s1 d1 => ?_⟩
  -- an atom: a choice that stops
  have num : ∀ {H2 H3 : Hp} {r : Int}, Sm A H H2 → Dr D A H2 → 0 ≤ r → r < 4 → Sm A H2 H3 → Dr D A H3 → ∀ p, H3 p = none → Q (.ref p) (upd H3 p (.tup [.str (S "integer"), .int r])) := fun {H2 H3 r} s2 d2 r0 r1 s3 d3 p hp => by
    refine q _ _ ((s2.trans s3).trans (d3.sm hp)) (d3.new hp) (HIdx.atom (fI_pos d) (d3.at_new hp) (.inl ⟨r, rfl, r0, by omega⟩))
  have beat : ∀ {H2 : Hp}, Sm A H H2 → Dr D A H2 → ∀ p, H2 p = none → Q (.ref p) (upd H2 p (.tup [.str (S "beat")])) := fun {H2} s2 d2 p hp =>
    q _ _ (s2.trans (d2.sm hp)) (d2.new hp) (HIdx.atom (fI_pos d) (d2.at_new hp) (.inr (.inl rfl)))
  refine ⟨_, rfl, _, _, rfl, rfl, _, rfl, ite2 (fun _ => iteT ?_) (fun z1 => ⟨_, rfl, rfl, _, rfl, ?_⟩)⟩
  · exact ⟨_, rfl, _, rfl, D, A, 4, rfl, d1, by omega, fun r H2 r0 r1 s2 d2 => ⟨lb rfl, num s1 d1 r0 r1 s2 d2⟩⟩
  rw [int_eq]
  refine ite2 (fun _ => ⟨_, rfl, _, rfl, D, A, 4, rfl, d1, by omega, fun r H2 r0 r1 s2 d2 => ⟨lb rfl, num s1 d1 r0 r1 s2 d2⟩⟩) (fun z2 => ?_)
  have z1 : ¬ c < 2 := by simpa using z1
  have z2 : ¬ ((d : Nat) : Int) = 0 := by simpa using z2
  obtain ⟨d', rfl⟩ : ∃ d', d = d' + 1 := ⟨d - 1, by omega⟩
  have hd : (((d' + 1 : Nat) : Int) - 1) = (d' : Nat) := by omega
  refine ⟨_, rfl, rfl, _, rfl, ite2 (fun _ => ⟨lb rfl, beat s1 d1⟩) (fun z3 => ?_)⟩
  refine ⟨_, rfl, _, _, rfl, rfl, _, rfl, ite2 (fun _ => ?_) (fun z4 => ?_)⟩
  · obtain ⟨ws, hw, hg⟩ := hI.sm s1
    have hw1 := (hid_of hw).1
    refine ⟨_, rfl, _, .inl ⟨_, SqL.of hw1, rfl⟩, ?_⟩
    cases ws with
    | nil => exact iteF ⟨lb rfl, beat s1 d1⟩
    | cons w0 wr =>
      refine iteT ⟨_, rfl, _, rfl, _, rfl, _, rfl, I, _, rfl, .inl (SqL.of hw1), D, A, _, rfl, d1, by simp only [List.length_map, List.length_cons]; omega, fun r H2 r0 r1 s2 d2 => ?_⟩
      obtain ⟨v, hv, hat⟩ := pick r0 r1
      obtain ⟨ww, hww, rfl⟩ := List.mem_map.mp hv
      exact ⟨I, _, _, _, rfl, rfl, SqL.of (hid_of (s2 _ _ hw)).1, hat, lb rfl, fun p hp => q _ _ ((s1.trans s2).trans (d2.sm hp)) (d2.new hp) (HIdx.atom (fI_pos _) (d2.at_new hp) (.inr (.inr ⟨ww, rfl, hg ww hww⟩)))⟩
  refine ⟨_, rfl, _, rfl, _, rfl, _, rfl, _, _, rfl, rfl, d', rfl, I, D, A, by rw [← hd]; rfl, d1, hI.sm s1, fun v1 H2 s2 d2 x1 => ?_⟩
  have s12 := s1.trans s2
  refine ⟨_, rfl, rfl, _, rfl, ite2 (fun _ => ?_) (fun z5 => ?_)⟩
  · refine ⟨_, rfl, _, rfl, _, rfl, D, A, 5, rfl, d2, by omega, fun r H3 r0 r1 s3 d3 => ⟨_, _, rfl, rfl, lb rfl, fun p hp => ?_⟩⟩
    refine q _ _ ((s12.trans s3).trans (d3.sm hp)) (d3.new hp) ⟨fI_pos _, p, _, rfl, d3.at_new hp, .inr (.inl ⟨v1, 1 + r, fI d', rfl, ⟨by omega, by omega⟩, x1.ft (smFt (s3.trans (d3.sm hp))), by rw [fI]; have := fI_pos d'; omega⟩)⟩
  · refine ⟨lb rfl, fun L hL => ⟨_, rfl, _, rfl, D, A, 3, rfl, d2.new hL, by omega, fun r H3 r0 r1 s3 d3 => ?_⟩⟩
    have hL3 := s3 _ _ (d2.at_new hL)
    have s23 := (d2.sm (o := .lst [.str (S "plus"), .str (S "minus"), .str (S "times")]) hL).trans s3
    obtain ⟨v, hv, hat⟩ := pick (xs := [.str (S "plus"), .str (S "minus"), .str (S "times")]) r0 r1
    obtain ⟨o, ho, rfl⟩ : ∃ o, o ∈ [S "plus", S "minus", S "times"] ∧ v = .str o := by
      simp only [List.mem_cons, List.not_mem_nil, or_false] at hv
      rcases hv with rfl | rfl | rfl
      · exact ⟨_, by simp, rfl⟩
      · exact ⟨_, by simp, rfl⟩
      · exact ⟨_, by simp, rfl⟩
    refine ⟨L, _, _, _, rfl, rfl, SqL.of (hid_of hL3).1, hat, _, rfl, _, rfl, _, rfl, _, rfl, _, rfl, _, _, rfl, rfl, d', rfl, I, D, A, by rw [← hd]; rfl, d3, hI.sm (s12.trans s23), fun v2 H4 s4 d4 x2 => ⟨lb rfl, fun p hp => ?_⟩⟩
    refine q _ _ (((s12.trans s23).trans s4).trans (d4.sm hp)) (d4.new hp) ⟨fI_pos _, p, _, rfl, d4.at_new hp, .inr (.inr ⟨o, v1, v2, fI d', fI d', rfl, ho, x1.ft (smFt ((s23.trans s4).trans (d4.sm hp))), x2.ft (smFt (d4.sm hp)), by rw [fI]; omega⟩)⟩
theorem has__law_index (F : Facts w K mg) : ∀ d : Nat, Has P w K mg base CX0 (d + 2) "_law_index" pLawIndex (spGIdx d)
  | 0 => index_step F 0 (has_0 F.g__law_index F.f__law_index scLawIndex bLawIndex (fun vs H Q E h => by obtain ⟨_, h, _⟩ := h; omega) fun cdv A' outer s H vs Q E hr h => by obtain ⟨_, h, _⟩ := h; omega)
  | d + 1 => index_step F (d + 1) ((has__law_index F d).imp fun vs H Q E h => by obtain ⟨d', e, h⟩ := h; rw [Nat.succ.inj e]; exact h)
def spGPlc : Sp := fun vs H Q _ => ∃ V0 I D A, vs = [.ref V0, .ref I, .ref D, .ref A] ∧ Dr D A H ∧ VarL (hid A H) V0 True ∧ NamL (hid A H) I ∧
  ∀ p w x H', Sm A H H' → Dr D A H' → hid A H' p = some (.tup [w, x]) → HPlc (hid A H') 24 w x → Q (.ref p) H'
theorem has__law_place (F : Facts w K mg) : Has P w K mg base CX0 5 "_law_place" pLawPlace spGPlc := by
  have h__law_take := has__law_take (P := P) (base := base) F
  have h__law_index := has__law_index (P := P) (base := base) F 2
  refine has_0 F.g__law_place F.f__law_place scLawPlace bLawPlace (fun vs H Q E h => by obtain ⟨_, _, _, _, rfl, _⟩ := h; rfl) fun cdv A' outer s H vs Q E hr h => ?_
  obtain ⟨V0, I, D, A, rfl, dr, hV, hI, q⟩ := h
  refine ⟨_, (pss_cons (ps_asg (pe_ix ix_list (pv 0) (pe_callH h__law_take hr (by omega) rfl pass0 (pa_cons (pv 2) (pa_cons (pv 3) (pa_cons (pe_callB call_len_seq (by rfl) F.z_len (by decide +kernel) (pa_cons (pv 0) pa_nil)) pa_nil)))) (fun _ _ => rfl)) (pg_tup rfl (pgs_cons (pg_name (i := 4) scLawPlace.nd rfl (Or.inl rfl)) (pgs_cons (pg_name (i := 5) scLawPlace.nd rfl (Or.inl rfl)) (pgs_cons (pg_name (i := 6) scLawPlace.nd rfl (Or.inl rfl)) pgs_nil)))))
    (pss_cons (ps_if (pt_cmpR op_eq (pv 5) pe_int (nomark _)) (pss_one (ps_ret (pe_tup (pa_cons (pv 4) (pa_cons pe_non pa_nil)))))
      pss_nil)
    (pss_cons (ps_set (i := 7) scLawPlace.nd rfl (Or.inl rfl) (pe_callH h__law_index hr (by omega) rfl pass0 (pa_cons (pv 1) (pa_cons (pv 2) (pa_cons (pv 3) (pa_cons pe_int pa_nil))))))
    (pss_cons (ps_if (pt_cmpR op_gt (pe_callH h__law_take hr (by omega) rfl pass0 (pa_cons (pv 2) (pa_cons (pv 3) (pa_cons pe_int pa_nil)))) pe_int (nomark _)) (pss_one (ps_set (i := 7) scLawPlace.nd rfl (Or.inl rfl) (pe_tup (pa_cons pe_str (pa_cons (pv 7) (pa_cons (pv 5) pa_nil))))))
      pss_nil)
    (pss_one (ps_ret (pe_tup (pa_cons (pv 4) (pa_cons (pv 7) pa_nil))))))))), ?_⟩
  obtain ⟨vs, hv, hlen, hne, hall⟩ := hV
  have hpos : 0 < vs.length := List.length_pos_iff.mpr (hne trivial)
  refine ⟨_, rfl, _, rfl, _, rfl, _, rfl, V0, _, rfl, .inl (SqL.of (hid_of hv).1), D, A, _, rfl, dr, by omega, fun r H1 r0 r1 s1 d1 => ?_⟩
  obtain ⟨v, hvm, hat⟩ := pick r0 r1
  obtain ⟨a, w, z, b, rfl, hz, gw', nz⟩ := hall v hvm
  refine ⟨V0, _, _, _, rfl, rfl, SqL.of (hid_of (s1 _ _ hv)).1, hat, a, _, rfl, SqT.of (hid_of (s1 _ _ hz)).1, rfl, _, _, rfl, _, _, rfl, _, _, rfl, rfl, ?_⟩
  refine ⟨_, rfl, rfl, _, rfl, ite2 (fun _ => ⟨_, rfl, lb rfl, fun p hp => ?_⟩) (fun _ => ?_)⟩
  · exact q p _ _ _ (s1.trans (d1.sm hp)) (d1.new hp) (d1.at_new hp) ⟨w, rfl, gw', .inl ⟨rfl, by omega⟩⟩
  refine ⟨_, rfl, _, rfl, _, rfl, I, D, A, rfl, d1, hI.sm s1, fun v1 H2 s2 d2 x1 => ?_⟩
  have s12 := s1.trans s2
  refine ⟨_, rfl, _, rfl, D, A, 8, rfl, d2, by omega, fun r3 H3 r30 r31 s3 d3 => ⟨_, _, rfl, rfl, _, rfl, ite2 (fun _ => ?_) (fun _ => ?_)⟩⟩
  · refine ⟨_, rfl, _, rfl, lb rfl, fun t ht => ⟨_, rfl, _, rfl, lb rfl, fun p hp => ?_⟩⟩
    have d4 := d3.new (o := .tup [.str (S "rem"), v1, .int z]) ht
    refine q p _ _ _ (((s12.trans s3).trans (d3.sm ht)).trans (d4.sm hp)) (d4.new hp) (d4.at_new hp) ⟨w, rfl, gw', .inr ⟨20, ?_, by omega⟩⟩
    exact ⟨by omega, t, _, rfl, d4.sm hp _ _ (d3.at_new ht), .inr (.inl ⟨v1, z, fI 2, rfl, nz, x1.ft (smFt ((s3.trans (d3.sm ht)).trans (d4.sm hp))), by decide⟩)⟩
  · refine ⟨_, rfl, _, rfl, lb rfl, fun p hp => ?_⟩
    exact q p _ _ _ ((s12.trans s3).trans (d3.sm hp)) (d3.new hp) (d3.at_new hp) ⟨w, rfl, gw', .inr ⟨fI 2, (x1.up (Nat.le_refl _)).ft (smFt (s3.trans (d3.sm hp))), by decide⟩⟩
def spGExp (d : Nat) : Sp := fun vs H Q _ => ∃ V0 I D A, vs = [.ref V0, .ref I, .ref D, .ref A, .int (d : Nat)] ∧ Dr D A H ∧ VarL (hid A H) V0 True ∧ NamL (hid A H) I ∧ ∀ v H', Sm A H H' → Dr D A H' → HExp (hid A H') d (fE d) v → Q v H'
theorem expr_step (F : Facts w K mg) (d : Nat) (h__law_expression : Has P w K mg base CX0 (d + 5) "_law_expression" pLawExpression (fun vs H Q E => ∃ d', d = d' + 1 ∧ spGExp d' vs H Q E)) : Has P w K mg base CX0 (d + 6) "_law_expression" pLawExpression (spGExp d) := by
  have h__law_take := has__law_take (P := P) (base := base) F
  have h__law_number := has__law_number (P := P) (base := base) F
  have h__law_place := has__law_place (P := P) (base := base) F
  refine has_0 (k := d + 5) F.g__law_expression F.f__law_expression scLawExpression bLawExpression (fun vs H Q E h => by obtain ⟨_, _, _, _, rfl, _⟩ := h; rfl) fun cdv A' outer s H vs Q E hr h => ?_
  obtain ⟨V0, I, D, A, rfl, dr, hV, hI, q⟩ := h
  refine ⟨_, (pss_cons (ps_set (i := 5) scLawExpression.nd rfl (Or.inl rfl) (pe_callH h__law_take hr (by omega) rfl pass0 (pa_cons (pv 2) (pa_cons (pv 3) (pa_cons pe_int pa_nil)))))
    (pss_cons (ps_if (pt_cmpR op_eq (pv 5) pe_int (nomark _)) (pss_one (ps_ret (pe_tup (pa_cons pe_str (pa_cons (pe_callH h__law_number hr (by omega) rfl pass0 (pa_cons (pv 2) (pa_cons (pv 3) pa_nil))) pa_nil)))))
      pss_nil)
    (pss_cons (ps_if (PW.pt (pw_or (pt_cmpR op_lt (pv 5) pe_int (nomark _)) (pw_or1 (pt_cmpR op_eq (pv 4) pe_int (nomark _))))) (pss_cons (ps_asg (pe_callH h__law_place hr (by omega) rfl pass0 (pa_cons (pv 0) (pa_cons (pv 1) (pa_cons (pv 2) (pa_cons (pv 3) pa_nil))))) (pg_tup rfl (pgs_cons (pg_name (i := 6) scLawExpression.nd rfl (Or.inl rfl)) (pgs_cons (pg_name (i := 7) scLawExpression.nd rfl (Or.inl rfl)) pgs_nil))))
      (pss_one (ps_ret (pe_tup (pa_cons pe_str (pa_cons (pv 6) (pa_cons (pv 7) pa_nil)))))))
      pss_nil)
    (pss_cons (ps_set (i := 8) scLawExpression.nd rfl (Or.inl rfl) (pe_ix ix_list (pe_lst (pa_cons pe_str (pa_cons pe_str (pa_cons pe_str (pa_cons pe_str (pa_cons pe_str pa_nil)))))) (pe_op op_sub (pv 5) pe_int) (fun _ _ => rfl)))
    (pss_cons (ps_set (i := 9) scLawExpression.nd rfl (Or.inl rfl) (pe_callH h__law_expression hr (by omega) rfl pass0 (pa_cons (pv 0) (pa_cons (pv 1) (pa_cons (pv 2) (pa_cons (pv 3) (pa_cons (pe_op op_sub (pv 4) pe_int) pa_nil)))))))
    (pss_one (ps_ret (pe_tup (pa_cons (pv 8) (pa_cons (pv 9) (pa_cons (pe_callH h__law_expression hr (by omega) rfl pass0 (pa_cons (pv 0) (pa_cons (pv 1) (pa_cons (pv 2) (pa_cons (pv 3) (pa_cons (pe_op op_sub (pv 4) pe_int) pa_nil)))))) pa_nil))))))))))), ?_⟩
  refine ⟨_, rfl, _, rfl, D, A, 8, rfl, dr, by omega, fun c H1 c0 c1 s1 d1 => ?_⟩
  have plc : ∀ {σ : L2.St}, True := trivial
  refine ⟨_, rfl, rfl, _, rfl, ite2 (fun _ => ?_) (fun z1 => ?_)⟩
  · refine ⟨_, rfl, _, rfl, D, A, rfl, d1, fun r H2 hr2 s2 d2 => ⟨lb rfl, fun p hp => ?_⟩⟩
    exact q _ _ ((s1.trans s2).trans (d2.sm hp)) (d2.new hp) (HExp.atom (by have := fE_ge d; omega) (d2.at_new hp) (.inl ⟨r, rfl, hr2⟩))
  have fin : ∀ {H2 H3 : Hp} {w x : V}, Sm A H H2 → Dr D A H2 → HPlc (hid A H2) 24 w x → ∀ p2, H2 p2 = none → Q (.ref p2) (upd H2 p2 (.tup [.str (S "place"), w, x])) := fun {H2 H3 w x} s2 d2 hp p2 hp2 => by
    refine q _ _ (s2.trans (d2.sm hp2)) (d2.new hp2) (HExp.atom (by have := fE_ge d; omega) (d2.at_new hp2) (.inr ⟨w, x, rfl, ?_⟩))
    obtain ⟨s', e1, e2, e3⟩ := hp.ft (smFt (d2.sm hp2 (o := .tup [.str (S "place"), w, x])))
    refine ⟨s', e1, e2, ?_⟩
    have := fE_ge d
    rcases e3 with ⟨e3, _⟩ | ⟨n1, e3, e4⟩
    · exact .inl ⟨e3, by omega⟩
    · exact .inr ⟨n1, e3, by omega⟩
  refine ⟨_, rfl, _, _, rfl, rfl, _, rfl, ite2 (fun _ => iteT ?_) (fun z2 => ⟨_, rfl, rfl, _, rfl, ?_⟩)⟩
  · exact ⟨_, rfl, _, rfl, _, rfl, _, rfl, V0, I, D, A, rfl, d1, hV.sm s1, hI.sm s1, fun p w x H2 s2 d2 hp hx => ⟨p, _, rfl, SqT.of (hid_of hp).1, rfl, _, _, rfl, _, _, rfl, rfl, _, rfl, _, rfl, lb rfl, fin (H3 := H2) (s1.trans s2) d2 hx⟩⟩
  rw [int_eq]
  refine ite2 (fun _ => ?_) (fun z3 => ?_)
  · exact ⟨_, rfl, _, rfl, _, rfl, _, rfl, V0, I, D, A, rfl, d1, hV.sm s1, hI.sm s1, fun p w x H2 s2 d2 hp hx => ⟨p, _, rfl, SqT.of (hid_of hp).1, rfl, _, _, rfl, _, _, rfl, rfl, _, rfl, _, rfl, lb rfl, fin (H3 := H2) (s1.trans s2) d2 hx⟩⟩
  have z2 : ¬ c < 3 := by simpa using z2
  have z3 : ¬ ((d : Nat) : Int) = 0 := by simpa using z3
  obtain ⟨d', rfl⟩ : ∃ d', d = d' + 1 := ⟨d - 1, by omega⟩
  have hd : (((d' + 1 : Nat) : Int) - 1) = (d' : Nat) := by omega
  refine ⟨lb rfl, fun L hL => ⟨_, rfl, _, _, rfl, rfl, ?_⟩⟩
  obtain ⟨v, hv, hat⟩ := pick (xs := [.str (S "add"), .str (S "mul"), .str (S "mul"), .str (S "sub"), .str (S "div")]) (r := c - 3) (by omega) (by show c - 3 < 5; omega)
  obtain ⟨o, ho, rfl⟩ : ∃ o, o ∈ [S "add", S "mul", S "sub", S "div"] ∧ v = .str o := by
    simp only [List.mem_cons, List.not_mem_nil, or_false] at hv
    rcases hv with rfl | rfl | rfl | rfl | rfl <;> exact ⟨_, by simp, rfl⟩
  have sL := d1.sm (o := .lst [.str (S "add"), .str (S "mul"), .str (S "mul"), .str (S "sub"), .str (S "div")]) hL
  have dL := d1.new (o := .lst [.str (S "add"), .str (S "mul"), .str (S "mul"), .str (S "sub"), .str (S "div")]) hL
  have s1L := s1.trans sL
  refine ⟨L, _, _, _, rfl, rfl, SqL.of upd_same, hat, ?_⟩
  refine ⟨_, rfl, _, rfl, _, rfl, _, rfl, _, rfl, _, _, rfl, rfl, d', rfl, V0, I, D, A, by rw [← hd]; rfl, dL, hV.sm s1L, hI.sm s1L, fun v1 H2 s2 d2 x1 => ?_⟩
  have s12 := s1L.trans s2
  refine ⟨_, rfl, _, rfl, _, rfl, _, rfl, _, rfl, _, rfl, _, rfl, _, _, rfl, rfl, d', rfl, V0, I, D, A, by rw [← hd]; rfl, d2, hV.sm s12, hI.sm s12, fun v2 H3 s3 d3 x2 => ⟨lb rfl, fun p hp => ?_⟩⟩
  exact q _ _ ((s12.trans s3).trans (d3.sm hp)) (d3.new hp) ⟨by have := fE_ge (d' + 1); omega, p, _, rfl, d3.at_new hp, .inr ⟨o, v1, v2, fE d', fE d', rfl, ho, x1.ft (smFt (s3.trans (d3.sm hp))), x2.ft (smFt (d3.sm hp)), by rw [fE]; omega⟩⟩
theorem has__law_expression (F : Facts w K mg) : ∀ d : Nat, Has P w K mg base CX0 (d + 6) "_law_expression" pLawExpression (spGExp d)
  | 0 => expr_step F 0 (has_0 (k := 4) F.g__law_expression F.f__law_expression scLawExpression bLawExpression (fun vs H Q E h => by obtain ⟨_, h, _⟩ := h; omega) fun cdv A' outer s H vs Q E hr h => by obtain ⟨_, h, _⟩ := h; omega)
  | d + 1 => expr_step F (d + 1) ((has__law_expression F d).imp fun vs H Q E h => by obtain ⟨d', e, h⟩ := h; rw [Nat.succ.inj e]; exact h)
/-- a test -/
def HTst (H : Hp) (n : Nat) (v : V) : Prop := ∃ a xs, v = .ref a ∧ H a = some (.tup xs) ∧ ((∃ e, xs = [.str (S "zero"), e] ∧ HExp H 1 51 e ∧ 54 ≤ n) ∨ (∃ t e b, xs = [.str (S "not"), .ref t] ∧ H t = some (.tup [.str (S "zero"), e]) ∧ HExp H 1 51 e ∧ b = (57 : Nat) ∧ b ≤ n) ∨
  ∃ o b c, xs = [.str o, b, c] ∧ o ∈ [S "less", S "equal"] ∧ HIdx H 1 6 b ∧ HIdx H 1 6 c ∧ 15 ≤ n)
theorem HTst.ft {H H' : Hp} {n : Nat} {v : V} (h : HTst H n v) (e : Ft H H') : HTst H' n v := by
  obtain ⟨a, xs, rfl, h1, h2⟩ := h
  refine ⟨a, xs, rfl, e _ _ h1, ?_⟩
  rcases h2 with ⟨x, h3, h4, h5⟩ | ⟨t, x, b, h3, h4, h5, h6⟩ | ⟨o, b, c, h3, h4, h5, h6, h7⟩
  · exact .inl ⟨x, h3, h4.ft e, h5⟩
  · exact .inr (.inl ⟨t, x, b, h3, e _ _ h4, h5.ft e, h6⟩)
  · exact .inr (.inr ⟨o, b, c, h3, h4, h5.ft e, h6.ft e, h7⟩)
def spGTst : Sp := fun vs H Q _ => ∃ V0 I D A, vs = [.ref V0, .ref I, .ref D, .ref A] ∧ Dr D A H ∧ VarL (hid A H) V0 True ∧ NamL (hid A H) I ∧ ∀ v H', Sm A H H' → Dr D A H' → HTst (hid A H') 57 v → Q v H'
theorem has__law_test (F : Facts w K mg) : Has P w K mg base CX0 8 "_law_test" pLawTest spGTst := by
  have h__law_take := has__law_take (P := P) (base := base) F
  have h__law_index := has__law_index (P := P) (base := base) F 1
  have h__law_expression := has__law_expression (P := P) (base := base) F 1
  refine has_0 (k := 7) F.g__law_test F.f__law_test scLawTest bLawTest (fun vs H Q E h => by obtain ⟨_, _, _, _, rfl, _⟩ := h; rfl) fun cdv A' outer s H vs Q E hr h => ?_
  obtain ⟨V0, I, D, A, rfl, dr, hV, hI, q⟩ := h
  refine ⟨_, (pss_cons (ps_set (i := 4) scLawTest.nd rfl (Or.inl rfl) (pe_callH h__law_take hr (by omega) rfl pass0 (pa_cons (pv 2) (pa_cons (pv 3) (pa_cons pe_int pa_nil)))))
    (pss_cons (ps_if (pt_cmpR op_eq (pv 4) pe_int (nomark _)) (pss_one (ps_ret (pe_tup (pa_cons pe_str (pa_cons (pe_callH h__law_expression hr (by omega) rfl pass0 (pa_cons (pv 0) (pa_cons (pv 1) (pa_cons (pv 2) (pa_cons (pv 3) (pa_cons pe_int pa_nil)))))) pa_nil)))))
      pss_nil)
    (pss_cons (ps_if (pt_cmpR op_eq (pv 4) pe_int (nomark _)) (pss_one (ps_ret (pe_tup (pa_cons pe_str (pa_cons (pe_tup (pa_cons pe_str (pa_cons (pe_callH h__law_expression hr (by omega) rfl pass0 (pa_cons (pv 0) (pa_cons (pv 1) (pa_cons (pv 2) (pa_cons (pv 3) (pa_cons pe_int pa_nil)))))) pa_nil))) pa_nil)))))
      pss_nil)
    (pss_cons (ps_set (i := 5) scLawTest.nd rfl (Or.inl rfl) (pe_ix ix_list (pe_lst (pa_cons pe_str (pa_cons pe_str pa_nil))) (pe_op op_sub (pv 4) pe_int) (fun _ _ => rfl)))
    (pss_one (ps_ret (pe_tup (pa_cons (pv 5) (pa_cons (pe_callH h__law_index hr (by omega) rfl pass0 (pa_cons (pv 1) (pa_cons (pv 2) (pa_cons (pv 3) (pa_cons pe_int pa_nil))))) (pa_cons (pe_callH h__law_index hr (by omega) rfl pass0 (pa_cons (pv 1) (pa_cons (pv 2) (pa_cons (pv 3) (pa_cons pe_int pa_nil))))) pa_nil)))))))))), ?_⟩
  refine ⟨_, rfl, _, rfl, D, A, 4, rfl, dr, by omega, fun c H1 c0 c1 s1 d1 => ?_⟩
  refine ⟨_, rfl, rfl, _, rfl, ite2 (fun _ => ?_) (fun z1 => ?_)⟩
  · refine ⟨_, rfl, _, rfl, _, rfl, _, rfl, V0, I, D, A, rfl, d1, hV.sm s1, hI.sm s1, fun v H2 s2 d2 x => ⟨lb rfl, fun p hp => ?_⟩⟩
    exact q _ _ ((s1.trans s2).trans (d2.sm hp)) (d2.new hp) ⟨p, _, rfl, d2.at_new hp, .inl ⟨v, rfl, x.ft (smFt (d2.sm hp)), by omega⟩⟩
  refine ⟨_, rfl, rfl, _, rfl, ite2 (fun _ => ?_) (fun z2 => ?_)⟩
  · refine ⟨_, rfl, _, rfl, _, rfl, _, rfl, V0, I, D, A, rfl, d1, hV.sm s1, hI.sm s1, fun v H2 s2 d2 x => ⟨lb rfl, fun t ht => ⟨lb rfl, fun p hp => ?_⟩⟩⟩
    have d3 := d2.new (o := .tup [.str (S "zero"), v]) ht
    exact q _ _ (((s1.trans s2).trans (d2.sm ht)).trans (d3.sm hp)) (d3.new hp) ⟨p, _, rfl, d3.at_new hp, .inr (.inl ⟨t, v, 57, rfl, d3.sm hp _ _ (d2.at_new ht), x.ft (smFt ((d2.sm ht).trans (d3.sm hp))), rfl, Nat.le_refl _⟩)⟩
  rw [int_eq] at z1 z2
  have z1 : ¬ c = 0 := by simpa using z1
  have z2 : ¬ c = 1 := by simpa using z2
  refine ⟨lb rfl, fun L hL => ⟨_, rfl, _, _, rfl, rfl, ?_⟩⟩
  obtain ⟨v, hv, hat⟩ := pick (xs := [.str (S "less"), .str (S "equal")]) (r := c - 2) (by omega) (by show c - 2 < 2; omega)
  obtain ⟨o, ho, rfl⟩ : ∃ o, o ∈ [S "less", S "equal"] ∧ v = .str o := by
    simp only [List.mem_cons, List.not_mem_nil, or_false] at hv
    rcases hv with rfl | rfl <;> exact ⟨_, by simp, rfl⟩
  have dL := d1.new (o := .lst [.str (S "less"), .str (S "equal")]) hL
  have s1L := s1.trans (d1.sm (o := .lst [.str (S "less"), .str (S "equal")]) hL)
  refine ⟨L, _, _, _, rfl, rfl, SqL.of upd_same, hat, ?_⟩
  refine ⟨_, rfl, _, rfl, _, rfl, _, rfl, I, D, A, rfl, dL, hI.sm s1L, fun v1 H2 s2 d2 x1 => ?_⟩
  have s12 := s1L.trans s2
  refine ⟨_, rfl, _, rfl, _, rfl, I, D, A, rfl, d2, hI.sm s12, fun v2 H3 s3 d3 x2 => ⟨lb rfl, fun p hp => ?_⟩⟩
  exact q _ _ ((s12.trans s3).trans (d3.sm hp)) (d3.new hp) ⟨p, _, rfl, d3.at_new hp, .inr (.inr ⟨o, v1, v2, rfl, ho, x1.ft (smFt (s3.trans (d3.sm hp))), x2.ft (smFt (d3.sm hp)), by omega⟩)⟩
end
end K10
/-! K10Gen2: the law's draws: calls, bodies, statements. Printed by expand.py from K10Gen2.tpl. -/
namespace K10
open PySem PySem.Spec PyProof.Rows L2
/-- [row for row in rows if test] -/
theorem lc_rows {K : PySem.W.Frag} {l D : Addr} {vs : List V} {i : Nat} {tt : TT} {te : TE} {ws : List Nat} {σ : L2.St} {H1 : Hp} {Qd : Hp → Prop} (p : V → Bool)
    (hl : H1 l = some (.lst vs)) (hz : vs.length ≤ 1000) (hD : H1 D = none)
    (htt : ∀ x xs Q, x ∈ vs → Q (p x) (upd H1 D (.lst xs)) → tt ((wipe σ ws).set i (some x)) (upd H1 D (.lst xs)) Q) (ht : ∀ x H Q, Q x H → te ((wipe σ ws).set i (some x)) H Q)
    (hd : Qd (upd H1 D (.lst (vs.filter p)))) (hw : ∀ v, wipe ((wipe σ ws).set i (some v)) ws = wipe σ ws := by intro _; rfl) :
    ∃ W : Nat → Nat → Hp → Prop, (∃ m, W 0 m (upd H1 D (.lst []))) ∧ ∀ i' m H, W i' m H →
      ((Itl K l).stop i' H ∧ Qd H) ∨ ((Itl K l).go i' H ∧ ∃ Nx : Hp → Prop, (∀ H', Nx H' → ∃ m', m' < m ∧ W (i' + 1) m' H') ∧ ∀ x H', (Itl K l).yld i' H x H' → gName i x (wipe σ ws) H' fun σ2 H2 => wipe σ2 ws = wipe σ ws ∧ tt σ2 H2 fun b H3 =>
        if b = true then te σ2 H3 fun y H4 => ∃ acc, H4 D = some (.lst acc) ∧ acc.length < sizeLine ∧ Nx (upd H4 D (.lst (acc ++ [y]))) else Nx H3) := by
  refine lc_list (xs := vs) (fun k H => H = upd H1 D (.lst ((vs.take k).filter p))) rfl (fun k H _ h => ?_) (fun k x H hx h => ?_) (fun H h => ?_)
  · subst h
    exact SqL.of (sameNew hD _ _ hl)
  · subst h
    refine ⟨hw x, htt x _ _ (List.mem_of_getElem? hx) ?_⟩
    have hk : k < vs.length := (List.getElem?_eq_some_iff.mp hx).1
    have hlen : ((vs.take k).filter p).length ≤ k := Nat.le_trans (List.length_filter_le _ _) (by rw [List.length_take]; omega)
    cases e : p x with
    | true =>
      refine iteT (ht x _ _ ⟨_, upd_same, by rw [line_eq]; omega, ?_⟩)
      rw [upd_upd, List.take_add_one, hx, List.filter_append]
      simp [e]
    | false =>
      refine iteF ?_
      rw [List.take_add_one, hx, List.filter_append]
      simp [e]
  · subst h
    rw [List.take_length]
    exact hd
def VarF (H : Hp) (l : Addr) (N : Nat) : Prop := ∃ vs : List V, H l = some (.lst vs) ∧ vs.length ≤ N ∧ (∀ v ∈ vs, ∃ a w z b, v = .ref a ∧ H a = some (.tup [.str w, .int z, .bl b]) ∧ gw w ∧ numOk z) ∧
  ∃ v ∈ vs, ∃ a w z, v = .ref a ∧ H a = some (.tup [.str w, .int z, .bl false])
theorem VarF.sm {H H' : Hp} {l : Addr} {N : Nat} (h : VarF H l N) (s : Same H H') : VarF H' l N := by
  obtain ⟨vs, h1, h2, h4, v, hv, a, w, z, e1, e2⟩ := h
  refine ⟨vs, s _ _ h1, h2, fun v hv => ?_, v, hv, a, w, z, e1, s _ _ e2⟩
  obtain ⟨a, w, z, b, e1, e2, e3⟩ := h4 v hv
  exact ⟨a, w, z, b, e1, s _ _ e2, e3⟩
theorem VarF.l {H : Hp} {l : Addr} {N : Nat} (h : VarF H l N) (hN : N ≤ 1000) : VarL H l True := by
  obtain ⟨vs, h1, h2, h4, v, hv, _⟩ := h
  exact ⟨vs, h1, by omega, (fun _ z => by rw [z] at hv; cases hv), h4⟩
def NamN (H : Hp) (l : Addr) (N : Nat) : Prop := ∃ ws : List Str, H l = some (.lst (ws.map V.str)) ∧ ws.length ≤ N ∧ ∀ w ∈ ws, gw w
theorem NamN.sm {H H' : Hp} {l : Addr} {N : Nat} (h : NamN H l N) (s : Same H H') : NamN H' l N := by
  obtain ⟨ws, h1, h2⟩ := h
  exact ⟨ws, s _ _ h1, h2⟩
theorem NamN.l {H : Hp} {l : Addr} {N : Nat} (h : NamN H l N) : NamL H l := by
  obtain ⟨ws, h1, _, h2⟩ := h
  exact ⟨ws, h1, h2⟩
/-- the procedures that are known: (name, count of indexes, sizes of references) -/
def KnoL (H : Hp) (l : Addr) : Prop := ∃ vs : List V, H l = some (.lst vs) ∧ vs.length ≤ 10 ∧ ∀ v ∈ vs, ∃ a w c sl, ∃ zs : List Int, v = .ref a ∧ H a = some (.tup [.str w, .int c, .ref sl]) ∧ gw w ∧ 0 ≤ c ∧ c ≤ 2 ∧ H sl = some (.lst (zs.map V.int)) ∧ zs.length ≤ 2
theorem KnoL.sm {H H' : Hp} {l : Addr} (h : KnoL H l) (s : Same H H') : KnoL H' l := by
  obtain ⟨vs, h1, h2, h3⟩ := h
  refine ⟨vs, s _ _ h1, h2, fun v hv => ?_⟩
  obtain ⟨a, w, c, sl, zs, e1, e2, e3, e4, e5, e6, e7⟩ := h3 v hv
  exact ⟨a, w, c, sl, zs, e1, s _ _ e2, e3, e4, e5, s _ _ e6, e7⟩
/-- a call -/
def HCal (H : Hp) (n : Nat) (v : V) : Prop := ∃ a w ti tn is, ∃ ns : List Str, v = .ref a ∧ H a = some (.tup [.str (S "call"), .str w, .ref ti, .ref tn]) ∧ gw w ∧ H ti = some (.tup is) ∧ is.length ≤ 2 ∧ (∀ i ∈ is, HIdx H 2 16 i) ∧ H tn = some (.tup (ns.map V.str)) ∧ ns.length ≤ 2 ∧ (∀ s ∈ ns, gw s) ∧ 40 ≤ n
theorem HCal.ft {H H' : Hp} {n : Nat} {v : V} (h : HCal H n v) (e : Ft H H') : HCal H' n v := by
  obtain ⟨a, w, ti, tn, is, ns, h0, h1, h2, h3, h4, h5, h6, h7, h8⟩ := h
  exact ⟨a, w, ti, tn, is, ns, h0, e _ _ h1, h2, e _ _ h3, h4, fun i hi => (h5 i hi).ft e, e _ _ h6, h7, h8⟩
def HSet (H : Hp) (n : Nat) (v : V) : Prop := ∃ a p w x e, v = .ref a ∧ H a = some (.tup [.str (S "set"), .ref p, e]) ∧ H p = some (.tup [w, x]) ∧ HPlc H 24 w x ∧ HExp H 2 105 e ∧ 130 ≤ n
theorem HSet.ft {H H' : Hp} {n : Nat} {v : V} (h : HSet H n v) (e : Ft H H') : HSet H' n v := by
  obtain ⟨a, p, w, x, ex, h0, h1, h2, h3, h4, h5⟩ := h
  exact ⟨a, p, w, x, ex, h0, e _ _ h1, e _ _ h2, h3.ft e, h4.ft e, h5⟩
/-- a tuple of things, n words at most -/
def HAll (S : Nat → V → Prop) (H : Hp) (n : Nat) (v : V) : Prop := ∃ a xs k, v = .ref a ∧ H a = some (.tup xs) ∧ (∀ x ∈ xs, S k x) ∧ xs.length * (k + 2) ≤ n
def HStm (H : Hp) : Nat → Nat → V → Prop
  | 0, n, v => HCal H n v ∨ HSet H n v
  | d + 1, n, v => (HCal H n v ∨ HSet H n v) ∨ ∃ a xs, v = .ref a ∧ H a = some (.tup xs) ∧
      ((∃ w i b k, xs = [.str (S "loop"), .str w, i, b] ∧ gw w ∧ HIdx H 1 6 i ∧ HAll (HStm H d) H k b ∧ 8 + k ≤ n) ∨
       (∃ t b c k1 k2, xs = [.str (S "if"), t, b, c] ∧ HTst H 57 t ∧ HAll (HStm H d) H k1 b ∧ HAll (HStm H d) H k2 c ∧ 62 + k1 + k2 ≤ n) ∨
       ∃ w e b k, xs = [.str (S "let"), .str w, e, b] ∧ gw w ∧ HExp H 2 105 e ∧ HAll (HStm H d) H k b ∧ 107 + k ≤ n)
theorem HAll.ft {S S' : Nat → V → Prop} {H H' : Hp} {n : Nat} {v : V} (h : HAll S H n v) (e : Ft H H') (hs : ∀ k x, S k x → S' k x) : HAll S' H' n v := by
  obtain ⟨a, xs, k, h0, h1, h2, h3⟩ := h
  exact ⟨a, xs, k, h0, e _ _ h1, fun x hx => hs k x (h2 x hx), h3⟩
theorem HStm.ft {H H' : Hp} (e : Ft H H') : ∀ {d n : Nat} {v : V}, HStm H d n v → HStm H' d n v
  | 0, n, v, h => h.imp (·.ft e) (·.ft e)
  | d + 1, n, v, h => by
    rcases h with h | ⟨a, xs, h0, h1, h⟩
    · exact .inl (h.imp (·.ft e) (·.ft e))
    · refine .inr ⟨a, xs, h0, e _ _ h1, ?_⟩
      rcases h with ⟨w, i, b, k, x1, x2, x3, x4, x5⟩ | ⟨t, b, c, k1, k2, x1, x2, x3, x4, x5⟩ | ⟨w, ex, b, k, x1, x2, x3, x4, x5⟩
      · exact .inl ⟨w, i, b, k, x1, x2, x3.ft e, x4.ft e fun k x => HStm.ft e, x5⟩
      · exact .inr (.inl ⟨t, b, c, k1, k2, x1, x2.ft e, x3.ft e fun k x => HStm.ft e, x4.ft e fun k x => HStm.ft e, x5⟩)
      · exact .inr (.inr ⟨w, ex, b, k, x1, x2, x3.ft e, x4.ft e fun k x => HStm.ft e, x5⟩)
theorem HStm.low {H : Hp} {d n : Nat} {v : V} (h : HCal H n v ∨ HSet H n v) : HStm H d n v := by
  cases d with
  | zero => exact h
  | succ d => exact .inl h
def fS : Nat → Nat
  | 0 => 130
  | d + 1 => 170 + 2 * (3 * (fS d + 2))
def fB (d : Nat) : Nat := 3 * (fS d + 2)
theorem fS_ge : ∀ d, 130 ≤ fS d
  | 0 => Nat.le_refl _
  | d + 1 => by rw [fS]; omega
/-! ### numbers as texts -/
theorem gw_num {n : Int} (h0 : 0 ≤ n) (h1 : n < 10 ^ 10) : (Str.ofString (toString n)).length ≤ 10 ∧ (Str.ofString (toString n)).cps.toList.all legal = true := by
  obtain ⟨m, rfl⟩ : ∃ m : Nat, n = (m : Int) := ⟨n.toNat, by omega⟩
  refine ⟨PySem.W.KT.len_num h0 h1, ?_⟩
  rw [PySem.W.KIN.signs_num, List.all_map, List.all_eq_true]
  intro c hc
  have := Nat.isDigit_of_mem_toDigits (by decide) (by decide) hc
  unfold Char.isDigit at this
  simp only [Bool.and_eq_true, decide_eq_true_eq] at this
  have h48 : 48 ≤ c.toNat := this.1
  have h57 : c.toNat ≤ 57 := this.2
  show legal c.toNat = true
  unfold legal
  simp
  omega
theorem gw_pre {a : Str} {n : Int} (ha : a.length ≤ 1) (hl : a.cps.toList.all legal = true) (h0 : 0 ≤ n) (h1 : n < 10 ^ 10) : gw (a ++ Str.ofString (toString n)) := by
  obtain ⟨x, y⟩ := gw_num h0 h1
  refine ⟨by rw [Str.length_append]; omega, ?_⟩
  have e : (a ++ Str.ofString (toString n)).cps.toList = a.cps.toList ++ (Str.ofString (toString n)).cps.toList := Array.toList_append
  rw [e, List.all_append, hl, y]
  rfl
theorem log_small {n : Int} (h0 : 0 ≤ n) (h1 : n < 10 ^ 10) : n.natAbs.log2 < 1920 := by
  by_cases z : n.natAbs = 0
  · rw [z]; decide
  · exact (Nat.log2_lt z).mpr (Nat.lt_of_lt_of_le (show n.natAbs < 10 ^ 10 by omega) (by decide +kernel))
section
variable {P : Program} {w : World} {K : PySem.W.Frag} {mg : Str → Option Value} {base : Heap}
def nLawCall : List Str := ["_law_variables", "_law_integers", "_law_known", "_law_draws_here", "_law_at", "_law_name_here", "_law_count", "_law_sizes", "_law_names", "_law_size", "_law_rows", "_law_row", "_law_k"]
def pLawCall : List Str := ["_law_variables", "_law_integers", "_law_known", "_law_draws_here", "_law_at"]
theorem scLawCall : FnScope nLawCall pLawCall (defScope sLawCall) := ⟨rfl, rfl, rfl, by decide +kernel, rfl, by decide +kernel, by decide +kernel⟩
theorem bLawCall : BindsBy "_law_call" sLawCall pLawCall := fun _ _ _ _ _ _ us hl => match us, hl with | [_, _, _, _, _], _ => rfl
def nLawBody : List Str := ["_law_variables", "_law_integers", "_law_known", "_law_draws_here", "_law_at", "_law_depth", "_law_count", "_law_k"]
def pLawBody : List Str := ["_law_variables", "_law_integers", "_law_known", "_law_draws_here", "_law_at", "_law_depth"]
theorem scLawBody : FnScope nLawBody pLawBody (defScope sLawBody) := ⟨rfl, rfl, rfl, by decide +kernel, rfl, by decide +kernel, by decide +kernel⟩
theorem bLawBody : BindsBy "_law_body" sLawBody pLawBody := fun _ _ _ _ _ _ us hl => match us, hl with | [_, _, _, _, _, _], _ => rfl
def nLawStatement : List Str := ["_law_variables", "_law_integers", "_law_known", "_law_draws_here", "_law_at", "_law_depth", "_law_choice", "_law_call_here", "_law_level", "_law_inner", "_law_count", "_law_test_here", "_law_first_here", "_law_value", "_law_free", "_law_row"]
def pLawStatement : List Str := ["_law_variables", "_law_integers", "_law_known", "_law_draws_here", "_law_at", "_law_depth"]
theorem scLawStatement : FnScope nLawStatement pLawStatement (defScope sLawStatement) := ⟨rfl, rfl, rfl, by decide +kernel, rfl, by decide +kernel, by decide +kernel⟩
theorem bLawStatement : BindsBy "_law_statement" sLawStatement pLawStatement := fun _ _ _ _ _ _ us hl => match us, hl with | [_, _, _, _, _, _], _ => rfl
def spGCal : Sp := fun vs H Q _ => ∃ V0 I N0 D A, vs = [.ref V0, .ref I, .ref N0, .ref D, .ref A] ∧ Dr D A H ∧ VarF (hid A H) V0 100 ∧ NamN (hid A H) I 100 ∧ KnoL (hid A H) N0 ∧ ∀ v H', Sm A H H' → Dr D A H' → (v = .non ∨ HCal (hid A H') 40 v) → Q v H'
theorem has__law_call (F : Facts w K mg) : Has P w K mg base CX0 5 "_law_call" pLawCall spGCal := by
  have h__law_take := has__law_take (P := P) (base := base) F
  have h__law_index := has__law_index (P := P) (base := base) F 2
  refine has_0 F.g__law_call F.f__law_call scLawCall bLawCall (fun vs H Q E h => by obtain ⟨_, _, _, _, _, rfl, _⟩ := h; rfl) fun cdv A' outer s H vs Q E hr h => ?_
  obtain ⟨V0, I, N0, D, A, rfl, dr, hV, hI, hN, q⟩ := h
  refine ⟨_, (pss_cons (ps_if (pt_not (pt_truth (pv 2) (by intro _; rfl))) (pss_one (ps_ret pe_non))
      pss_nil)
    (pss_cons (ps_asg (pe_ix ix_list (pv 2) (pe_callH h__law_take hr (by omega) rfl pass0 (pa_cons (pv 3) (pa_cons (pv 4) (pa_cons (pe_callB call_len_seq (by rfl) F.z_len (by decide +kernel) (pa_cons (pv 2) pa_nil)) pa_nil)))) (fun _ _ => rfl)) (pg_tup rfl (pgs_cons (pg_name (i := 5) scLawCall.nd rfl (Or.inl rfl)) (pgs_cons (pg_name (i := 6) scLawCall.nd rfl (Or.inl rfl)) (pgs_cons (pg_name (i := 7) scLawCall.nd rfl (Or.inl rfl)) pgs_nil)))))
    (pss_cons (ps_set (i := 8) scLawCall.nd rfl (Or.inr rfl) (pe_lst pa_nil))
    (pss_cons (ps_for PassesOwn.never rfl (pi_list (pv 7)) (pg_name (i := 9) scLawCall.nd rfl (Or.inr rfl))
      (pss_cons (ps_setLc (i := 10) (own := [("_law_row", 11)]) (g := gName 11)  rfl scLawCall.nd rfl rfl (sw_true rfl rfl rfl (by decide +kernel)) (pi_list (pv 0)) (blkOk_by (N := nLawCall) (sc := defScope sLawCall) (by decide +kernel)) (fun _ _ _ _ _ => (pg_name (i := 11) scLawCall.nd rfl (Or.inl rfl))) (fun _ _ _ _ _ => (pts_one (PW.pt (pw_and (pt_cmpR op_eq (pe_ix (show IxR _ (rIxT K) from ix_tup) (pv 11) pe_int (fun _ _ => rfl)) (pv 9) (nomark _)) (pw_and (pt_not (pt_val (pe_ix (show IxR _ (rIxT K) from ix_tup) (pv 11) pe_int (fun _ _ => rfl)))) (pw_and1 (pt_cmpR (show OpR _ (compareOp .NotIn) (rIn K true) from op_notIn_seq) (pe_ix (show IxR _ (rIxT K) from ix_tup) (pv 11) pe_int (fun _ _ => rfl)) (pv 8) (by rfl)))))))) (fun _ _ _ _ _ => (pv 11)))
      (pss_cons (ps_if (pt_not (pt_truth (pv 10) (by intro _; rfl))) (pss_one (ps_ret pe_non))
        pss_nil)
      (pss_one (ps_expr (pe_bm PySem.F.plainAttrs_list PySem.F.slot_list_append PySem.F.type_list_append mt_append (pv 8) (pa_cons (pe_ix ix_tup (pe_ix ix_list (pv 10) (pe_callH h__law_take hr (by omega) rfl pass0 (pa_cons (pv 3) (pa_cons (pv 4) (pa_cons (pe_callB call_len_seq (by rfl) F.z_len (by decide +kernel) (pa_cons (pv 10) pa_nil)) pa_nil)))) (fun _ _ => rfl)) pe_int (fun _ _ => rfl)) pa_nil)))))))
    (pss_one (ps_ret (pe_tup (pa_cons pe_str (pa_cons (pv 5) (pa_cons (pe_callTy call_tuple_of (by rfl) F.z_tuple (by decide +kernel) (pa_cons (pe_lc (own := [("_law_k", 12)]) (g := gName 12) (tt := tYes) rfl scLawCall.nd (pi_range1 rfl F.z_range (pa_cons (pv 6) pa_nil)) (blkOk_by (N := nLawCall) (sc := defScope sLawCall) (by decide +kernel)) (fun _ _ _ _ _ => (pg_name (i := 12) scLawCall.nd rfl (Or.inl rfl))) (fun _ _ _ _ _ => pts_nil) (fun _ _ _ _ _ => (pe_callH h__law_index hr (by omega) rfl pass0 (pa_cons (pv 1) (pa_cons (pv 3) (pa_cons (pv 4) (pa_cons pe_int pa_nil))))))) pa_nil)) (pa_cons (pe_callTy call_tuple_of (by rfl) F.z_tuple (by decide +kernel) (pa_cons (pv 8) pa_nil)) pa_nil))))))))))), ?_⟩
  obtain ⟨kv, hkv, hkl, hka⟩ := id hN
  by_cases hk0 : kv = []
  · subst hk0
    exact ⟨_, rfl, false, .inl ⟨_, SqL.of (hid_of hkv).1, rfl⟩, iteT (q _ _ (Same.refl _) dr (.inl rfl))⟩
  have hkp : 0 < kv.length := List.length_pos_iff.mpr hk0
  have e0 : true = (!kv.isEmpty) := by cases kv with | nil => exact absurd rfl hk0 | cons a r => rfl
  refine ⟨_, rfl, true, .inl ⟨_, SqL.of (hid_of hkv).1, e0⟩, iteF ?_⟩
  refine ⟨_, rfl, _, rfl, _, rfl, _, rfl, N0, _, rfl, .inl (SqL.of (hid_of hkv).1), D, A, _, rfl, dr, by omega, fun r H1 r0 r1 s1 d1 => ?_⟩
  obtain ⟨v, hvm, hat⟩ := pick r0 r1
  obtain ⟨a, wn, c, sl, zs, rfl, hrow, gwn, c0, c2, hsl, hzl⟩ := hka v hvm
  refine ⟨N0, _, _, _, rfl, rfl, SqL.of (hid_of (s1 _ _ hkv)).1, hat, a, _, rfl, SqT.of (hid_of (s1 _ _ hrow)).1, rfl, _, _, rfl, _, _, rfl, _, _, rfl, rfl, ?_⟩
  refine ⟨lb rfl, fun R hR => ⟨_, rfl, sl, rfl, ⟨_, SqL.of (hid_of ((s1.trans (d1.sm hR)) _ _ hsl)).1⟩, ?_⟩⟩
  have s1R := s1.trans (d1.sm (o := .lst []) hR)
  have RA := d1.ne hR
  refine for_list (xs := zs.map V.int) (fun k σ H3 => ∃ z9 z10 z11 z12, ∃ ns : List Str, σ = [some (.ref V0), some (.ref I), some (.ref N0), some (.ref D), some (.ref A), some (.str wn), some (.int c), some (.ref sl), some (.ref R), z9, z10, z11, z12] ∧ Same (hid A H1) (hid A H3) ∧ Dr D A H3 ∧ hid A H3 R = some (.lst (ns.map V.str)) ∧ ns.length ≤ k ∧ ∀ s ∈ ns, gw s)
    ⟨none, none, none, none, [], rfl, d1.sm hR, d1.new hR, d1.at_new hR, Nat.le_refl _, fun _ h => nomatch h⟩ (fun k σ H3 _ h => ?_) (fun k x σ H3 hx h => ?_) (fun σ H3 h => ?_)
  · obtain ⟨_, _, _, _, _, _, s3, _⟩ := h
    exact SqL.of (hid_of ((s1.trans s3) _ _ hsl)).1
  · obtain ⟨z9, z10, z11, z12, ns, rfl, s3, d3, hR3, hns, hg⟩ := h
    rw [List.getElem?_map] at hx
    obtain ⟨sz, hsz, rfl⟩ := Option.map_eq_some_iff.mp hx
    have hk : k < zs.length := (List.getElem?_eq_some_iff.mp hsz).1
    obtain ⟨vv, hvv, hvl, hva, _⟩ := hV.sm (s1.trans s3)
    have hvv1 := (hid_of hvv).1
    refine ⟨_, rfl, V0, rfl, ⟨_, SqL.of hvv1⟩, fun L hL => ?_⟩
    obtain ⟨pf, epf⟩ : ∃ pf : V → Bool, pf = fun x => match x with
      | .ref a => (match H3 a with
        | some (.tup [.str w, .int z, .bl b]) => decide (z = sz) && (!b && !decide (w ∈ ns))
        | _ => false)
      | _ => false := ⟨_, rfl⟩
    refine lc_rows (K := K) pf hvv1 (by omega) hL (fun x xs Q hxm qx => ?_) (fun x H Q qx => ⟨_, rfl, qx⟩) ?_
    · obtain ⟨a2, w2, z2, b2, rfl, e2, g2, n2⟩ := hva x hxm
      have e2' := (hid_of e2).1
      have e2L := sameNew (o := .lst xs) hL _ _ e2'
      rw [epf] at qx
      simp only [e2'] at qx
      refine ⟨_, rfl, a2, _, 0 + 1, _, rfl, rfl, SqT.of e2L, rfl, _, rfl, rfl, _, rfl, ?_⟩
      rw [int_eq]
      refine ite2 (fun y => ⟨_, rfl, a2, _, 2, _, rfl, rfl, SqT.of e2L, rfl, b2, rfl, ?_⟩) (fun y => ?_)
      · have y : z2 = sz := of_decide_eq_true y
        rw [decide_eq_true y, Bool.true_and] at qx
        cases b2 with
        | true => exact iteF qx
        | false =>
          refine iteT ⟨_, rfl, a2, _, 0, _, rfl, rfl, SqT.of e2L, rfl, _, rfl, R, _, rfl, .inl (SqL.of (sameNew hL _ _ (hid_of hR3).1)), rfl, flat_str _, _, rfl, ?_⟩
          rw [if_pos rfl, inV_str]
          exact qx
      · have y : ¬ z2 = sz := by simpa using y
        rw [decide_eq_false y] at qx
        exact qx
    · generalize hfil : vv.filter pf = fil
      have hfm : ∀ x ∈ fil, x ∈ vv := fun x hx => by rw [← hfil] at hx; exact (List.mem_filter.mp hx).1
      have d4 := d3.new (o := .lst fil) hL
      have s4 := d3.sm (o := .lst fil) hL
      have hL4 := d3.at_new (o := .lst fil) hL
      by_cases hf0 : fil = []
      · subst hf0
        exact ⟨_, rfl, false, .inl ⟨_, SqL.of upd_same, rfl⟩, iteT (q _ _ ((s1.trans s3).trans s4) d4 (.inl rfl))⟩
      have hfp : 0 < fil.length := List.length_pos_iff.mpr hf0
      have e1 : true = (!fil.isEmpty) := by cases fil with | nil => exact absurd rfl hf0 | cons a r => rfl
      refine ⟨_, rfl, true, .inl ⟨_, SqL.of upd_same, e1⟩, iteF ?_⟩
      refine ⟨_, rfl, .inl ⟨rfl, _, SqL.of (hid_of (s4 _ _ hR3)).1⟩, _, rfl, _, rfl, _, rfl, _, rfl, L, _, rfl, .inl (SqL.of upd_same), D, A, _, rfl, d4, by omega, fun r2 H5 r20 r21 s5 d5 => ?_⟩
      obtain ⟨x, hxm, hatx⟩ := pick r20 r21
      obtain ⟨a2, w2, z2, b2, rfl, e2, g2, n2⟩ := hva x (hfm x hxm)
      have s35 := s4.trans s5
      refine ⟨L, _, _, _, rfl, rfl, SqL.of (hid_of (s5 _ _ hL4)).1, hatx, a2, _, 0, _, rfl, rfl, SqT.of (hid_of (s35 _ _ e2)).1, rfl, ?_⟩
      have hR5 := hid_of (s35 _ _ hR3)
      refine ⟨_, _, _, rfl, rfl, hR5.1, by rw [line_eq, List.length_map]; omega, ?_⟩
      have eR : hid A (upd H5 R (.lst (ns.map V.str ++ [.str w2]))) = upd (hid A H5) R (.lst (ns.map V.str ++ [.str w2])) := hid_new RA
      refine ⟨_, _, _, _, ns ++ [w2], rfl, ?_, ?_, ?_, by simp; omega, fun s hs => ?_⟩
      · rw [eR]
        exact Same.at_new (s3.trans s35) (hid_none hR)
      · obtain ⟨zs', hz'⟩ := d5.ds
        obtain ⟨k', hk'⟩ := d5.at_
        refine ⟨⟨zs', ?_⟩, k', by rw [upd_ne (Ne.symm RA)]; exact hk'⟩
        have DR : D ≠ R := fun z => by
          obtain ⟨zd, hzd⟩ := d1.ds
          rw [z, hid_none hR] at hzd; cases hzd
        rw [eR, upd_ne DR]; exact hz'
      · rw [eR, upd_same, List.map_append]; rfl
      · rcases List.mem_append.mp hs with h | h
        · exact hg s h
        · rw [List.mem_singleton.mp h]; exact g2
  · obtain ⟨z9, z10, z11, z12, ns, rfl, s3, d3, hR3, hns, hg⟩ := h
    have s13 := s1.trans s3
    have hnl : ns.length ≤ 2 := by rw [List.length_map] at hns; omega
    refine ⟨_, rfl, _, rfl, c, rfl, by omega, by omega, fun L hL => ?_⟩
    refine lc_range (n := c.toNat) (fun k H4 => ∃ is : List V, Same (hid A H3) (hid A H4) ∧ Dr D A H4 ∧ hid A H4 L = some (.lst is) ∧ is.length = k ∧ ∀ i ∈ is, HIdx (hid A H4) 2 16 i) ⟨[], d3.sm hL, d3.new hL, d3.at_new hL, rfl, fun _ h => nomatch h⟩ (fun k H4 hk h => ?_) (fun H4 h => ?_)
    · obtain ⟨is, s4, d4, hL4, hil, hia⟩ := h
      refine ⟨rfl, ?_⟩
      refine ⟨_, rfl, _, rfl, _, rfl, I, D, A, rfl, d4, (hI.sm (s13.trans s4)).l, fun v H5 s5 d5 x => ?_⟩
      have LA := d3.ne hL
      have hL5 := hid_of (s5 _ _ hL4)
      have eL : hid A (upd H5 L (.lst (is ++ [v]))) = upd (hid A H5) L (.lst (is ++ [v])) := hid_new LA
      have ft : Ft (hid A H5) (upd (hid A H5) L (.lst (is ++ [v]))) := Ft.upd (s5 _ _ hL4) (fun _ z => nomatch z)
      refine ⟨is, hL5.1, by rw [line_eq]; omega, is ++ [v], ?_, ?_, by rw [eL, upd_same], by simp [hil], fun i hi => ?_⟩
      · rw [eL]; exact Same.at_new (s4.trans s5) (hid_none hL)
      · obtain ⟨zs', hz'⟩ := d5.ds
        obtain ⟨k', hk'⟩ := d5.at_
        refine ⟨⟨zs', ?_⟩, k', by rw [upd_ne (Ne.symm LA)]; exact hk'⟩
        have DL : D ≠ L := fun z => by
          obtain ⟨zd, hzd⟩ := d3.ds
          rw [z, hid_none hL] at hzd; cases hzd
        rw [eL, upd_ne DL]; exact hz'
      · rw [eL]
        rcases List.mem_append.mp hi with h | h
        · exact ((hia i h).ft (smFt s5)).ft ft
        · rw [List.mem_singleton.mp h]; exact x.ft ft
    · obtain ⟨is, s4, d4, hL4, hil, hia⟩ := h
      refine ⟨L, is, rfl, .inl ⟨SqL.of (hid_of hL4).1, fun ti hti => ?_⟩⟩
      have s5 := d4.sm (o := .tup is) hti
      have d5 := d4.new (o := .tup is) hti
      refine ⟨_, rfl, R, _, rfl, .inl ⟨SqL.of (hid_of ((s4.trans s5) _ _ hR3)).1, fun tn htn => ⟨lb rfl, fun p hp => ?_⟩⟩⟩
      have s6 := d5.sm (o := .tup (ns.map V.str)) htn
      have d6 := d5.new (o := .tup (ns.map V.str)) htn
      have s7 := d6.sm (o := .tup [.str (S "call"), .str wn, .ref ti, .ref tn]) hp
      refine q _ _ ((((s13.trans s4).trans s5).trans s6).trans s7) (d6.new hp) (.inr ⟨p, wn, ti, tn, is, ns, rfl, d6.at_new hp, gwn, (s6.trans s7) _ _ (d4.at_new hti), by omega, fun i hi => (hia i hi).ft (smFt ((s5.trans s6).trans s7)), s7 _ _ (d5.at_new htn), hnl, hg, Nat.le_refl _⟩)
end
end K10
/-! K10Gen3: the law's draws: bodies, statements. Printed by expand.py from K10Gen3.tpl. -/
namespace K10
open PySem PySem.Spec PyProof.Rows L2
/-- a list's own place is not the draws' -/
theorem Dr.put {D A L : Addr} {H H1 : Hp} {o : HO} (d : Dr D A H) (d0 : Dr D A H1) (hL : H1 L = none) : Dr D A (upd H L o) := by
  have LA := d0.ne hL
  obtain ⟨zs', hz'⟩ := d.ds
  obtain ⟨k', hk'⟩ := d.at_
  refine ⟨⟨zs', ?_⟩, k', by rw [upd_ne (Ne.symm LA)]; exact hk'⟩
  have DL : D ≠ L := fun z => by
    obtain ⟨zd, hzd⟩ := d0.ds
    rw [z, hid_none hL] at hzd; cases hzd
  rw [hid_new LA, upd_ne DL]; exact hz'
theorem byCont2 {Inv : Hp → Prop} {B : Int → Hp → Prop} {G : Prop} (g : (∀ c H, 0 ≤ c → c < 10 → Inv H → B c H) → G) (t : ∀ c H, 0 ≤ c → c < 10 → Inv H → B c H) : G := g t
section
variable {P : Program} {w : World} {K : PySem.W.Frag} {mg : Str → Option Value} {base : Heap}
structure Gin (D A V0 I N0 : Addr) (d : Nat) (H : Hp) : Prop where
  dr : Dr D A H
  v : VarF (hid A H) V0 (90 - d)
  i : NamN (hid A H) I (90 - d)
  n : KnoL (hid A H) N0
  l : d ≤ 50
theorem Gin.sm {D A V0 I N0 : Addr} {d : Nat} {H H' : Hp} (g : Gin D A V0 I N0 d H) (s : Sm A H H') (dr : Dr D A H') : Gin D A V0 I N0 d H' := ⟨dr, g.v.sm s, g.i.sm s, g.n.sm s, g.l⟩
theorem VarF.up {H : Hp} {l : Addr} {N M : Nat} (h : VarF H l N) (le : N ≤ M) : VarF H l M := by
  obtain ⟨vs, h1, h2, h4⟩ := h
  exact ⟨vs, h1, by omega, h4⟩
theorem NamN.up {H : Hp} {l : Addr} {N M : Nat} (h : NamN H l N) (le : N ≤ M) : NamN H l M := by
  obtain ⟨vs, h1, h2, h4⟩ := h
  exact ⟨vs, h1, by omega, h4⟩
/-- m statements at most -/
def HBd (H : Hp) (d m : Nat) (v : V) : Prop := ∃ a xs, v = .ref a ∧ H a = some (.tup xs) ∧ (1 ≤ xs.length ∧ xs.length ≤ m) ∧ ∀ x ∈ xs, HStm H d (fS d) x
theorem HBd.all {H : Hp} {d : Nat} {v : V} (h : HBd H d 3 v) : HAll (HStm H d) H (fB d) v := by
  obtain ⟨a, xs, h0, h1, h2, h3⟩ := h
  exact ⟨a, xs, fS d, h0, h1, h3, Nat.mul_le_mul_right _ h2.2⟩
theorem HBd.ft {H H' : Hp} {d m : Nat} {v : V} (h : HBd H d m v) (e : Ft H H') : HBd H' d m v := by
  obtain ⟨a, xs, h0, h1, h2, h3⟩ := h
  exact ⟨a, xs, h0, e _ _ h1, h2, fun x hx => HStm.ft e (h3 x hx)⟩
def spGBod (d : Nat) : Sp := fun vs H Q _ => ∃ V0 I N0 D A, vs = [.ref V0, .ref I, .ref N0, .ref D, .ref A, .int (d : Nat)] ∧ Gin D A V0 I N0 d H ∧ ∀ v H', Sm A H H' → Dr D A H' → HBd (hid A H') d 3 v → Q v H'
def spGStm (d : Nat) : Sp := fun vs H Q _ => ∃ V0 I N0 D A, vs = [.ref V0, .ref I, .ref N0, .ref D, .ref A, .int (d : Nat)] ∧ Gin D A V0 I N0 d H ∧ ∀ v H', Sm A H H' → Dr D A H' → HStm (hid A H') d (fS d) v → Q v H'
theorem has__law_body (F : Facts w K mg) {k d : Nat} (h__law_statement : Has P w K mg base CX0 k "_law_statement" pLawStatement (spGStm d)) (hk : 1 ≤ k) : Has P w K mg base CX0 (k + 1) "_law_body" pLawBody (spGBod d) := by
  have h__law_take := has__law_take (P := P) (base := base) F
  refine has_0 F.g__law_body F.f__law_body scLawBody bLawBody (fun vs H Q E h => by obtain ⟨_, _, _, _, _, rfl, _⟩ := h; rfl) fun cdv A' outer s H vs Q E hr h => ?_
  obtain ⟨V0, I, N0, D, A, rfl, g, q⟩ := h
  refine ⟨_, (pss_cons (ps_set (i := 6) scLawBody.nd rfl (Or.inl rfl) (pe_op op_add pe_int (pe_callH h__law_take hr (by omega) rfl pass0 (pa_cons (pv 3) (pa_cons (pv 4) (pa_cons pe_int pa_nil))))))
    (pss_one (ps_ret (pe_callTy call_tuple_of (by rfl) F.z_tuple (by decide +kernel) (pa_cons (pe_lc (own := [("_law_k", 7)]) (g := gName 7) (tt := tYes) rfl scLawBody.nd (pi_range1 rfl F.z_range (pa_cons (pv 6) pa_nil)) (blkOk_by (N := nLawBody) (sc := defScope sLawBody) (by decide +kernel)) (fun _ _ _ _ _ => (pg_name (i := 7) scLawBody.nd rfl (Or.inl rfl))) (fun _ _ _ _ _ => pts_nil) (fun _ _ _ _ _ => (pe_callH h__law_statement hr (by omega) rfl pass0 (pa_cons (pv 0) (pa_cons (pv 1) (pa_cons (pv 2) (pa_cons (pv 3) (pa_cons (pv 4) (pa_cons (pv 5) pa_nil))))))))) pa_nil))))), ?_⟩
  refine ⟨_, rfl, _, rfl, D, A, 3, rfl, g.dr, by omega, fun r H1 r0 r1 s1 d1 => ⟨_, _, rfl, rfl, ?_⟩⟩
  refine ⟨_, rfl, 1 + r, rfl, by omega, by omega, fun L hL => ?_⟩
  refine lc_range (n := (1 + r).toNat) (fun k H4 => ∃ is : List V, Same (hid A H1) (hid A H4) ∧ Dr D A H4 ∧ hid A H4 L = some (.lst is) ∧ is.length = k ∧ ∀ i ∈ is, HStm (hid A H4) d (fS d) i) ⟨[], d1.sm hL, d1.new hL, d1.at_new hL, rfl, fun _ h => nomatch h⟩ (fun k H4 hk h => ?_) (fun H4 h => ?_)
  · obtain ⟨is, s4, d4, hL4, hil, hia⟩ := h
    refine ⟨rfl, ?_⟩
    refine ⟨_, rfl, _, rfl, _, rfl, _, rfl, _, rfl, _, rfl, V0, I, N0, D, A, rfl, g.sm (s1.trans s4) d4, fun v H5 s5 d5 x => ?_⟩
    have LA := d1.ne hL
    have hL5 := hid_of (s5 _ _ hL4)
    have eL : hid A (upd H5 L (.lst (is ++ [v]))) = upd (hid A H5) L (.lst (is ++ [v])) := hid_new LA
    have ft : Ft (hid A H5) (upd (hid A H5) L (.lst (is ++ [v]))) := Ft.upd (s5 _ _ hL4) (fun _ z => nomatch z)
    refine ⟨is, hL5.1, by rw [line_eq]; omega, is ++ [v], ?_, d5.put d1 hL, by rw [eL, upd_same], by simp [hil], fun i hi => ?_⟩
    · rw [eL]; exact Same.at_new (s4.trans s5) (hid_none hL)
    · rw [eL]
      rcases List.mem_append.mp hi with h | h
      · exact HStm.ft ft (HStm.ft (smFt s5) (hia i h))
      · rw [List.mem_singleton.mp h]; exact HStm.ft ft x
  · obtain ⟨is, s4, d4, hL4, hil, hia⟩ := h
    refine ⟨L, is, rfl, .inl ⟨SqL.of (hid_of hL4).1, fun ti hti => ?_⟩⟩
    have s5 := d4.sm (o := .tup is) hti
    refine q _ _ ((s1.trans s4).trans s5) (d4.new hti) ⟨ti, is, rfl, d4.at_new hti, ⟨by omega, by omega⟩, fun x hx => HStm.ft (smFt s5) (hia x hx)⟩
theorem and_test {σ : L2.St} {H : Hp} {c k d : Int} {Q : Bool → Hp → Prop} (h6 : σ[6]? = some (some (.int c))) (h5 : σ[5]? = some (some (.int d))) (q : Q (decide (c = k ∧ 0 < d)) H) :
    tAnd (tTest (tOp rEq (tVar 6) (L2.tC (.int k)))) (tTest (tOp (rI0 fun i j => .bl (decide (j < i))) (tVar 5) (L2.tC (.int 0)))) σ H Q := by
  refine ⟨_, h6, rfl, _, rfl, ?_⟩
  rw [int_eq]
  by_cases e : c = k
  · rw [decide_eq_true e]
    refine iteT ⟨_, h5, _, _, rfl, rfl, _, rfl, ?_⟩
    have : decide (c = k ∧ 0 < d) = decide (0 < d) := by simp [e]
    rw [this] at q
    exact q
  · rw [decide_eq_false e]
    have : decide (c = k ∧ 0 < d) = false := by simp [e]
    rw [this] at q
    exact iteF q
theorem stm_step (F : Facts w K mg) (d : Nat) (h__law_body : Has P w K mg base CX0 (2 * d + 8) "_law_body" pLawBody (fun vs H Q E => ∃ d', d = d' + 1 ∧ spGBod d' vs H Q E)) : Has P w K mg base CX0 (2 * d + 9) "_law_statement" pLawStatement (spGStm d) := by
  have h__law_take := has__law_take (P := P) (base := base) F
  have h__law_index := has__law_index (P := P) (base := base) F 1
  have h__law_place := has__law_place (P := P) (base := base) F
  have h__law_expression := has__law_expression (P := P) (base := base) F 2
  have h__law_test := has__law_test (P := P) (base := base) F
  have h__law_call := has__law_call (P := P) (base := base) F
  refine has_0 (k := 2 * d + 8) F.g__law_statement F.f__law_statement scLawStatement bLawStatement (fun vs H Q E h => by obtain ⟨_, _, _, _, _, rfl, _⟩ := h; rfl) fun cdv A' outer s H vs Q E hr h => ?_
  obtain ⟨V0, I, N0, D, A, rfl, g, q⟩ := h
  refine ⟨_, (pss_cons (ps_set (i := 6) scLawStatement.nd rfl (Or.inl rfl) (pe_callH h__law_take hr (by omega) rfl pass0 (pa_cons (pv 3) (pa_cons (pv 4) (pa_cons pe_int pa_nil)))))
    (pss_cons (ps_set (i := 7) scLawStatement.nd rfl (Or.inl rfl) pe_non)
    (pss_cons (ps_if (pt_cmpR op_eq (pv 6) pe_int (nomark _)) (pss_one (ps_set (i := 7) scLawStatement.nd rfl (Or.inl rfl) (pe_callH h__law_call hr (by omega) rfl pass0 (pa_cons (pv 0) (pa_cons (pv 1) (pa_cons (pv 2) (pa_cons (pv 3) (pa_cons (pv 4) pa_nil))))))))
      pss_nil)
    (pss_cons (ps_if (pt_cmpR op_notN (pv 7) pe_non (nomark _)) (pss_one (ps_ret (pv 7)))
      pss_nil)
    (pss_cons (ps_set (i := 8) scLawStatement.nd rfl (Or.inl rfl) (pe_callTy call_str_int (by rfl) F.z_str (by decide +kernel) (pa_cons (pe_op op_add (pe_callB call_len_seq (by rfl) F.z_len (by decide +kernel) (pa_cons (pv 0) pa_nil)) (pe_callB call_len_seq (by rfl) F.z_len (by decide +kernel) (pa_cons (pv 1) pa_nil))) pa_nil)))
    (pss_cons (ps_if (PW.pt (pw_and (pt_cmpR op_eq (pv 6) pe_int (nomark _)) (pw_and1 (pt_cmpR op_gt (pv 5) pe_int (nomark _))))) (pss_cons (ps_set (i := 9) scLawStatement.nd rfl (Or.inl rfl) (pe_op op_cat (pv 1) (pe_lst (pa_cons (pe_op op_add_str pe_str (pv 8)) pa_nil))))
      (pss_cons (ps_set (i := 10) scLawStatement.nd rfl (Or.inl rfl) (pe_callH h__law_index hr (by omega) rfl pass0 (pa_cons (pv 1) (pa_cons (pv 3) (pa_cons (pv 4) (pa_cons pe_int pa_nil))))))
      (pss_one (ps_ret (pe_tup (pa_cons pe_str (pa_cons (pe_ix ix_list (pv 9) (pe_un un_neg pe_int) (fun _ _ => rfl)) (pa_cons (pv 10) (pa_cons (pe_callH h__law_body hr (by omega) rfl pass0 (pa_cons (pv 0) (pa_cons (pv 9) (pa_cons (pv 2) (pa_cons (pv 3) (pa_cons (pv 4) (pa_cons (pe_op op_sub (pv 5) pe_int) pa_nil))))))) pa_nil)))))))))
      pss_nil)
    (pss_cons (ps_if (PW.pt (pw_and (pt_cmpR op_eq (pv 6) pe_int (nomark _)) (pw_and1 (pt_cmpR op_gt (pv 5) pe_int (nomark _))))) (pss_cons (ps_set (i := 11) scLawStatement.nd rfl (Or.inl rfl) (pe_callH h__law_test hr (by omega) rfl pass0 (pa_cons (pv 0) (pa_cons (pv 1) (pa_cons (pv 3) (pa_cons (pv 4) pa_nil))))))
      (pss_cons (ps_set (i := 12) scLawStatement.nd rfl (Or.inl rfl) (pe_callH h__law_body hr (by omega) rfl pass0 (pa_cons (pv 0) (pa_cons (pv 1) (pa_cons (pv 2) (pa_cons (pv 3) (pa_cons (pv 4) (pa_cons (pe_op op_sub (pv 5) pe_int) pa_nil))))))))
      (pss_one (ps_ret (pe_tup (pa_cons pe_str (pa_cons (pv 11) (pa_cons (pv 12) (pa_cons (pe_callH h__law_body hr (by omega) rfl pass0 (pa_cons (pv 0) (pa_cons (pv 1) (pa_cons (pv 2) (pa_cons (pv 3) (pa_cons (pv 4) (pa_cons (pe_op op_sub (pv 5) pe_int) pa_nil))))))) pa_nil)))))))))
      pss_nil)
    (pss_cons (ps_if (PW.pt (pw_and (pt_cmpR op_eq (pv 6) pe_int (nomark _)) (pw_and1 (pt_cmpR op_gt (pv 5) pe_int (nomark _))))) (pss_cons (ps_set (i := 9) scLawStatement.nd rfl (Or.inl rfl) (pe_op op_cat (pv 0) (pe_lst (pa_cons (pe_tup (pa_cons (pe_op op_add_str pe_str (pv 8)) (pa_cons pe_int (pa_cons pe_bl pa_nil)))) pa_nil))))
      (pss_cons (ps_set (i := 13) scLawStatement.nd rfl (Or.inl rfl) (pe_callH h__law_expression hr (by omega) rfl pass0 (pa_cons (pv 0) (pa_cons (pv 1) (pa_cons (pv 3) (pa_cons (pv 4) (pa_cons pe_int pa_nil)))))))
      (pss_one (ps_ret (pe_tup (pa_cons pe_str (pa_cons (pe_ix ix_tup (pe_ix ix_list (pv 9) (pe_un un_neg pe_int) (fun _ _ => rfl)) pe_int (fun _ _ => rfl)) (pa_cons (pv 13) (pa_cons (pe_callH h__law_body hr (by omega) rfl pass0 (pa_cons (pv 9) (pa_cons (pv 1) (pa_cons (pv 2) (pa_cons (pv 3) (pa_cons (pv 4) (pa_cons (pe_op op_sub (pv 5) pe_int) pa_nil))))))) pa_nil)))))))))
      pss_nil)
    (pss_cons (ps_setLc (i := 14) (own := [("_law_row", 15)]) (g := gName 15)  rfl scLawStatement.nd rfl rfl (sw_true rfl rfl rfl (by decide +kernel)) (pi_list (pv 0)) (blkOk_by (N := nLawStatement) (sc := defScope sLawStatement) (by decide +kernel)) (fun _ _ _ _ _ => (pg_name (i := 15) scLawStatement.nd rfl (Or.inl rfl))) (fun _ _ _ _ _ => (pts_one (pt_not (pt_val (pe_ix (show IxR _ (rIxT K) from ix_tup) (pv 15) pe_int (fun _ _ => rfl)))))) (fun _ _ _ _ _ => (pv 15)))
    (pss_one (ps_ret (pe_tup (pa_cons pe_str (pa_cons (pe_callH h__law_place hr (by omega) rfl pass0 (pa_cons (pv 14) (pa_cons (pv 1) (pa_cons (pv 3) (pa_cons (pv 4) pa_nil))))) (pa_cons (pe_callH h__law_expression hr (by omega) rfl pass0 (pa_cons (pv 0) (pa_cons (pv 1) (pa_cons (pv 3) (pa_cons (pv 4) (pa_cons pe_int pa_nil)))))) pa_nil))))))))))))))), ?_⟩
  refine ⟨_, rfl, _, rfl, D, A, 10, rfl, g.dr, by omega, ?_⟩
  refine byCont2 (Inv := fun H2 => Sm A H H2 ∧ Dr D A H2) (B := ?B) (fun cont c H1 c0 c1 s1 d1 => ?_) (fun c H2 c0 c1 h2 => ?_)
  rotate_left
  · have g1 := g.sm s1 d1
    refine ⟨_, rfl, rfl, _, rfl, ite2 (fun _ => ?_) (fun _ => ?_)⟩
    rotate_left
    · refine ⟨_, rfl, rfl, _, rfl, iteF ?_⟩
      exact cont c H1 c0 c1 ⟨s1, d1⟩
    refine ⟨_, rfl, _, rfl, _, rfl, _, rfl, _, rfl, V0, I, N0, D, A, rfl, d1, g1.v.up (by omega), g1.i.up (by omega), g1.n, fun v H2 s2 d2 hv => ?_⟩
    rcases hv with rfl | hv
    · refine ⟨_, rfl, rfl, _, rfl, iteF ?_⟩
      exact cont c H2 c0 c1 ⟨s1.trans s2, d2⟩
    · obtain ⟨a, _, _, _, _, _, rfl, _⟩ := id hv
      refine ⟨_, rfl, rfl, _, rfl, iteT ⟨_, rfl, q _ _ (s1.trans s2) d2 (HStm.low (.inl ?_))⟩⟩
      obtain ⟨a, w, ti, tn, is, ns, x0, x1, x2, x3, x4, x5, x6, x7, x8, _⟩ := hv
      exact ⟨a, w, ti, tn, is, ns, x0, x1, x2, x3, x4, x5, x6, x7, x8, by have := fS_ge d; omega⟩
  obtain ⟨s2, d2⟩ := h2
  have g2 := g.sm s2 d2
  obtain ⟨vs, hvs, hvl, hva, vf, hvf, af, wf, zf, rfl, hrf⟩ := id g2.v
  obtain ⟨ws, hws, hwl, hwg⟩ := id g2.i
  have hd50 := g.l
  have n0 : (0 : Int) ≤ (vs.length : Int) + ((ws.map V.str).length : Int) := by omega
  have n1 : (vs.length : Int) + ((ws.map V.str).length : Int) < 10 ^ 10 := by
    rw [List.length_map]
    have : (10 : Int) ^ 10 = 10000000000 := by decide
    omega
  refine ⟨_, rfl, V0, vs, rfl, .inl (SqL.of (hid_of hvs).1), _, rfl, I, _, rfl, .inl (SqL.of (hid_of hws).1), _, _, rfl, rfl, _, rfl, log_small n0 n1, ?_⟩
  generalize hlv : (vs.length : Int) + ((ws.map V.str).length : Int) = nlv at *
  obtain ⟨lv1, lv2⟩ := gw_num n0 n1
  have lni : (Str.ofString "i").length + (Str.ofString (toString nlv)).length ≤ sizeLine := by
    have : (Str.ofString "i").length = 1 := by decide +kernel
    rw [line_eq]; omega
  have lnl : (Str.ofString "l").length + (Str.ofString (toString nlv)).length ≤ sizeLine := by
    have : (Str.ofString "l").length = 1 := by decide +kernel
    rw [line_eq]; omega
  have gi := gw_pre (a := Str.ofString "i") (by decide +kernel) (by decide +kernel) n0 n1
  have gl := gw_pre (a := Str.ofString "l") (by decide +kernel) (by decide +kernel) n0 n1
  refine and_test (by rfl) (by rfl) ?_
  refine ite2 (fun c1 => ?_) (fun c1 => ?_)
  · -- loop
    have c1 := of_decide_eq_true c1
    obtain ⟨d', rfl⟩ : ∃ d', d = d' + 1 := ⟨d - 1, by omega⟩
    have hd : (((d' + 1 : Nat) : Int) - 1) = (d' : Nat) := by omega
    refine ⟨_, rfl, _, rfl, _, _, rfl, rfl, lni, lb rfl, fun b hb => ⟨I, b, _, _, rfl, rfl, sameNew hb _ _ (hid_of hws).1, upd_same, by rw [line_eq]; simp; omega, fun L hL => ?_⟩⟩
    have d3 := d2.new (o := .lst [.str (Str.ofString "i" ++ Str.ofString (toString nlv))]) hb
    have s3 := d2.sm (o := .lst [.str (Str.ofString "i" ++ Str.ofString (toString nlv))]) hb
    have d4 := d3.new (o := .lst (ws.map V.str ++ [.str (Str.ofString "i" ++ Str.ofString (toString nlv))])) hL
    have s4 := s3.trans (d3.sm (o := .lst (ws.map V.str ++ [.str (Str.ofString "i" ++ Str.ofString (toString nlv))])) hL)
    have hL4 := d3.at_new (o := .lst (ws.map V.str ++ [.str (Str.ofString "i" ++ Str.ofString (toString nlv))])) hL
    have g4 := g2.sm s4 d4
    refine ⟨_, rfl, _, rfl, _, rfl, I, D, A, rfl, d4, g4.i.l, fun v5 H5 s5 d5 x5 => ?_⟩
    refine ⟨_, rfl, _, rfl, L, _, -1, _, rfl, rfl, SqL.of (hid_of (s5 _ _ hL4)).1, atI_last _ _, _, rfl, ?_⟩
    refine ⟨_, rfl, _, rfl, _, rfl, _, rfl, _, rfl, _, rfl, _, _, rfl, rfl, d', rfl, V0, L, N0, D, A, by rw [← hd]; rfl, ⟨d5, (g4.v.sm s5).up (by omega), ⟨ws ++ [Str.ofString "i" ++ Str.ofString (toString nlv)], ?_, by simp; omega, fun w hw => ?_⟩, g4.n.sm s5, by omega⟩, fun v6 H6 s6 d6 x6 => ⟨lb rfl, fun p hp => ?_⟩⟩
    · rw [List.map_append]; exact s5 _ _ hL4
    · rcases List.mem_append.mp hw with h | h
      · exact hwg w h
      · rw [List.mem_singleton.mp h]; exact gi
    · have s7 := d6.sm (o := .tup [.str (S "loop"), .str (Str.ofString "i" ++ Str.ofString (toString nlv)), v5, v6]) hp
      refine q _ _ ((((s2.trans s4).trans s5).trans s6).trans s7) (d6.new hp) (.inr ⟨p, _, rfl, d6.at_new hp, .inl ⟨_, v5, v6, fB d', rfl, gi, x5.ft (smFt (s6.trans s7)), x6.all.ft (smFt s7) fun k x => HStm.ft (smFt s7), ?_⟩⟩)
      rw [fS]; unfold fB; omega
  refine and_test (by rfl) (by rfl) ?_
  refine ite2 (fun c2 => ?_) (fun c2 => ?_)
  · -- if
    have c2 := of_decide_eq_true c2
    obtain ⟨d', rfl⟩ : ∃ d', d = d' + 1 := ⟨d - 1, by omega⟩
    have hd : (((d' + 1 : Nat) : Int) - 1) = (d' : Nat) := by omega
    have gup : ∀ {H' : Hp}, Gin D A V0 I N0 (d' + 1) H' → Gin D A V0 I N0 d' H' := fun g => ⟨g.dr, g.v.up (by omega), g.i.up (by omega), g.n, by omega⟩
    refine ⟨_, rfl, _, rfl, _, rfl, _, rfl, V0, I, D, A, rfl, d2, g2.v.l (by omega), g2.i.l, fun v5 H5 s5 d5 x5 => ?_⟩
    refine ⟨_, rfl, _, rfl, _, rfl, _, rfl, _, rfl, _, rfl, _, _, rfl, rfl, d', rfl, V0, I, N0, D, A, by rw [← hd]; rfl, gup (g2.sm s5 d5), fun v6 H6 s6 d6 x6 => ?_⟩
    refine ⟨_, rfl, _, rfl, _, rfl, _, rfl, _, rfl, _, rfl, _, rfl, _, rfl, _, _, rfl, rfl, d', rfl, V0, I, N0, D, A, by rw [← hd]; rfl, gup ((g2.sm s5 d5).sm s6 d6), fun v7 H7 s7 d7 x7 => ⟨lb rfl, fun p hp => ?_⟩⟩
    have s8 := d7.sm (o := .tup [.str (S "if"), v5, v6, v7]) hp
    refine q _ _ ((((s2.trans s5).trans s6).trans s7).trans s8) (d7.new hp) (.inr ⟨p, _, rfl, d7.at_new hp, .inr (.inl ⟨v5, v6, v7, fB d', fB d', rfl, x5.ft (smFt ((s6.trans s7).trans s8)), x6.all.ft (smFt (s7.trans s8)) fun k x => HStm.ft (smFt (s7.trans s8)), x7.all.ft (smFt s8) fun k x => HStm.ft (smFt s8), ?_⟩)⟩)
    rw [fS]; unfold fB; omega
  refine and_test (by rfl) (by rfl) ?_
  refine ite2 (fun c3 => ?_) (fun c3 => ?_)
  · -- let
    have c3 := of_decide_eq_true c3
    obtain ⟨d', rfl⟩ : ∃ d', d = d' + 1 := ⟨d - 1, by omega⟩
    have hd : (((d' + 1 : Nat) : Int) - 1) = (d' : Nat) := by omega
    refine ⟨_, rfl, _, rfl, _, _, rfl, rfl, lnl, lb rfl, fun t ht => ⟨lb rfl, fun b hb => ⟨V0, b, _, _, rfl, rfl, sameNew hb _ _ (sameNew ht _ _ (hid_of hvs).1), upd_same, by rw [line_eq]; simp; omega, fun L hL => ?_⟩⟩⟩
    have d3 := d2.new (o := .tup [.str (Str.ofString "l" ++ Str.ofString (toString nlv)), .int 0, .bl false]) ht
    have s3 := d2.sm (o := .tup [.str (Str.ofString "l" ++ Str.ofString (toString nlv)), .int 0, .bl false]) ht
    have ht3 := d2.at_new (o := .tup [.str (Str.ofString "l" ++ Str.ofString (toString nlv)), .int 0, .bl false]) ht
    have d4 := d3.new (o := .lst [.ref t]) hb
    have s4 := s3.trans (d3.sm (o := .lst [.ref t]) hb)
    have d5 := d4.new (o := .lst (vs ++ [.ref t])) hL
    have s45 := (d3.sm (o := .lst [.ref t]) hb).trans (d4.sm (o := .lst (vs ++ [.ref t])) hL)
    have s5 := s3.trans s45
    have hL5 := d4.at_new (o := .lst (vs ++ [.ref t])) hL
    have ht5 := s45 _ _ ht3
    have g5 := g2.sm s5 d5
    refine ⟨_, rfl, _, rfl, _, rfl, _, rfl, V0, I, D, A, rfl, d5, g5.v.l (by omega), g5.i.l, fun v6 H6 s6 d6 x6 => ?_⟩
    have g6 := g5.sm s6 d6
    refine ⟨_, rfl, _, rfl, L, _, -1, _, rfl, rfl, SqL.of (hid_of (s6 _ _ hL5)).1, atI_last _ _, t, _, 0, _, rfl, rfl, SqT.of (hid_of (s6 _ _ ht5)).1, rfl, _, rfl, ?_⟩
    refine ⟨_, rfl, _, rfl, _, rfl, _, rfl, _, rfl, _, rfl, _, _, rfl, rfl, d', rfl, L, I, N0, D, A, by rw [← hd]; rfl, ⟨d6, ⟨vs ++ [.ref t], s6 _ _ hL5, by simp; omega, fun v hv => ?_, .ref af, List.mem_append_left _ hvf, af, wf, zf, rfl, (s5.trans s6) _ _ hrf⟩, g6.i.up (by omega), g6.n, by omega⟩, fun v7 H7 s7 d7 x7 => ⟨lb rfl, fun p hp => ?_⟩⟩
    · rcases List.mem_append.mp hv with h | h
      · obtain ⟨a, w, z, b, e1, e2, e3⟩ := hva v h
        exact ⟨a, w, z, b, e1, (s5.trans s6) _ _ e2, e3⟩
      · rw [List.mem_singleton.mp h]
        exact ⟨t, _, 0, false, rfl, s6 _ _ ht5, gl, by constructor <;> decide⟩
    · have s8 := d7.sm (o := .tup [.str (S "let"), .str (Str.ofString "l" ++ Str.ofString (toString nlv)), v6, v7]) hp
      refine q _ _ ((((s2.trans s5).trans s6).trans s7).trans s8) (d7.new hp) (.inr ⟨p, _, rfl, d7.at_new hp, .inr (.inr ⟨_, v6, v7, fB d', rfl, gl, x6.ft (smFt (s7.trans s8)), x7.all.ft (smFt s8) fun k x => HStm.ft (smFt s8), ?_⟩)⟩)
      rw [fS]; unfold fB; omega
  · -- set
    obtain ⟨pf, epf⟩ : ∃ pf : V → Bool, pf = fun x => match x with
      | .ref a => (match H2 a with
        | some (.tup [.str w, .int z, .bl b]) => !b
        | _ => false)
      | _ => false := ⟨_, rfl⟩
    refine ⟨_, rfl, V0, rfl, ⟨_, SqL.of (hid_of hvs).1⟩, fun L hL => ?_⟩
    refine lc_rows (K := K) pf (hid_of hvs).1 (by omega) hL (fun x xs Q hxm qx => ?_) (fun x H Q qx => ⟨_, rfl, qx⟩) ?_
    · obtain ⟨a2, w2, z2, b2, rfl, e2, _, _⟩ := hva x hxm
      have e2' := (hid_of e2).1
      rw [epf] at qx
      simp only [e2'] at qx
      exact ⟨_, rfl, a2, _, 2, _, rfl, rfl, SqT.of (sameNew hL _ _ e2'), rfl, b2, rfl, qx⟩
    · have hfm : ∀ x ∈ vs.filter pf, x ∈ vs := fun x hx => (List.mem_filter.mp hx).1
      have hfn : vs.filter pf ≠ [] := fun z => by
        have : V.ref af ∈ vs.filter pf := List.mem_filter.mpr ⟨hvf, by rw [epf]; simp only [(hid_of hrf).1]; rfl⟩
        rw [z] at this; cases this
      have hfl : (vs.filter pf).length ≤ 1000 := by have := List.length_filter_le pf vs; omega
      generalize vs.filter pf = fil at *
      have d4 := d2.new (o := .lst fil) hL
      have s4 := d2.sm (o := .lst fil) hL
      have g4 := g2.sm s4 d4
      have VL : VarL (hid A (upd H2 L (.lst fil))) L True := ⟨fil, d2.at_new hL, hfl, fun _ => hfn, fun v hv => by
        obtain ⟨a, w, z, b, e1, e2, e3⟩ := hva v (hfm v hv)
        exact ⟨a, w, z, b, e1, s4 _ _ e2, e3⟩⟩
      refine ⟨_, rfl, _, rfl, _, rfl, _, rfl, L, I, D, A, rfl, d4, VL, g4.i.l, fun p w x H5 s5 d5 hp hx => ?_⟩
      have g5 := g4.sm s5 d5
      refine ⟨_, rfl, _, rfl, _, rfl, _, rfl, V0, I, D, A, rfl, d5, g5.v.l (by omega), g5.i.l, fun v6 H6 s6 d6 x6 => ⟨lb rfl, fun p2 hp2 => ?_⟩⟩
      have s7 := d6.sm (o := .tup [.str (S "set"), .ref p, v6]) hp2
      exact q _ _ ((((s2.trans s4).trans s5).trans s6).trans s7) (d6.new hp2) (HStm.low (.inr ⟨p2, p, w, x, v6, rfl, d6.at_new hp2, (s6.trans s7) _ _ hp, hx.ft (smFt (s6.trans s7)), x6.ft (smFt s7), fS_ge d⟩))
theorem has__law_statement (F : Facts w K mg) : ∀ d : Nat, Has P w K mg base CX0 (2 * d + 9) "_law_statement" pLawStatement (spGStm d)
  | 0 => stm_step F 0 (has_0 (k := 7) F.g__law_body F.f__law_body scLawBody bLawBody (fun vs H Q E h => by obtain ⟨_, h, _⟩ := h; omega) fun cdv A' outer s H vs Q E hr h => by obtain ⟨_, h, _⟩ := h; omega)
  | d + 1 => stm_step F (d + 1) ((has__law_body F (has__law_statement F d) (by omega)).imp fun vs H Q E h => by obtain ⟨d', e, h⟩ := h; rw [Nat.succ.inj e]; exact h)
end
end K10
/-! K10Gen4: the law's draws. Printed by expand.py from K10Gen4.tpl. -/
namespace K10
open PySem PySem.Spec PyProof.Rows L2
section
variable {P : Program} {w : World} {K : PySem.W.Frag} {mg : Str → Option Value} {base : Heap}
def nLawDraws : List Str := ["_law_script", "_law_draws_here", "_law_cell", "_law_rest", "_law_k", "_law_mixed"]
def pLawDraws : List Str := ["_law_script"]
theorem scLawDraws : FnScope nLawDraws pLawDraws (defScope sLawDraws) := ⟨rfl, rfl, rfl, by decide +kernel, rfl, by decide +kernel, by decide +kernel⟩
theorem bLawDraws : BindsBy "_law_draws" sLawDraws pLawDraws := fun _ _ _ _ _ _ us hl => match us, hl with | [_], _ => rfl
def spDraws (K : PySem.W.Frag) : Sp := fun vs H Q _ => ∃ l, ∃ zs : List Int, vs = [.ref l] ∧ SqL K H l (zs.map V.int) ∧ ∀ D H', Same H H' → H D = none → (∃ ds : List Int, H' D = some (.lst (ds.map V.int))) → Q (.ref D) H'
theorem mod_lt {a b : Int} (hb : 0 < b) : 0 ≤ a.fmod b ∧ a.fmod b < b := ⟨Int.fmod_nonneg_of_pos _ hb, Int.fmod_lt_of_pos _ hb⟩
theorem has__law_draws (F : Facts w K mg) : Has P w K mg base CX0 1 "_law_draws" pLawDraws (spDraws K) := by
  refine has_0 F.g__law_draws F.f__law_draws scLawDraws bLawDraws (fun vs H Q E h => by obtain ⟨_, _, rfl, _⟩ := h; rfl) fun cdv A' outer s H vs Q E hr h => ?_
  obtain ⟨l, zs, rfl, hl, q⟩ := h
  refine ⟨_, (pss_cons (ps_set (i := 1) scLawDraws.nd rfl (Or.inl rfl) (pe_lst pa_nil))
    (pss_cons (ps_for PassesOwn.never rfl (pi_list (pe_slice sl_list (pv 0) po_none (po_some pe_int))) (pg_name (i := 2) scLawDraws.nd rfl (Or.inl rfl))
      (pss_cons (ps_set (i := 3) scLawDraws.nd rfl (Or.inl rfl) (pe_callB call_abs (by rfl) F.z_abs (by decide +kernel) (pa_cons (pv 2) pa_nil)))
      (pss_one (ps_if (pt_cmpR op_ge (pv 3) (pe_op op_pow pe_int pe_int) (nomark _)) (pss_one (ps_for PassesOwn.never rfl (pi_range1 rfl F.z_range (pa_cons pe_int pa_nil)) (pg_name (i := 4) scLawDraws.nd rfl (Or.inl rfl))
          (pss_one (ps_if (pt_cmpR op_gt (pv 3) pe_int (nomark _)) (pss_cons (ps_expr (pe_bm PySem.F.plainAttrs_list PySem.F.slot_list_append PySem.F.type_list_append mt_append (pv 1) (pa_cons (pe_op op_modN (pe_callTy call_int1 (by rfl) F.z_int (by decide +kernel) (pa_cons (pv 3) pa_nil)) pe_int) pa_nil)))
            (pss_one (ps_set (i := 3) scLawDraws.nd rfl (Or.inl rfl) (pe_op op_fdivN (pv 3) pe_int))))
            pss_nil))))
        (pss_cons (ps_set (i := 5) scLawDraws.nd rfl (Or.inl rfl) (pe_op op_modN (pe_callTy call_int1 (by rfl) F.z_int (by decide +kernel) (pa_cons (pe_op op_add (pe_op op_mulW (pv 3) pe_int) pe_int) pa_nil)) pe_int))
        (pss_one (ps_for PassesOwn.never rfl (pi_range1 rfl F.z_range (pa_cons pe_int pa_nil)) (pg_name (i := 4) scLawDraws.nd rfl (Or.inl rfl))
          (pss_cons (ps_set (i := 5) scLawDraws.nd rfl (Or.inl rfl) (pe_op op_modN (pe_callTy call_int1 (by rfl) F.z_int (by decide +kernel) (pa_cons (pe_op op_add (pe_op op_add (pe_op op_mulW (pv 5) pe_int) (pe_op op_mulW pe_int (pv 4))) pe_int) pa_nil)) pe_int))
          (pss_one (ps_expr (pe_bm PySem.F.plainAttrs_list PySem.F.slot_list_append PySem.F.type_list_append mt_append (pv 1) (pa_cons (pe_op op_fdivN (pv 5) pe_int) pa_nil))))))))))))
    (pss_one (ps_ret (pv 1))))), ?_⟩
  refine ⟨lb rfl, fun D nD => ?_⟩
  have sD := sameNew (o := .lst []) nD
  have hl1 := (frS sD).sqL hl
  refine ⟨_, rfl, _, rfl, l, _, rfl, hl1, fun L nL => ?_⟩
  have hcut : ∃ ys : List Int, cutV (zs.map V.int) none (some 63) = ys.map V.int ∧ ys.length ≤ 63 := by
    refine ⟨(zs.drop (HT.sIx (zs.map V.int).length 0 none)).take (HT.sIx (zs.map V.int).length (zs.map V.int).length (some 63) - HT.sIx (zs.map V.int).length 0 none), ?_, ?_⟩
    · unfold cutV; rw [List.map_take, List.map_drop]
    · rw [List.length_take, show (some (63 : Int)) = some ((63 : Nat) : Int) from rfl, HT.sIx_nat]
      omega
  obtain ⟨ys, ecut, hys⟩ := hcut
  have sL := sameNew (o := .lst (cutV (zs.map V.int) none (some 63))) nL
  have hL : (upd (upd H D (.lst [])) L (.lst (cutV (zs.map V.int) none (some 63)))) L = some (.lst (ys.map V.int)) := by rw [upd_same, ecut]
  have hD : (upd (upd H D (.lst [])) L (.lst (cutV (zs.map V.int) none (some 63)))) D = some (.lst []) := sL _ _ upd_same
  have DL : L ≠ D := fun z => by rw [z, upd_same] at nL; cases nL
  have s2 := sD.trans sL
  generalize upd (upd H D (.lst [])) L (.lst (cutV (zs.map V.int) none (some 63))) = H2 at *
  -- what stands while draws are laid
  have put : ∀ {H3 : Hp} {ds : List Int} {z : Int}, (Same H H3 ∧ H3 L = some (.lst (ys.map V.int)) ∧ H3 D = some (.lst (ds.map V.int))) → (Same H (upd H3 D (.lst (ds.map V.int ++ [.int z]))) ∧ (upd H3 D (.lst (ds.map V.int ++ [.int z]))) L = some (.lst (ys.map V.int)) ∧ (upd H3 D (.lst (ds.map V.int ++ [.int z]))) D = some (.lst ((ds ++ [z]).map V.int))) := fun {H3 ds z} h =>
    ⟨Same.at_new h.1 nD, by rw [upd_ne DL]; exact h.2.1, by rw [upd_same, List.map_append]; rfl⟩
  refine ⟨L, rfl, ⟨_, SqL.of hL⟩, ?_⟩
  refine for_list (xs := ys.map V.int) (fun k σ H3 => ∃ z2 z3 z4 z5, ∃ ds : List Int, σ = [some (.ref l), some (.ref D), z2, z3, z4, z5] ∧ (Same H H3 ∧ H3 L = some (.lst (ys.map V.int)) ∧ H3 D = some (.lst (ds.map V.int))) ∧ ds.length ≤ 60 * k)
    ⟨none, none, none, none, [], rfl, ⟨s2, hL, hD⟩, Nat.le_refl _⟩ (fun k σ H3 _ h => ?_) (fun k x σ H3 hx h => ?_) (fun σ H3 h => ?_)
  · obtain ⟨_, _, _, _, _, _, h, _⟩ := h
    exact SqL.of h.2.1
  · obtain ⟨z2, z3, z4, z5, ds, rfl, h3, hdl⟩ := h
    rw [List.getElem?_map] at hx
    obtain ⟨c, hc, rfl⟩ := Option.map_eq_some_iff.mp hx
    have hk : k < ys.length := (List.getElem?_eq_some_iff.mp hc).1
    refine ⟨_, rfl, c, rfl, ?_⟩
    generalize hr0 : (if c < 0 then -c else c) = r0
    have r0n : 0 ≤ r0 := by rw [← hr0]; split <;> omega
    refine ⟨_, rfl, _, _, rfl, rfl, ⟨by omega, by omega, by decide⟩, _, _, rfl, rfl, _, rfl, ite2 (fun y => ?_) (fun y => ?_)⟩
    · refine ⟨60, rfl, by decide, by decide, ?_⟩
      refine for_range (n := 60) (fun j σ H4 => ∃ r z4, ∃ ds : List Int, σ = [some (.ref l), some (.ref D), some (.int c), some (.int r), z4, z5] ∧ (Same H H4 ∧ H4 L = some (.lst (ys.map V.int)) ∧ H4 D = some (.lst (ds.map V.int))) ∧ ds.length ≤ 60 * k + j)
        ⟨r0, z4, ds, rfl, h3, hdl⟩ (fun j σ H4 hj h => ?_) (fun σ H4 h => ?_)
      · obtain ⟨r, z4, ds, rfl, h4, hd4⟩ := h
        refine ⟨_, rfl, _, _, rfl, rfl, _, rfl, ite2 (fun _ => ?_) (fun _ => ?_)⟩
        · refine ⟨_, rfl, .inl ⟨rfl, _, SqL.of h4.2.2⟩, _, rfl, .inl ⟨_, rfl, _, _, rfl, rfl, (show (1009 : Int) ≠ 0 by decide), _, _, _, rfl, rfl, h4.2.2, by rw [line_eq, List.length_map]; omega, ?_⟩⟩
          exact ⟨_, rfl, _, _, rfl, rfl, ⟨by decide, by decide⟩, _, _, _, rfl, put h4, by simp; omega⟩
        · exact ⟨_, _, _, rfl, h4, by omega⟩
      · obtain ⟨r, z4, ds, rfl, h4, hd4⟩ := h
        exact ⟨_, _, _, _, ds, rfl, h4, by omega⟩
    · have y : ¬ ((10 : Int) ^ (18 : Int).toNat ≤ r0) := by simpa using y
      have y : r0 < 1000000000000000000 := by
        have : (10 : Int) ^ (18 : Int).toNat = 1000000000000000000 := by decide +kernel
        omega
      have m0 : CMulW r0 48271 := wide_mul (a := 64) (b := 20) (by omega) (by decide) (by decide) (by decide) (by decide)
      refine ⟨_, rfl, _, _, rfl, rfl, m0, _, _, rfl, rfl, .inl ⟨_, rfl, _, _, rfl, rfl, (show (2147483647 : Int) ≠ 0 by decide), ?_⟩⟩
      have b0 := mod_lt (a := r0 * 48271 + 11) (b := 2147483647) (by decide)
      refine ⟨7, rfl, by decide, by decide, ?_⟩
      refine for_range (n := 7) (fun j σ H4 => ∃ mx z4, ∃ ds : List Int, σ = [some (.ref l), some (.ref D), some (.int c), some (.int r0), z4, some (.int mx)] ∧ (0 ≤ mx ∧ mx < 2147483647) ∧ (Same H H4 ∧ H4 L = some (.lst (ys.map V.int)) ∧ H4 D = some (.lst (ds.map V.int))) ∧ ds.length ≤ 60 * k + j)
        ⟨(r0 * 48271 + 11).fmod 2147483647, z4, ds, rfl, b0, h3, hdl⟩ (fun j σ H4 hj h => ?_) (fun σ H4 h => ?_)
      · obtain ⟨mx, z4, ds, rfl, bm, h4, hd4⟩ := h
        have m1 : CMulW mx 16807 := wide_mul (a := 32) (b := 20) (by omega) (by decide) (by decide) (by decide) (by decide)
        have m2 : CMulW 69621 (0 + (j : Nat)) := wide_mul (a := 20) (b := 20) (by decide) (by omega) (by decide) (by decide) (by decide)
        refine ⟨_, rfl, _, _, rfl, rfl, m1, _, rfl, _, _, rfl, rfl, m2, _, _, rfl, rfl, _, _, rfl, rfl, .inl ⟨_, rfl, _, _, rfl, rfl, (show (2147483629 : Int) ≠ 0 by decide), ?_⟩⟩
        have b1 := mod_lt (a := mx * 16807 + 69621 * (0 + (j : Nat)) + 5) (b := 2147483629) (by decide)
        refine ⟨_, rfl, .inl ⟨rfl, _, SqL.of h4.2.2⟩, _, rfl, _, _, rfl, rfl, ⟨by decide, by decide⟩, _, _, _, rfl, rfl, h4.2.2, by rw [line_eq, List.length_map]; omega, ?_⟩
        exact ⟨_, _, _, rfl, ⟨b1.1, by omega⟩, put h4, by simp; omega⟩
      · obtain ⟨mx, z4, ds, rfl, bm, h4, hd4⟩ := h
        exact ⟨_, _, _, _, ds, rfl, h4, by omega⟩
  · obtain ⟨z2, z3, z4, z5, ds, rfl, h3, hdl⟩ := h
    exact ⟨_, rfl, q _ _ h3.1 nD ⟨ds, h3.2.2⟩⟩
end
end K10
set_option maxHeartbeats 32000000
/-! K10Gen5: the law's draws: the tree. Printed by expand.py from K10Gen5.tpl. -/
namespace K10
open PySem PySem.Spec PyProof.Rows L2
theorem lc_gen {K : PySem.W.Frag} {l L D A : Addr} {vs : List V} {g : TG} {te : TE} {ws : List Nat} {σ : L2.St} {H1 : Hp} {Qd : Hp → Prop} (R : Hp → V → Prop) (Rm : ∀ {H H' : Hp} {v : V}, Ft H H' → R H v → R H' v)
    (hl : hid A H1 l = some (.lst vs)) (hz : vs.length ≤ 1000) (dr : Dr D A H1) (hL : H1 L = none)
    (hs : ∀ x H Q, x ∈ vs → Sm A H1 H → Dr D A H → (∀ y H', Sm A H H' → Dr D A H' → R (hid A H') y → Q y H') → g x (wipe σ ws) H fun σ2 H2 => wipe σ2 ws = wipe σ ws ∧ te σ2 H2 Q)
    (hd : ∀ H us, Sm A H1 H → Dr D A H → hid A H L = some (.lst us) → us.length = vs.length → (∀ u ∈ us, R (hid A H) u) → Qd H) :
    ∃ W : Nat → Nat → Hp → Prop, (∃ m, W 0 m (upd H1 L (.lst []))) ∧ ∀ i' m H, W i' m H →
      ((Itl K l).stop i' H ∧ Qd H) ∨ ((Itl K l).go i' H ∧ ∃ Nx : Hp → Prop, (∀ H', Nx H' → ∃ m', m' < m ∧ W (i' + 1) m' H') ∧ ∀ x H', (Itl K l).yld i' H x H' → g x (wipe σ ws) H' fun σ2 H2 => wipe σ2 ws = wipe σ ws ∧ tYes σ2 H2 fun b H3 =>
        if b = true then te σ2 H3 fun y H4 => ∃ acc, H4 L = some (.lst acc) ∧ acc.length < sizeLine ∧ Nx (upd H4 L (.lst (acc ++ [y]))) else Nx H3) := by
  refine lc_list (xs := vs) (fun k H => ∃ us : List V, Sm A H1 H ∧ Dr D A H ∧ hid A H L = some (.lst us) ∧ us.length = k ∧ ∀ u ∈ us, R (hid A H) u) ⟨[], dr.sm hL, dr.new hL, dr.at_new hL, rfl, fun _ h => nomatch h⟩ (fun k H _ h => ?_) (fun k x H hx h => ?_) (fun H h => ?_)
  · obtain ⟨_, s, _⟩ := h
    exact SqL.of (hid_of (s _ _ hl)).1
  · obtain ⟨us, s4, d4, hL4, hul, hua⟩ := h
    have hk : k < vs.length := (List.getElem?_eq_some_iff.mp hx).1
    refine hs x H _ (List.mem_of_getElem? hx) s4 d4 (fun y H5 s5 d5 r5 => ?_)
    have LA := dr.ne hL
    have hL5 := hid_of (s5 _ _ hL4)
    have eL : hid A (upd H5 L (.lst (us ++ [y]))) = upd (hid A H5) L (.lst (us ++ [y])) := hid_new LA
    have ft : Ft (hid A H5) (upd (hid A H5) L (.lst (us ++ [y]))) := Ft.upd (s5 _ _ hL4) (fun _ z => nomatch z)
    refine ⟨us, hL5.1, by rw [line_eq]; omega, us ++ [y], ?_, d5.put dr hL, by rw [eL, upd_same], by simp [hul], fun u hu => ?_⟩
    · rw [show Sm A H1 (upd H5 L (.lst (us ++ [y]))) = Same (hid A H1) (hid A (upd H5 L (.lst (us ++ [y])))) from rfl, eL]
      exact Same.at_new (s4.trans s5) (hid_none hL)
    · rw [eL]
      rcases List.mem_append.mp hu with h | h
      · exact Rm ft (Rm (smFt s5) (hua u h))
      · rw [List.mem_singleton.mp h]; exact Rm ft r5
  · obtain ⟨us, s4, d4, hL4, hul, hua⟩ := h
    exact hd H us s4 d4 hL4 hul hua
theorem lc_genR {n : Nat} {L D A : Addr} {g : TG} {te : TE} {ws : List Nat} {σ : L2.St} {H1 : Hp} {Qd : Hp → Prop} (R : Hp → V → Prop) (Rm : ∀ {H H' : Hp} {v : V}, Ft H H' → R H v → R H' v)
    (hz : n ≤ 1000) (dr : Dr D A H1) (hL : H1 L = none)
    (hs : ∀ (k : Nat) H Q, k < n → Sm A H1 H → Dr D A H → (∀ y H', Sm A H H' → Dr D A H' → R (hid A H') y → Q y H') → g (.int (0 + (k : Nat))) (wipe σ ws) H fun σ2 H2 => wipe σ2 ws = wipe σ ws ∧ te σ2 H2 Q)
    (hd : ∀ H us, Sm A H1 H → Dr D A H → hid A H L = some (.lst us) → us.length = n → (∀ u ∈ us, R (hid A H) u) → Qd H) :
    ∃ W : Nat → Nat → Hp → Prop, (∃ m, W 0 m (upd H1 L (.lst []))) ∧ ∀ i' m H, W i' m H →
      ((Itr 0 n).stop i' H ∧ Qd H) ∨ ((Itr 0 n).go i' H ∧ ∃ Nx : Hp → Prop, (∀ H', Nx H' → ∃ m', m' < m ∧ W (i' + 1) m' H') ∧ ∀ x H', (Itr 0 n).yld i' H x H' → g x (wipe σ ws) H' fun σ2 H2 => wipe σ2 ws = wipe σ ws ∧ tYes σ2 H2 fun b H3 =>
        if b = true then te σ2 H3 fun y H4 => ∃ acc, H4 L = some (.lst acc) ∧ acc.length < sizeLine ∧ Nx (upd H4 L (.lst (acc ++ [y]))) else Nx H3) := by
  refine lc_range (n := n) (fun k H => ∃ us : List V, Sm A H1 H ∧ Dr D A H ∧ hid A H L = some (.lst us) ∧ us.length = k ∧ ∀ u ∈ us, R (hid A H) u) ⟨[], dr.sm hL, dr.new hL, dr.at_new hL, rfl, fun _ h => nomatch h⟩ (fun k H hk h => ?_) (fun H h => ?_)
  · obtain ⟨us, s4, d4, hL4, hul, hua⟩ := h
    refine hs k H _ hk s4 d4 (fun y H5 s5 d5 r5 => ?_)
    have LA := dr.ne hL
    have hL5 := hid_of (s5 _ _ hL4)
    have eL : hid A (upd H5 L (.lst (us ++ [y]))) = upd (hid A H5) L (.lst (us ++ [y])) := hid_new LA
    have ft : Ft (hid A H5) (upd (hid A H5) L (.lst (us ++ [y]))) := Ft.upd (s5 _ _ hL4) (fun _ z => nomatch z)
    refine ⟨us, hL5.1, by rw [line_eq]; omega, us ++ [y], ?_, d5.put dr hL, by rw [eL, upd_same], by simp [hul], fun u hu => ?_⟩
    · rw [show Sm A H1 (upd H5 L (.lst (us ++ [y]))) = Same (hid A H1) (hid A (upd H5 L (.lst (us ++ [y])))) from rfl, eL]
      exact Same.at_new (s4.trans s5) (hid_none hL)
    · rw [eL]
      rcases List.mem_append.mp hu with h | h
      · exact Rm ft (Rm (smFt s5) (hua u h))
      · rw [List.mem_singleton.mp h]; exact Rm ft r5
  · obtain ⟨us, s4, d4, hL4, hul, hua⟩ := h
    exact hd H us s4 d4 hL4 hul hua
theorem cut_mem {xs : List V} {lo hi : Option Int} {v : V} (h : v ∈ cutV xs lo hi) : v ∈ xs := List.mem_of_mem_drop (List.mem_of_mem_take h)
theorem cut_to {xs : List V} (k : Nat) : cutV xs none (some (k : Int)) = xs.take k := by
  unfold cutV
  rw [HT.sIx_nat, HT.sIx_none, List.drop_zero, Nat.sub_zero]
  by_cases h : k ≤ xs.length
  · rw [Nat.min_eq_left h]
  · rw [Nat.min_eq_right (by omega), List.take_length, List.take_of_length_le (by omega)]
/-- (name, size) -/
def Pr (H : Hp) (v : V) : Prop := ∃ a w z, v = .ref a ∧ H a = some (.tup [.str w, .int z]) ∧ gw w ∧ numOk z
theorem Pr.ft {H H' : Hp} {v : V} (e : Ft H H') (h : Pr H v) : Pr H' v := by
  obtain ⟨a, w, z, h0, h1, h2⟩ := h
  exact ⟨a, w, z, h0, e _ _ h1, h2⟩
/-- (name, size, fixed) -/
def Tr (b : Bool) (H : Hp) (v : V) : Prop := ∃ a w z, v = .ref a ∧ H a = some (.tup [.str w, .int z, .bl b]) ∧ gw w ∧ numOk z
theorem Tr.ft {b : Bool} {H H' : Hp} {v : V} (e : Ft H H') (h : Tr b H v) : Tr b H' v := by
  obtain ⟨a, w, z, h0, h1, h2⟩ := h
  exact ⟨a, w, z, h0, e _ _ h1, h2⟩
def Wd (_ : Hp) (v : V) : Prop := ∃ w, v = .str w ∧ gw w
def Nm (_ : Hp) (v : V) : Prop := ∃ z, v = .int z ∧ numOk z
/-- a procedure -/
def HPrc (H : Hp) (v : V) : Prop := ∃ a w ti tr b, ∃ ns : List V, ∃ rs : List V, v = .ref a ∧ H a = some (.tup [.str w, .ref ti, .ref tr, b]) ∧ gw w ∧ H ti = some (.tup ns) ∧ ns.length ≤ 2 ∧ (∀ s ∈ ns, Wd H s) ∧ H tr = some (.tup rs) ∧ rs.length ≤ 2 ∧ (∀ s ∈ rs, Pr H s) ∧ HBd H 2 4 b
theorem HPrc.ft {H H' : Hp} {v : V} (e : Ft H H') (h : HPrc H v) : HPrc H' v := by
  obtain ⟨a, w, ti, tr, b, ns, rs, h0, h1, h2, h3, h4, h5, h6, h7, h8, h9⟩ := h
  exact ⟨a, w, ti, tr, b, ns, rs, h0, e _ _ h1, h2, e _ _ h3, h4, h5, e _ _ h6, h7, fun s hs => (h8 s hs).ft e, h9.ft e⟩
def HTree (H : Hp) (v : V) : Prop := ∃ a ts tp tq b, ∃ xs ys zs : List V, v = .ref a ∧ H a = some (.tup [.ref ts, .ref tp, .ref tq, b]) ∧ H ts = some (.tup xs) ∧ xs.length ≤ 4 ∧ (∀ s ∈ xs, Pr H s) ∧ H tp = some (.tup ys) ∧ ys.length ≤ 2 ∧ (∀ s ∈ ys, Pr H s) ∧ H tq = some (.tup zs) ∧ zs.length ≤ 2 ∧ (∀ s ∈ zs, HPrc H s) ∧ HBd H 3 3 b
theorem fS_vals : fS 2 = 5954 ∧ fS 3 = 35906 ∧ fB 2 = 17868 ∧ fB 3 = 107724 := by decide +kernel
/-- (name, size, flag) for the pairs of a list -/
theorem pair_trip {K : PySem.W.Frag} {A D L l : Addr} {b : Bool} {vs : List V} {σ : L2.St} {H1 : Hp} {Qd : Hp → Prop} {i j : Nat} {ws : List Nat} {te : TE}
    (hl : hid A H1 l = some (.lst vs)) (hz : vs.length ≤ 1000) (hp : ∀ v ∈ vs, Pr (hid A H1) v) (dr : Dr D A H1) (hL : H1 L = none)
    (hte : ∀ w z H Q, gw w → numOk z → (∀ t, H t = none → Q (.ref t) (upd H t (.tup [.str w, .int z, .bl b]))) → te (((wipe σ ws).set i (some (.str w))).set j (some (.int z))) H Q)
    (hd : ∀ H us, Sm A H1 H → Dr D A H → hid A H L = some (.lst us) → us.length = vs.length → (∀ u ∈ us, Tr b (hid A H) u) → Qd H)
    (hw : ∀ x y, wipe (((wipe σ ws).set i (some x)).set j (some y)) ws = wipe σ ws := by intro _ _; rfl) :
    ∃ W : Nat → Nat → Hp → Prop, (∃ m, W 0 m (upd H1 L (.lst []))) ∧ ∀ i' m H, W i' m H →
      ((Itl K l).stop i' H ∧ Qd H) ∨ ((Itl K l).go i' H ∧ ∃ Nx : Hp → Prop, (∀ H', Nx H' → ∃ m', m' < m ∧ W (i' + 1) m' H') ∧ ∀ x H', (Itl K l).yld i' H x H' → gTup K 2 (gCons (gName i) (gCons (gName j) gNil)) x (wipe σ ws) H' fun σ2 H2 => wipe σ2 ws = wipe σ ws ∧ tYes σ2 H2 fun b H3 =>
        if b = true then te σ2 H3 fun y H4 => ∃ acc, H4 L = some (.lst acc) ∧ acc.length < sizeLine ∧ Nx (upd H4 L (.lst (acc ++ [y]))) else Nx H3) := by
  refine lc_gen (Tr b) (fun e h => h.ft e) hl hz dr hL (fun x H Q hx s d qx => ?_) hd
  obtain ⟨a, w, z, rfl, h1, h2, h3⟩ := hp x hx
  refine ⟨a, _, rfl, SqT.of (hid_of (s _ _ h1)).1, rfl, _, _, rfl, _, _, rfl, rfl, hw _ _, hte w z H Q h2 h3 (fun t ht => ?_)⟩
  exact qx _ _ (d.sm ht) (d.new ht) ⟨t, w, z, rfl, d.at_new ht, h2, h3⟩
theorem hidS {B : Addr} {G H : Hp} (s : Same G H) : Same (hid B G) (hid B H) := fun b o h => by
  obtain ⟨h1, h2⟩ := hid_of h
  rw [hid_ne h2]; exact s _ _ h1
theorem hid_sub {B : Addr} {H : Hp} : Same (hid B H) H := fun b o h => (hid_of h).1
theorem hid_upd {B : Addr} {G : Hp} {o : HO} : hid B (upd G B o) = hid B G := by
  funext b
  by_cases e : b = B
  · subst e; rw [hid_A, hid_A]
  · rw [hid_ne e, hid_ne e, upd_ne e]
theorem wd_list {H : Hp} : ∀ {vs : List V}, (∀ v ∈ vs, Wd H v) → ∃ ws : List Str, vs = ws.map V.str ∧ ∀ w ∈ ws, gw w
  | [], _ => ⟨[], rfl, fun _ h => nomatch h⟩
  | v :: r, h => by
    obtain ⟨w, rfl, hw⟩ := h v (by simp)
    obtain ⟨ws, rfl, h2⟩ := wd_list (vs := r) (fun u hu => h u (by simp [hu]))
    exact ⟨w :: ws, rfl, fun u hu => by rcases List.mem_cons.mp hu with rfl | hu; exact hw; exact h2 u hu⟩
theorem nm_list {H : Hp} : ∀ {vs : List V}, (∀ v ∈ vs, Nm H v) → ∃ zs : List Int, vs = zs.map V.int
  | [], _ => ⟨[], rfl⟩
  | v :: r, h => by
    obtain ⟨w, rfl, hw⟩ := h v (by simp)
    obtain ⟨ws, rfl⟩ := nm_list (vs := r) (fun u hu => h u (by simp [hu]))
    exact ⟨w :: ws, rfl⟩
theorem catT {K : PySem.W.Frag} {D A a b : Addr} {H : Hp} {xs ys : List V} {Q : VK} (dr : Dr D A H) (ha : hid A H a = some (.tup xs)) (hb : hid A H b = some (.tup ys)) (hn : xs ≠ []) (hl : xs.length + ys.length ≤ 1000)
    (q : ∀ p H', Sm A H H' → Dr D A H' → hid A H' p = some (.tup (xs ++ ys)) → Q (.ref p) H') : rCatT K (.ref a) (.ref b) H Q :=
  ⟨a, b, xs, ys, rfl, rfl, SqT.of (hid_of ha).1, SqT.of (hid_of hb).1, hn, l3 hl, fun e => by subst e; exact q a H (Same.refl _) dr (by rw [List.append_nil]; exact ha), fun _ p hp => q p _ (dr.sm hp) (dr.new hp) (dr.at_new hp)⟩
section
variable {P : Program} {w : World} {K : PySem.W.Frag} {mg : Str → Option Value} {base : Heap}
def nLawTree : List Str := ["_law_draws_here", "_law_at", "_law_state", "_law_params", "_law_fixed", "_law_known", "_law_procedures", "_law_k", "_law_integers", "_law_references", "_law_variables", "_law_row", "_law_body_here", "_law_less", "_law_again", "_law_beat", "_law_name_here", "_law_size", "_law_j"]
def pLawTree : List Str := ["_law_draws_here", "_law_at"]
theorem scLawTree : FnScope nLawTree pLawTree (defScope sLawTree) := ⟨rfl, rfl, rfl, by decide +kernel, rfl, by decide +kernel, by decide +kernel⟩
theorem bLawTree : BindsBy "_law_tree" sLawTree pLawTree := fun _ _ _ _ _ _ us hl => match us, hl with | [_, _], _ => rfl
def spGTree : Sp := fun vs H Q _ => ∃ D A, vs = [.ref D, .ref A] ∧ Dr D A H ∧ ∀ v H', Sm A H H' → Dr D A H' → HTree (hid A H') v → Q v H'
theorem has__law_tree (F : Facts w K mg) : Has P w K mg base CX0 20 "_law_tree" pLawTree spGTree := by
  have h__law_take := has__law_take (P := P) (base := base) F
  have h__law_body := has__law_body F (has__law_statement (P := P) (base := base) F 2) (by omega)
  have h3 := has__law_body F (has__law_statement (P := P) (base := base) F 3) (by omega)
  refine has_0 (k := 19) F.g__law_tree F.f__law_tree scLawTree bLawTree (fun vs H Q E h => by obtain ⟨_, _, rfl, _⟩ := h; rfl) fun cdv A' outer s H vs Q E hr h => ?_
  obtain ⟨D, A, rfl, dr, q⟩ := h
  refine ⟨_, (pss_cons (ps_set (i := 2) scLawTree.nd rfl (Or.inl rfl) (pe_slice sl_list (pe_lst (pa_cons (pe_tup (pa_cons pe_str (pa_cons pe_int pa_nil))) (pa_cons (pe_tup (pa_cons pe_str (pa_cons pe_int pa_nil))) (pa_cons (pe_tup (pa_cons pe_str (pa_cons (pe_op op_add pe_int (pe_callH h__law_take hr (by omega) rfl pass0 (pa_cons (pv 0) (pa_cons (pv 1) (pa_cons pe_int pa_nil))))) pa_nil))) (pa_cons (pe_tup (pa_cons pe_str (pa_cons pe_int pa_nil))) pa_nil))))) (po_some (pe_callH h__law_take hr (by omega) rfl pass0 (pa_cons (pv 0) (pa_cons (pv 1) (pa_cons pe_int pa_nil))))) po_none))
    (pss_cons (ps_set (i := 2) scLawTree.nd rfl (Or.inl rfl) (pe_slice sl_list (pv 2) po_none (po_some (pe_op op_add pe_int (pe_callH h__law_take hr (by omega) rfl pass0 (pa_cons (pv 0) (pa_cons (pv 1) (pa_cons pe_int pa_nil))))))))
    (pss_cons (ps_set (i := 3) scLawTree.nd rfl (Or.inl rfl) (pe_slice sl_list (pe_lst (pa_cons (pe_tup (pa_cons pe_str (pa_cons pe_int pa_nil))) (pa_cons (pe_tup (pa_cons pe_str (pa_cons pe_int pa_nil))) pa_nil))) po_none (po_some (pe_callH h__law_take hr (by omega) rfl pass0 (pa_cons (pv 0) (pa_cons (pv 1) (pa_cons pe_int pa_nil)))))))
    (pss_cons (ps_setLc (i := 4) (own := [("_law_name_here", 16), ("_law_size", 17)])  (tt := tYes) rfl scLawTree.nd rfl rfl (sw_true rfl rfl rfl (by decide +kernel)) (pi_list (pv 3)) (blkOk_by (N := nLawTree) (sc := defScope sLawTree) (by decide +kernel)) (fun _ _ _ _ _ => (show PG _ _ (gTup K 2 _) from pg_tup rfl (pgs_cons (pg_name (i := 16) scLawTree.nd rfl (Or.inl rfl)) (pgs_cons (pg_name (i := 17) scLawTree.nd rfl (Or.inl rfl)) pgs_nil)))) (fun _ _ _ _ _ => pts_nil) (fun _ _ _ _ _ => (pe_tup (pa_cons (pv 16) (pa_cons (pv 17) (pa_cons pe_bl pa_nil))))))
    (pss_cons (ps_set (i := 5) scLawTree.nd rfl (Or.inl rfl) (pe_lst pa_nil))
    (pss_cons (ps_set (i := 6) scLawTree.nd rfl (Or.inl rfl) (pe_lst pa_nil))
    (pss_cons (ps_for PassesOwn.never rfl (pi_range1 rfl F.z_range (pa_cons (pe_callH h__law_take hr (by omega) rfl pass0 (pa_cons (pv 0) (pa_cons (pv 1) (pa_cons pe_int pa_nil)))) pa_nil)) (pg_name (i := 7) scLawTree.nd rfl (Or.inl rfl))
      (pss_cons (ps_setLc (i := 8) (own := [("_law_j", 18)]) (g := gName 18) (tt := tYes) rfl scLawTree.nd rfl rfl (sw_true rfl rfl rfl (by decide +kernel)) (pi_range1 rfl F.z_range (pa_cons (pe_callH h__law_take hr (by omega) rfl pass0 (pa_cons (pv 0) (pa_cons (pv 1) (pa_cons pe_int pa_nil)))) pa_nil)) (blkOk_by (N := nLawTree) (sc := defScope sLawTree) (by decide +kernel)) (fun _ _ _ _ _ => (pg_name (i := 18) scLawTree.nd rfl (Or.inl rfl))) (fun _ _ _ _ _ => pts_nil) (fun _ _ _ _ _ => (pe_op op_add_str pe_str (pe_callTy call_str_int (by rfl) F.z_str (by decide +kernel) (pa_cons (pv 18) pa_nil)))))
      (pss_cons (ps_set (i := 9) scLawTree.nd rfl (Or.inl rfl) (pe_slice sl_list (pe_lst (pa_cons (pe_tup (pa_cons pe_str (pa_cons pe_int pa_nil))) (pa_cons (pe_tup (pa_cons pe_str (pa_cons (pe_ix ix_list (pe_lst (pa_cons pe_int (pa_cons pe_int (pa_cons pe_int pa_nil)))) (pe_callH h__law_take hr (by omega) rfl pass0 (pa_cons (pv 0) (pa_cons (pv 1) (pa_cons pe_int pa_nil)))) (fun _ _ => rfl)) pa_nil))) pa_nil))) po_none (po_some (pe_op op_add pe_int (pe_callH h__law_take hr (by omega) rfl pass0 (pa_cons (pv 0) (pa_cons (pv 1) (pa_cons pe_int pa_nil))))))))
      (pss_cons (ps_set (i := 10) scLawTree.nd rfl (Or.inl rfl) (pe_op op_cat (pe_lc (own := [("_law_name_here", 16), ("_law_size", 17)])  (tt := tYes) rfl scLawTree.nd (pi_list (pv 9)) (blkOk_by (N := nLawTree) (sc := defScope sLawTree) (by decide +kernel)) (fun _ _ _ _ _ => (show PG _ _ (gTup K 2 _) from pg_tup rfl (pgs_cons (pg_name (i := 16) scLawTree.nd rfl (Or.inl rfl)) (pgs_cons (pg_name (i := 17) scLawTree.nd rfl (Or.inl rfl)) pgs_nil)))) (fun _ _ _ _ _ => pts_nil) (fun _ _ _ _ _ => (pe_tup (pa_cons (pv 16) (pa_cons (pv 17) (pa_cons pe_bl pa_nil)))))) (pv 4)))
      (pss_cons (ps_set (i := 11) scLawTree.nd rfl (Or.inl rfl) (pe_tup (pa_cons (pe_op op_add_str pe_str (pe_callTy call_str_int (by rfl) F.z_str (by decide +kernel) (pa_cons (pv 7) pa_nil))) (pa_cons (pe_callB call_len_seq (by rfl) F.z_len (by decide +kernel) (pa_cons (pv 8) pa_nil)) (pa_cons (pe_lc (own := [("_law_name_here", 16), ("_law_size", 17)])  (tt := tYes) rfl scLawTree.nd (pi_list (pv 9)) (blkOk_by (N := nLawTree) (sc := defScope sLawTree) (by decide +kernel)) (fun _ _ _ _ _ => (show PG _ _ (gTup K 2 _) from pg_tup rfl (pgs_cons (pg_name (i := 16) scLawTree.nd rfl (Or.inl rfl)) (pgs_cons (pg_name (i := 17) scLawTree.nd rfl (Or.inl rfl)) pgs_nil)))) (fun _ _ _ _ _ => pts_nil) (fun _ _ _ _ _ => (pv 17))) pa_nil)))))
      (pss_cons (ps_set (i := 12) scLawTree.nd rfl (Or.inl rfl) (pe_callH h__law_body hr (by omega) rfl pass0 (pa_cons (pv 10) (pa_cons (pv 8) (pa_cons (pe_op op_cat (pv 5) (pe_slice sl_list (pe_lst (pa_cons (pv 11) pa_nil)) po_none (po_some (pe_callH h__law_take hr (by omega) rfl pass0 (pa_cons (pv 0) (pa_cons (pv 1) (pa_cons pe_int pa_nil))))))) (pa_cons (pv 0) (pa_cons (pv 1) (pa_cons pe_int pa_nil))))))))
      (pss_cons (ps_if (PW.pt (pw_and (pt_truth (pv 8) (by intro _; rfl)) (pw_and1 (pt_cmpR op_eq (pe_callH h__law_take hr (by omega) rfl pass0 (pa_cons (pv 0) (pa_cons (pv 1) (pa_cons pe_int pa_nil)))) pe_int (nomark _))))) (pss_cons (ps_set (i := 13) scLawTree.nd rfl (Or.inl rfl) (pe_op op_catT (pe_tup (pa_cons (pe_tup (pa_cons pe_str (pa_cons (pe_tup (pa_cons pe_str (pa_cons pe_str pa_nil))) (pa_cons (pe_tup (pa_cons pe_str (pa_cons pe_int pa_nil))) pa_nil)))) pa_nil)) (pe_callTy call_tuple_of (by rfl) F.z_tuple (by decide +kernel) (pa_cons (pe_lc (own := [("_law_name_here", 16)]) (g := gName 16) (tt := tYes) rfl scLawTree.nd (pi_list (pe_slice sl_list (pv 8) (po_some pe_int) po_none)) (blkOk_by (N := nLawTree) (sc := defScope sLawTree) (by decide +kernel)) (fun _ _ _ _ _ => (pg_name (i := 16) scLawTree.nd rfl (Or.inl rfl))) (fun _ _ _ _ _ => pts_nil) (fun _ _ _ _ _ => (pe_tup (pa_cons pe_str (pa_cons (pv 16) pa_nil))))) pa_nil))))
        (pss_cons (ps_set (i := 14) scLawTree.nd rfl (Or.inl rfl) (pe_tup (pa_cons pe_str (pa_cons (pe_ix ix_tup (pv 11) pe_int (fun _ _ => rfl)) (pa_cons (pv 13) (pa_cons (pe_callTy call_tuple_of (by rfl) F.z_tuple (by decide +kernel) (pa_cons (pe_lc (own := [("_law_name_here", 16), ("_law_size", 17)])  (tt := tYes) rfl scLawTree.nd (pi_list (pv 9)) (blkOk_by (N := nLawTree) (sc := defScope sLawTree) (by decide +kernel)) (fun _ _ _ _ _ => (show PG _ _ (gTup K 2 _) from pg_tup rfl (pgs_cons (pg_name (i := 16) scLawTree.nd rfl (Or.inl rfl)) (pgs_cons (pg_name (i := 17) scLawTree.nd rfl (Or.inl rfl)) pgs_nil)))) (fun _ _ _ _ _ => pts_nil) (fun _ _ _ _ _ => (pv 16))) pa_nil)) pa_nil))))))
        (pss_one (ps_set (i := 12) scLawTree.nd rfl (Or.inl rfl) (pe_op op_catT (pv 12) (pe_tup (pa_cons (pe_tup (pa_cons pe_str (pa_cons (pe_tup (pa_cons pe_str (pa_cons (pe_tup (pa_cons pe_str (pa_cons pe_int pa_nil))) (pa_cons (pe_tup (pa_cons pe_str (pa_cons pe_str pa_nil))) pa_nil)))) (pa_cons (pe_tup (pa_cons (pv 14) pa_nil)) (pa_cons (pe_tup pa_nil) pa_nil))))) pa_nil)))))))
        pss_nil)
      (pss_cons (ps_expr (pe_bm PySem.F.plainAttrs_list PySem.F.slot_list_append PySem.F.type_list_append mt_append (pv 6) (pa_cons (pe_tup (pa_cons (pe_ix ix_tup (pv 11) pe_int (fun _ _ => rfl)) (pa_cons (pe_callTy call_tuple_of (by rfl) F.z_tuple (by decide +kernel) (pa_cons (pv 8) pa_nil)) (pa_cons (pe_callTy call_tuple_of (by rfl) F.z_tuple (by decide +kernel) (pa_cons (pv 9) pa_nil)) (pa_cons (pv 12) pa_nil))))) pa_nil)))
      (pss_one (ps_set (i := 5) scLawTree.nd rfl (Or.inl rfl) (pe_op op_cat (pv 5) (pe_lst (pa_cons (pv 11) pa_nil)))))))))))))
    (pss_cons (ps_set (i := 10) scLawTree.nd rfl (Or.inl rfl) (pe_op op_cat (pe_lc (own := [("_law_name_here", 16), ("_law_size", 17)])  (tt := tYes) rfl scLawTree.nd (pi_list (pv 2)) (blkOk_by (N := nLawTree) (sc := defScope sLawTree) (by decide +kernel)) (fun _ _ _ _ _ => (show PG _ _ (gTup K 2 _) from pg_tup rfl (pgs_cons (pg_name (i := 16) scLawTree.nd rfl (Or.inl rfl)) (pgs_cons (pg_name (i := 17) scLawTree.nd rfl (Or.inl rfl)) pgs_nil)))) (fun _ _ _ _ _ => pts_nil) (fun _ _ _ _ _ => (pe_tup (pa_cons (pv 16) (pa_cons (pv 17) (pa_cons pe_bl pa_nil)))))) (pv 4)))
    (pss_cons (ps_set (i := 15) scLawTree.nd rfl (Or.inl rfl) (pe_callH h3 hr (by omega) rfl pass0 (pa_cons (pv 10) (pa_cons (pe_lst pa_nil) (pa_cons (pv 5) (pa_cons (pv 0) (pa_cons (pv 1) (pa_cons pe_int pa_nil))))))))
    (pss_one (ps_ret (pe_tup (pa_cons (pe_callTy call_tuple_of (by rfl) F.z_tuple (by decide +kernel) (pa_cons (pv 2) pa_nil)) (pa_cons (pe_callTy call_tuple_of (by rfl) F.z_tuple (by decide +kernel) (pa_cons (pv 3) pa_nil)) (pa_cons (pe_callTy call_tuple_of (by rfl) F.z_tuple (by decide +kernel) (pa_cons (pv 6) pa_nil)) (pa_cons (pv 15) pa_nil)))))))))))))))), ?_⟩
  -- the state
  refine ⟨lb rfl, fun t1 h1 => ⟨lb rfl, fun t2 h2 => ⟨_, rfl, _, rfl, D, A, 3, rfl, (dr.new h1).new h2, by omega, fun r3 H3 r30 r31 s3 d3 => ⟨_, _, rfl, rfl, lb rfl, fun t3 h3 => ⟨lb rfl, fun t4 h4 => ⟨lb rfl, fun L1 hL1 => ?_⟩⟩⟩⟩⟩⟩
  have e1 := (dr.sm (o := .tup [.str (S "x"), .int 0]) h1)
  have dr1 := dr.new (o := .tup [.str (S "x"), .int 0]) h1
  have e2 := dr1.sm (o := .tup [.str (S "y"), .int 0]) h2
  have dr2 := dr1.new (o := .tup [.str (S "y"), .int 0]) h2
  have e3 := d3.sm (o := .tup [.str (S "r"), .int (1 + r3)]) h3
  have dr3 := d3.new (o := .tup [.str (S "r"), .int (1 + r3)]) h3
  have e4 := dr3.sm (o := .tup [.str (S "z"), .int 0]) h4
  have dr4 := dr3.new (o := .tup [.str (S "z"), .int 0]) h4
  have eL1 := dr4.sm (o := .lst [.ref t1, .ref t2, .ref t3, .ref t4]) hL1
  have drL1 := dr4.new (o := .lst [.ref t1, .ref t2, .ref t3, .ref t4]) hL1
  have hL1at := dr4.at_new (o := .lst [.ref t1, .ref t2, .ref t3, .ref t4]) hL1
  have sA : Sm A H _ := ((((e1.trans e2).trans s3).trans e3).trans e4).trans eL1
  have num0 : numOk 0 := by constructor <;> decide
  have prs : ∀ v ∈ [V.ref t1, V.ref t2, V.ref t3, V.ref t4], Pr (hid A (upd (upd (upd H3 t3 (.tup [.str (S "r"), .int (1 + r3)])) t4 (.tup [.str (S "z"), .int 0])) L1 (.lst [.ref t1, .ref t2, .ref t3, .ref t4]))) v := fun v hv => by
    simp only [List.mem_cons, List.not_mem_nil, or_false] at hv
    rcases hv with rfl | rfl | rfl | rfl
    · exact ⟨t1, S "x", 0, rfl, ((((e2.trans s3).trans e3).trans e4).trans eL1) _ _ (dr.at_new h1), by decide +kernel, num0⟩
    · exact ⟨t2, S "y", 0, rfl, (((s3.trans e3).trans e4).trans eL1) _ _ (dr1.at_new h2), by decide +kernel, num0⟩
    · exact ⟨t3, S "r", 1 + r3, rfl, (e4.trans eL1) _ _ (d3.at_new h3), by decide +kernel, ⟨by omega, by omega⟩⟩
    · exact ⟨t4, S "z", 0, rfl, eL1 _ _ (dr3.at_new h4), by decide +kernel, num0⟩
  generalize upd (upd (upd H3 t3 (.tup [.str (S "r"), .int (1 + r3)])) t4 (.tup [.str (S "z"), .int 0])) L1 (.lst [.ref t1, .ref t2, .ref t3, .ref t4]) = HA at *
  refine ⟨_, rfl, _, rfl, D, A, 2, rfl, drL1, by omega, fun r4 H4 r40 r41 s4 d4 => ⟨_, rfl, L1, _, rfl, SqL.of (hid_of (s4 _ _ hL1at)).1, fun L2 hL2 => ?_⟩⟩
  obtain ⟨k4, rfl⟩ : ∃ k : Nat, r4 = (k : Int) := ⟨r4.toNat, by omega⟩
  have hst2 : ∃ xs : List V, cutV [V.ref t1, V.ref t2, V.ref t3, V.ref t4] (some ((k4 : Nat) : Int)) none = xs ∧ xs.length ≤ 4 ∧ xs ≠ [] ∧ ∀ v ∈ xs, Pr (hid A HA) v := by
    refine ⟨_, rfl, Nat.le_trans (cutV_length _ _ _) (Nat.le_refl _), ?_, fun v hv => prs v (cut_mem hv)⟩
    rw [cut_from]
    intro z
    have := congrArg List.length z
    simp at this
    omega
  obtain ⟨xs2, ex2, xl2, xn2, xp2⟩ := hst2
  rw [ex2]
  have eL2 := d4.sm (o := .lst xs2) hL2
  have dL2 := d4.new (o := .lst xs2) hL2
  have aL2 := d4.at_new (o := .lst xs2) hL2
  refine ⟨_, rfl, _, rfl, _, rfl, D, A, 4, rfl, dL2, by omega, fun r5 H5 r50 r51 s5 d5 => ⟨_, _, rfl, rfl, _, rfl, L2, _, rfl, SqL.of (hid_of (s5 _ _ aL2)).1, fun L3 hL3 => ?_⟩⟩
  obtain ⟨k5, hk5⟩ : ∃ k : Nat, 1 + r5 = (k : Int) ∧ 0 < k := ⟨(1 + r5).toNat, by omega, by omega⟩
  have hst3 : ∃ xs : List V, cutV xs2 none (some (1 + r5)) = xs ∧ xs.length ≤ 4 ∧ xs ≠ [] ∧ ∀ v ∈ xs, Pr (hid A HA) v := by
    refine ⟨_, rfl, Nat.le_trans (cutV_length _ _ _) xl2, ?_, fun v hv => xp2 v (cut_mem hv)⟩
    rw [hk5.1, cut_to]
    intro z
    have z2 := congrArg List.length z
    have : 0 < xs2.length := List.length_pos_iff.mpr xn2
    rw [List.length_take] at z2
    simp only [List.length_nil] at z2
    omega
  obtain ⟨xs, ex3, xl, xn, xp⟩ := hst3
  rw [show cutV xs2 none (some (1 + r5)) = xs from ex3]
  have eL3 := d5.sm (o := .lst xs) hL3
  have dL3 := d5.new (o := .lst xs) hL3
  have aL3 := d5.at_new (o := .lst xs) hL3
  have sB := (((sA.trans s4).trans eL2).trans s5).trans eL3
  have xp3 : ∀ v ∈ xs, Pr (hid A (upd H5 L3 (.lst xs))) v := fun v hv => (xp v hv).ft (smFt (((s4.trans eL2).trans s5).trans eL3))
  generalize upd H5 L3 (.lst xs) = HB at *
  -- the parameters
  refine ⟨lb rfl, fun t5 h5 => ⟨lb rfl, fun t6 h6 => ⟨lb rfl, fun L4 hL4 => ?_⟩⟩⟩
  have e5 := dL3.sm (o := .tup [.str (S "p"), .int 0]) h5
  have dr5 := dL3.new (o := .tup [.str (S "p"), .int 0]) h5
  have e6 := dr5.sm (o := .tup [.str (S "q"), .int 2]) h6
  have dr6 := dr5.new (o := .tup [.str (S "q"), .int 2]) h6
  have eL4 := dr6.sm (o := .lst [.ref t5, .ref t6]) hL4
  have drL4 := dr6.new (o := .lst [.ref t5, .ref t6]) hL4
  have aL4 := dr6.at_new (o := .lst [.ref t5, .ref t6]) hL4
  have prs2 : ∀ v ∈ [V.ref t5, V.ref t6], Pr (hid A (upd (upd (upd HB t5 (.tup [.str (S "p"), .int 0])) t6 (.tup [.str (S "q"), .int 2])) L4 (.lst [.ref t5, .ref t6]))) v := fun v hv => by
    simp only [List.mem_cons, List.not_mem_nil, or_false] at hv
    rcases hv with rfl | rfl
    · exact ⟨t5, S "p", 0, rfl, (e6.trans eL4) _ _ (dL3.at_new h5), by decide +kernel, num0⟩
    · exact ⟨t6, S "q", 2, rfl, eL4 _ _ (dr5.at_new h6), by decide +kernel, by constructor <;> decide⟩
  have sC := (e5.trans e6).trans eL4
  generalize upd (upd (upd HB t5 (.tup [.str (S "p"), .int 0])) t6 (.tup [.str (S "q"), .int 2])) L4 (.lst [.ref t5, .ref t6]) = HC at *
  refine ⟨_, rfl, _, rfl, D, A, 3, rfl, drL4, by omega, fun r6 H6 r60 r61 s6 d6 => ⟨_, rfl, L4, _, rfl, SqL.of (hid_of (s6 _ _ aL4)).1, fun L5 hL5 => ?_⟩⟩
  obtain ⟨ys, ey, yl, yp⟩ : ∃ ys : List V, cutV [V.ref t5, V.ref t6] none (some r6) = ys ∧ ys.length ≤ 2 ∧ ∀ v ∈ ys, Pr (hid A HC) v := ⟨_, rfl, cutV_length _ _ _, fun v hv => prs2 v (cut_mem hv)⟩
  rw [ey]
  have eL5 := d6.sm (o := .lst ys) hL5
  have dL5 := d6.new (o := .lst ys) hL5
  have aL5 := d6.at_new (o := .lst ys) hL5
  have yp5 : ∀ v ∈ ys, Pr (hid A (upd H6 L5 (.lst ys))) v := fun v hv => (yp v hv).ft (smFt (s6.trans eL5))
  have sD := (sC.trans s6).trans eL5
  generalize upd H6 L5 (.lst ys) = HD at *
  -- fixed
  refine ⟨_, rfl, L5, rfl, ⟨_, SqL.of (hid_of aL5).1⟩, fun L6 hL6 => pair_trip (K := K) (b := true) aL5 (by omega) yp5 dL5 hL6 (fun w z H Q g1 g2 qx => ⟨_, rfl, _, rfl, lb rfl, qx⟩) (fun H7 fx s7 d7 aL6 fxl fxp => ?_)⟩
  refine ⟨lb rfl, fun L7 hL7 => ⟨lb rfl, fun PR hPR => ?_⟩⟩
  have e7 := d7.sm (o := .lst []) hL7
  have dr7 := d7.new (o := .lst []) hL7
  have aL7 := d7.at_new (o := .lst []) hL7
  have PA := dr7.ne hPR
  have sE := s7.trans e7
  have aL3' := (sD.trans sE) _ _ aL3
  have xp3' : ∀ v ∈ xs, Pr (hid A (upd H7 L7 (.lst []))) v := fun v hv => (xp3 v hv).ft (smFt (sD.trans sE))
  have aL5' := sE _ _ aL5
  have yp5' : ∀ v ∈ ys, Pr (hid A (upd H7 L7 (.lst []))) v := fun v hv => (yp5 v hv).ft (smFt sE)
  have aL6' := e7 _ _ aL6
  have fxp' : ∀ v ∈ fx, Tr true (hid A (upd H7 L7 (.lst []))) v := fun v hv => (fxp v hv).ft (smFt e7)
  have sF := (sB.trans sD).trans sE
  generalize upd H7 L7 (.lst []) = HP at *
  have ePR := dr7.sm (o := .lst []) hPR
  have drPR := dr7.new (o := .lst []) hPR
  have aPR := dr7.at_new (o := .lst []) hPR
  refine ⟨_, rfl, _, rfl, D, A, 3, rfl, drPR, by omega, fun rn HN rn0 rn1 sn dn => ⟨rn, rfl, by omega, by omega, ?_⟩⟩
  have ak0 : hid PR (hid A HN) L7 = some (.lst []) := by rw [hid_ne (ne_of_none (hid_of aL7).1 hPR)]; exact (ePR.trans sn) _ _ aL7
  refine for_range (n := rn.toNat) (fun k σ H => ∃ kn z7 z8 z9 z10 z11 z12 z13 z14 z15 z16 z17 z18, ∃ us kvs : List V, σ = [some (.ref D), some (.ref A), some (.ref L3), some (.ref L5), some (.ref L6), some (.ref kn), some (.ref PR), z7, z8, z9, z10, z11, z12, z13, z14, z15, z16, z17, z18] ∧
    Same (hid A HP) (hid A H) ∧ Dr D A H ∧ hid A H PR = some (.lst us) ∧ us.length ≤ k ∧ (∀ u ∈ us, HPrc (hid A H) u) ∧ hid PR (hid A H) kn = some (.lst kvs) ∧ kvs.length ≤ k ∧ KnoL (hid PR (hid A H)) kn)
    ⟨L7, none, none, none, none, none, none, none, none, none, none, none, none, [], [], rfl, ePR.trans sn, dn, sn _ _ aPR, Nat.le_refl _, (fun _ h => nomatch h), ak0, Nat.le_refl _, ⟨[], ak0, by simp, (fun _ h => nomatch h)⟩⟩ (fun k σ H hk h => ?_) (fun σ H h => ?_)
  · obtain ⟨kn, z7, z8, z9, z10, z11, z12, z13, z14, z15, z16, z17, z18, us, kvs, rfl, sP, dH, aPRk, usl, usp, akn, kvl, hK⟩ := h
    have hk2 : k < 2 := by omega
    -- integers
    refine ⟨_, rfl, _, rfl, D, A, 3, rfl, dH, by omega, fun r8 H1 r80 r81 s1 d1 => ⟨r8, rfl, by omega, by omega, fun L8 h8 => lc_genR (n := r8.toNat) Wd (fun _ h => h) (by omega) d1 h8 (fun j H2 Q hj s d qx => ?_) (fun H2 nv s2 d2 a8 nvl nvp => ?_)⟩⟩
    · have j0 : (0 : Int) ≤ 0 + (j : Nat) := by omega
      have j1 : (0 : Int) + (j : Nat) < 10 ^ 10 := by
        have : (10 : Int) ^ 10 = 10000000000 := by decide
        omega
      have ln : (Str.ofString "n").length + (Str.ofString (toString ((0 : Int) + (j : Nat)))).length ≤ sizeLine := by
        have := (gw_num j0 j1).1
        have : (Str.ofString "n").length = 1 := by decide +kernel
        rw [line_eq]; omega
      exact ⟨rfl, _, rfl, _, rfl, log_small j0 j1, _, _, rfl, rfl, ln, qx _ _ (Same.refl _) d ⟨_, rfl, gw_pre (by decide +kernel) (by decide +kernel) j0 j1⟩⟩
    obtain ⟨nw, rfl, nwg⟩ := wd_list nvp
    have nl2 : nw.length ≤ 2 := by rw [List.length_map] at nvl; omega
    -- references
    refine ⟨lb rfl, fun u1 hu1 => ⟨lb rfl, fun Lq hq => ?_⟩⟩
    have c1 := d2.sm (o := .tup [.str (S "u"), .int 0]) hu1
    have f1 := d2.new (o := .tup [.str (S "u"), .int 0]) hu1
    have au1 := d2.at_new (o := .tup [.str (S "u"), .int 0]) hu1
    have c2 := f1.sm (o := .lst [.int 0, .int 2, .int 3]) hq
    have f2 := f1.new (o := .lst [.int 0, .int 2, .int 3]) hq
    have aq := f1.at_new (o := .lst [.int 0, .int 2, .int 3]) hq
    refine ⟨_, rfl, _, rfl, D, A, 3, rfl, f2, by omega, fun r9 H3 r90 r91 s3 d3 => ?_⟩
    obtain ⟨vz, hvz, hatz⟩ := pick (xs := [.int 0, .int 2, .int 3]) r90 r91
    obtain ⟨z, nz, rfl⟩ : ∃ z, numOk z ∧ vz = .int z := by
      simp only [List.mem_cons, List.not_mem_nil, or_false] at hvz
      rcases hvz with rfl | rfl | rfl <;> exact ⟨_, by constructor <;> decide, rfl⟩
    refine ⟨Lq, _, _, _, rfl, rfl, SqL.of (hid_of (s3 _ _ aq)).1, hatz, lb rfl, fun u2 hu2 => ⟨lb rfl, fun L9 h9 => ?_⟩⟩
    have c3 := d3.sm (o := .tup [.str (S "v"), .int z]) hu2
    have f3 := d3.new (o := .tup [.str (S "v"), .int z]) hu2
    have au2 := d3.at_new (o := .tup [.str (S "v"), .int z]) hu2
    have c4 := f3.sm (o := .lst [.ref u1, .ref u2]) h9
    have f4 := f3.new (o := .lst [.ref u1, .ref u2]) h9
    have a9 := f3.at_new (o := .lst [.ref u1, .ref u2]) h9
    have rp0 : ∀ v ∈ [V.ref u1, V.ref u2], Pr (hid A (upd (upd H3 u2 (.tup [.str (S "v"), .int z])) L9 (.lst [.ref u1, .ref u2]))) v := fun v hv => by
      simp only [List.mem_cons, List.not_mem_nil, or_false] at hv
      rcases hv with rfl | rfl
      · exact ⟨u1, S "u", 0, rfl, (((c2.trans s3).trans c3).trans c4) _ _ au1, by decide +kernel, num0⟩
      · exact ⟨u2, S "v", z, rfl, c4 _ _ au2, by decide +kernel, nz⟩
    have sG := ((((s1.trans s2).trans c1).trans c2).trans s3).trans (c3.trans c4)
    have a8G := ((((c1).trans c2).trans s3).trans (c3.trans c4)) _ _ a8
    generalize upd (upd H3 u2 (.tup [.str (S "v"), .int z])) L9 (.lst [.ref u1, .ref u2]) = HG at *
    refine ⟨_, rfl, _, rfl, D, A, 2, rfl, f4, by omega, fun rX H4 rX0 rX1 s4' d4' => ⟨_, _, rfl, rfl, _, rfl, L9, _, rfl, SqL.of (hid_of (s4' _ _ a9)).1, fun L10 h10 => ?_⟩⟩
    obtain ⟨kx, hkx⟩ : ∃ k : Nat, 1 + rX = (k : Int) ∧ 0 < k := ⟨(1 + rX).toNat, by omega, by omega⟩
    obtain ⟨rs, ers, rsl, rsn, rsp⟩ : ∃ rs : List V, cutV [V.ref u1, V.ref u2] none (some (1 + rX)) = rs ∧ rs.length ≤ 2 ∧ rs ≠ [] ∧ ∀ v ∈ rs, Pr (hid A HG) v := by
      refine ⟨_, rfl, cutV_length _ _ _, ?_, fun v hv => rp0 v (cut_mem hv)⟩
      rw [hkx.1, cut_to]
      intro z
      have z2 := congrArg List.length z
      rw [List.length_take] at z2
      simp only [List.length_nil, List.length_cons] at z2
      omega
    rw [show cutV [V.ref u1, V.ref u2] none (some (1 + rX)) = rs from ers]
    have c5 := d4'.sm (o := .lst rs) h10
    have f5 := d4'.new (o := .lst rs) h10
    have a10 := d4'.at_new (o := .lst rs) h10
    have rsp5 : ∀ v ∈ rs, Pr (hid A (upd H4 L10 (.lst rs))) v := fun v hv => (rsp v hv).ft (smFt (s4'.trans c5))
    have sH := (sG.trans s4').trans c5
    have a8H := (s4'.trans c5) _ _ a8G
    generalize upd H4 L10 (.lst rs) = HH at *
    -- variables
    refine ⟨_, rfl, L10, rfl, ⟨_, SqL.of (hid_of a10).1⟩, fun L11 h11 => pair_trip (K := K) (b := false) a10 (by omega) rsp5 f5 h11 (fun w z H Q g1 g2 qx => ⟨_, rfl, _, rfl, lb rfl, qx⟩) (fun HI vr sI dI a11 vrl vrp => ?_)⟩
    have a6I := ((sP.trans sH).trans sI) _ _ aL6'
    refine ⟨_, rfl, L11, L6, _, _, rfl, rfl, (hid_of a11).1, (hid_of a6I).1, by rw [line_eq]; omega, fun L12 h12 => ?_⟩
    have c6 := dI.sm (o := .lst (vr ++ fx)) h12
    have f6 := dI.new (o := .lst (vr ++ fx)) h12
    have a12 := dI.at_new (o := .lst (vr ++ fx)) h12
    have vrp6 : ∀ v ∈ vr, Tr false (hid A (upd HI L12 (.lst (vr ++ fx)))) v := fun v hv => (vrp v hv).ft (smFt c6)
    have sJ := (sH.trans sI).trans c6
    have a8J := (sI.trans c6) _ _ a8H
    have a10J := (sI.trans c6) _ _ a10
    have rspJ : ∀ v ∈ rs, Pr (hid A (upd HI L12 (.lst (vr ++ fx)))) v := fun v hv => (rsp5 v hv).ft (smFt (sI.trans c6))
    generalize upd HI L12 (.lst (vr ++ fx)) = HJ at *
    -- the row
    have k0 : (0 : Int) ≤ 0 + (k : Nat) := by omega
    have k1 : (0 : Int) + (k : Nat) < 10 ^ 10 := by
      have : (10 : Int) ^ 10 = 10000000000 := by decide
      omega
    have lf : (Str.ofString "f").length + (Str.ofString (toString ((0 : Int) + (k : Nat)))).length ≤ sizeLine := by
      have := (gw_num k0 k1).1
      have : (Str.ofString "f").length = 1 := by decide +kernel
      rw [line_eq]; omega
    have gf := gw_pre (a := Str.ofString "f") (by decide +kernel) (by decide +kernel) k0 k1
    refine ⟨_, rfl, _, rfl, log_small k0 k1, _, _, rfl, rfl, lf, _, rfl, L8, _, rfl, .inl (SqL.of (hid_of a8J).1), _, rfl, L10, rfl, ⟨_, SqL.of (hid_of a10J).1⟩, fun L13 h13 => lc_gen (K := K) Nm (fun _ h => h) a10J (by omega) f6 h13 (fun x H Q hx s d qx => ?_) (fun HK sv sK dK a13 svl svp => ?_)⟩
    · obtain ⟨a, w, z, rfl, h1, h2, h3⟩ := rspJ x hx
      exact ⟨a, _, rfl, SqT.of (hid_of (s _ _ h1)).1, rfl, _, _, rfl, _, _, rfl, rfl, rfl, _, rfl, qx _ _ (Same.refl _) d ⟨z, rfl, h3⟩⟩
    obtain ⟨szs, rfl⟩ := nm_list svp
    refine ⟨lb rfl, fun u3 hu3 => ?_⟩
    have c7 := dK.sm (o := .tup [.str (Str.ofString "f" ++ Str.ofString (toString ((0 : Int) + (k : Nat)))), .int ((nw.map V.str).length : Nat), .ref L13]) hu3
    have f7 := dK.new (o := .tup [.str (Str.ofString "f" ++ Str.ofString (toString ((0 : Int) + (k : Nat)))), .int ((nw.map V.str).length : Nat), .ref L13]) hu3
    have a7 := dK.at_new (o := .tup [.str (Str.ofString "f" ++ Str.ofString (toString ((0 : Int) + (k : Nat)))), .int ((nw.map V.str).length : Nat), .ref L13]) hu3
    have sL := (sJ.trans sK).trans c7
    have a8L := (sK.trans c7) _ _ a8J
    have a10L := (sK.trans c7) _ _ a10J
    have a12L := (sK.trans c7) _ _ a12
    have a13L := c7 _ _ a13
    have vrpL := fun v hv => (vrp6 v hv).ft (smFt (sK.trans c7))
    have rspL := fun v hv => (rspJ v hv).ft (smFt (sK.trans c7))
    have fxpL := fun v hv => (fxp' v hv).ft (smFt (sP.trans sL))
    -- this much is all of the row
    have rowL : ∃ wf, gw wf ∧ hid A (upd HK u3 (.tup [.str (Str.ofString "f" ++ Str.ofString (toString ((0 : Int) + (k : Nat)))), .int ((nw.map V.str).length : Nat), .ref L13])) u3 = some (.tup [.str wf, .int ((nw.map V.str).length : Nat), .ref L13]) := ⟨_, gf, a7⟩
    have PRk := (hid_of aPRk).1
    have u3PR : u3 ≠ PR := fun z => by
      have := (hid_of (((sJ.trans sK)) _ _ aPRk)).1
      rw [← z, hu3] at this; cases this
    have L13PR : L13 ≠ PR := fun z => by
      have := (hid_of (sJ _ _ aPRk)).1
      rw [← z, h13] at this; cases this
    generalize upd HK u3 (.tup [.str (Str.ofString "f" ++ Str.ofString (toString ((0 : Int) + (k : Nat)))), .int ((nw.map V.str).length : Nat), .ref L13]) = HL at *
    obtain ⟨wf, gwf, a7⟩ := rowL
    obtain ⟨kvs2, akn2, kl10, hKa⟩ := id hK
    rw [akn] at akn2
    cases akn2
    have aknL := sL _ _ (hid_of akn).1
    -- the body
    refine ⟨_, rfl, _, rfl, _, rfl, _, rfl, lb rfl, fun Lr hr => ?_⟩
    have c8 := f7.sm (o := .lst [.ref u3]) hr
    have f8 := f7.new (o := .lst [.ref u3]) hr
    have a8x := f7.at_new (o := .lst [.ref u3]) hr
    refine ⟨_, rfl, _, rfl, D, A, 2, rfl, f8, by omega, fun r12 HM r120 r121 sM dM => ⟨_, rfl, Lr, _, rfl, SqL.of (hid_of (sM _ _ a8x)).1, fun Ls hLs => ?_⟩⟩
    obtain ⟨rw2, erw, rwl, rwp⟩ : ∃ rw2 : List V, cutV [V.ref u3] none (some r12) = rw2 ∧ rw2.length ≤ 1 ∧ ∀ v ∈ rw2, v = .ref u3 := ⟨_, rfl, cutV_length _ _ _, fun v hv => by have := cut_mem hv; simpa using this⟩
    rw [erw]
    have c9 := dM.sm (o := .lst rw2) hLs
    have f9 := dM.new (o := .lst rw2) hLs
    have a9 := dM.at_new (o := .lst rw2) hLs
    have sMN := (c8.trans sM).trans c9
    refine ⟨kn, Ls, _, _, rfl, rfl, (hid_of (sMN _ _ aknL)).1, upd_same, by rw [line_eq]; omega, fun Lk hLk => ?_⟩
    have cX := f9.sm (o := .lst (kvs ++ rw2)) hLk
    have fX := f9.new (o := .lst (kvs ++ rw2)) hLk
    have aX := f9.at_new (o := .lst (kvs ++ rw2)) hLk
    have sO := sMN.trans cX
    have gin : Gin D A L12 L8 Lk 2 (upd (upd HM Ls (.lst rw2)) Lk (.lst (kvs ++ rw2))) := by
      refine ⟨fX, ?_, ⟨nw, sO _ _ a8L, by omega, nwg⟩, ⟨kvs ++ rw2, aX, by simp; omega, fun v hv => ?_⟩, by omega⟩
      · have vn : vr ≠ [] := fun z => by
          rw [z] at vrl
          exact rsn (List.length_eq_zero_iff.mp vrl.symm)
        obtain ⟨v0, vt, ev⟩ := List.exists_cons_of_ne_nil vn
        have hv0 := (vrpL v0 (by rw [ev]; simp)).ft (smFt sO)
        obtain ⟨a0, w0, z0, e0, e1, _⟩ := hv0
        refine ⟨vr ++ fx, sO _ _ a12L, by simp; omega, fun v hv => ?_, v0, by rw [ev]; simp, a0, w0, z0, e0, e1⟩
        rcases List.mem_append.mp hv with h | h
        · obtain ⟨a, w, z, e0, e1, e2⟩ := (vrpL v h).ft (smFt sO)
          exact ⟨a, w, z, false, e0, e1, e2⟩
        · obtain ⟨a, w, z, e0, e1, e2⟩ := (fxpL v h).ft (smFt sO)
          exact ⟨a, w, z, true, e0, e1, e2⟩
      · rcases List.mem_append.mp hv with h | h
        · obtain ⟨a, w, c, sl, zs, e1, e2, e3, e4, e5, e6, e7⟩ := hKa v h
          exact ⟨a, w, c, sl, zs, e1, (sL.trans sO) _ _ (hid_of e2).1, e3, e4, e5, (sL.trans sO) _ _ (hid_of e6).1, e7⟩
        · rw [rwp v h]
          exact ⟨u3, wf, _, L13, szs, rfl, sO _ _ a7, gwf, by omega, by simp; omega, sO _ _ a13L, by rw [List.length_map] at svl; omega⟩
    refine ⟨_, rfl, _, rfl, L12, L8, Lk, D, A, rfl, gin, fun v12 HQ sQ dQ x12 => ?_⟩
    have sR := sO.trans sQ
    have a7Q := sR _ _ a7
    have a8Q := sR _ _ a8L
    have a10Q := sR _ _ a10L
    have a13Q := sR _ _ a13L
    have rspQ := fun v hv => (rspL v hv).ft (smFt sR)
    have sS := sL.trans sR
    have aknQ := hidS (B := PR) sS _ _ akn
    have hKQ := hK.sm (hidS (B := PR) sS)
    have aPRQ := sS _ _ aPRk
    have uspQ := fun u hu => (usp u hu).ft (smFt sS)
    have sPQ := sP.trans sS
    have x12' : HBd (hid A HQ) 2 4 v12 := by
      obtain ⟨a, xs, y0, y1, y2, y3⟩ := x12
      exact ⟨a, xs, y0, y1, ⟨y2.1, by omega⟩, y3⟩
    by_cases nw0 : nw = []
    · refine ⟨_, rfl, false, .inl ⟨_, SqL.of (hid_of a8Q).1, by rw [nw0]; rfl⟩, iteF (iteF ?_)⟩
      have PRW := (Same.refl (hid A HQ)) _ _ aPRQ
      refine ⟨_, rfl, .inl ⟨rfl, _, SqL.of (hid_of PRW).1⟩, _, rfl, u3, _, 0, _, rfl, rfl, SqT.of (hid_of ((Same.refl (hid A HQ)) _ _ a7Q)).1, rfl, _, rfl, L8, _, rfl, .inl ⟨SqL.of (hid_of ((Same.refl (hid A HQ)) _ _ a8Q)).1, fun q1 hq1 => ?_⟩⟩
      have k1x := dQ.sm (o := .tup (nw.map V.str)) hq1
      have g1 := dQ.new (o := .tup (nw.map V.str)) hq1
      have b1 := dQ.at_new (o := .tup (nw.map V.str)) hq1
      refine ⟨_, rfl, L10, _, rfl, .inl ⟨SqL.of (hid_of (k1x _ _ ((Same.refl (hid A HQ)) _ _ a10Q))).1, fun q2 hq2 => ?_⟩⟩
      have k2 := g1.sm (o := .tup rs) hq2
      have g2 := g1.new (o := .tup rs) hq2
      have b2 := g1.at_new (o := .tup rs) hq2
      refine ⟨_, rfl, lb rfl, fun q3 hq3 => ?_⟩
      have k3 := g2.sm (o := .tup [.str wf, .ref q1, .ref q2, v12]) hq3
      have g3 := g2.new (o := .tup [.str wf, .ref q1, .ref q2, v12]) hq3
      have b3 := g2.at_new (o := .tup [.str wf, .ref q1, .ref q2, v12]) hq3
      have sT := (k1x.trans k2).trans k3
      have PR3 := sT _ _ PRW
      refine ⟨_, _, _, rfl, rfl, (hid_of PR3).1, by rw [line_eq]; omega, ?_⟩
      have b1' := (k2.trans k3) _ _ b1
      have b2' := k3 _ _ b2
      have x3 := x12'.ft (smFt sT)
      generalize upd (upd (upd HQ q1 (.tup (nw.map V.str))) q2 (.tup rs)) q3 (.tup [.str wf, .ref q1, .ref q2, v12]) = H3z at *
      have eZ : hid A (upd H3z PR (.lst (us ++ [.ref q3]))) = upd (hid A H3z) PR (.lst (us ++ [.ref q3])) := hid_new PA
      have eZ2 : hid PR (hid A (upd H3z PR (.lst (us ++ [.ref q3])))) = hid PR (hid A H3z) := by rw [eZ, hid_upd]
      have dZ : Dr D A (upd H3z PR (.lst (us ++ [.ref q3]))) := g3.put dr7 hPR
      have knZ : hid PR (hid A (upd H3z PR (.lst (us ++ [.ref q3])))) kn = some (.lst kvs) := by rw [eZ2]; exact hidS ((Same.refl (hid A HQ)).trans sT) _ _ aknQ
      have KZ : ∀ v ∈ kvs, ∃ a w c sl, ∃ zs : List Int, v = .ref a ∧ hid PR (hid A (upd H3z PR (.lst (us ++ [.ref q3])))) a = some (.tup [.str w, .int c, .ref sl]) ∧ gw w ∧ 0 ≤ c ∧ c ≤ 2 ∧ hid PR (hid A (upd H3z PR (.lst (us ++ [.ref q3])))) sl = some (.lst (zs.map V.int)) ∧ zs.length ≤ 2 := fun v hv => by
        obtain ⟨a, w, c, sl, zs, e1, e2, e3, e4, e5, e6, e7⟩ := hKa v hv
        refine ⟨a, w, c, sl, zs, e1, ?_, e3, e4, e5, ?_, e7⟩
        · rw [eZ2]; exact hidS (sS.trans ((Same.refl (hid A HQ)).trans sT)) _ _ e2
        · rw [eZ2]; exact hidS (sS.trans ((Same.refl (hid A HQ)).trans sT)) _ _ e6
      have RZ : hid PR (hid A (upd H3z PR (.lst (us ++ [.ref q3])))) u3 = some (.tup [.str wf, .int ((nw.map V.str).length : Nat), .ref L13]) := by rw [eZ2, hid_ne u3PR]; exact ((Same.refl (hid A HQ)).trans sT) _ _ a7Q
      have SZ : hid PR (hid A (upd H3z PR (.lst (us ++ [.ref q3])))) L13 = some (.lst (szs.map V.int)) := by rw [eZ2, hid_ne L13PR]; exact ((Same.refl (hid A HQ)).trans sT) _ _ a13Q
      have PZ : hid A (upd H3z PR (.lst (us ++ [.ref q3]))) PR = some (.lst (us ++ [.ref q3])) := by rw [eZ, upd_same]
      have ftZ : Ft (hid A H3z) (hid A (upd H3z PR (.lst (us ++ [.ref q3])))) := by rw [eZ]; exact Ft.upd PR3 (fun _ z => nomatch z)
      have sZ : Same (hid A HP) (hid A (upd H3z PR (.lst (us ++ [.ref q3])))) := by rw [eZ]; exact Same.at_new ((sPQ.trans (Same.refl (hid A HQ))).trans sT) (hid_none hPR)
      have UZ : ∀ u ∈ us ++ [V.ref q3], HPrc (hid A (upd H3z PR (.lst (us ++ [.ref q3])))) u := fun u hu => by
        rcases List.mem_append.mp hu with h | h
        · exact ((uspQ u h).ft (smFt ((Same.refl (hid A HQ)).trans sT))).ft ftZ
        · rw [List.mem_singleton.mp h]
          refine HPrc.ft ftZ ⟨q3, wf, q1, q2, v12, nw.map V.str, rs, rfl, b3, gwf, b1', by rw [List.length_map]; exact nl2, fun s hs => ?_, b2', rsl, fun s hs => (rspQ s hs).ft (smFt ((Same.refl (hid A HQ)).trans sT)), x3⟩
          obtain ⟨w, hw, rfl⟩ := List.mem_map.mp hs
          exact ⟨w, rfl, nwg w hw⟩
      generalize upd H3z PR (.lst (us ++ [.ref q3])) = HZ at *
      refine ⟨_, rfl, _, rfl, lb rfl, fun Lz hLz => ?_⟩
      have k4 := dZ.sm (o := .lst [.ref u3]) hLz
      have g4 := dZ.new (o := .lst [.ref u3]) hLz
      have b4 := dZ.at_new (o := .lst [.ref u3]) hLz
      refine ⟨kn, Lz, _, _, rfl, rfl, (hid_of (k4 _ _ (hid_of knZ).1)).1, upd_same, by rw [line_eq]; simp; omega, fun kn2 hkn2 => ?_⟩
      have k5 := g4.sm (o := .lst (kvs ++ [.ref u3])) hkn2
      have g5 := g4.new (o := .lst (kvs ++ [.ref u3])) hkn2
      have b5 := g4.at_new (o := .lst (kvs ++ [.ref u3])) hkn2
      have s45 := k4.trans k5
      have kn2PR : kn2 ≠ PR := fun z => by
        have := (hid_of (k4 _ _ PZ)).1
        rw [← z, hkn2] at this; cases this
      have akn2' : hid PR (hid A (upd (upd HZ Lz (.lst [.ref u3])) kn2 (.lst (kvs ++ [.ref u3])))) kn2 = some (.lst (kvs ++ [.ref u3])) := by rw [hid_ne kn2PR]; exact b5
      refine ⟨kn2, _, _, _, _, _, _, _, _, _, _, _, _, us ++ [.ref q3], kvs ++ [.ref u3], rfl, sZ.trans s45, g5, s45 _ _ PZ, by simp; omega, fun u hu => (UZ u hu).ft (smFt s45), akn2', by simp; omega, ⟨_, akn2', by simp; omega, fun v hv => ?_⟩⟩
      rcases List.mem_append.mp hv with h | h
      · obtain ⟨a, w, c, sl, zs, e1, e2, e3, e4, e5, e6, e7⟩ := KZ v h
        exact ⟨a, w, c, sl, zs, e1, hidS s45 _ _ e2, e3, e4, e5, hidS s45 _ _ e6, e7⟩
      · rw [List.mem_singleton.mp h]
        exact ⟨u3, wf, _, L13, szs, rfl, hidS s45 _ _ RZ, gwf, by omega, by simp; omega, hidS s45 _ _ SZ, by rw [List.length_map] at svl; omega⟩
    have e0 : true = (!(nw.map V.str).isEmpty) := by cases nw with | nil => exact absurd rfl nw0 | cons a r => rfl
    refine ⟨_, rfl, true, .inl ⟨_, SqL.of (hid_of a8Q).1, e0⟩, iteT ⟨_, rfl, _, rfl, D, A, 2, rfl, dQ, by omega, fun rV HV rV0 rV1 sV dV => ⟨rfl, _, rfl, ?_⟩⟩⟩
    have x12V := x12.ft (smFt sV)
    have x12V' := x12'.ft (smFt sV)
    refine ite2 (fun _ => ?_) (fun _ => ?_)
    rotate_left
    · skip
      have PRW := sV _ _ aPRQ
      refine ⟨_, rfl, .inl ⟨rfl, _, SqL.of (hid_of PRW).1⟩, _, rfl, u3, _, 0, _, rfl, rfl, SqT.of (hid_of (sV _ _ a7Q)).1, rfl, _, rfl, L8, _, rfl, .inl ⟨SqL.of (hid_of (sV _ _ a8Q)).1, fun q1 hq1 => ?_⟩⟩
      have k1x := dV.sm (o := .tup (nw.map V.str)) hq1
      have g1 := dV.new (o := .tup (nw.map V.str)) hq1
      have b1 := dV.at_new (o := .tup (nw.map V.str)) hq1
      refine ⟨_, rfl, L10, _, rfl, .inl ⟨SqL.of (hid_of (k1x _ _ (sV _ _ a10Q))).1, fun q2 hq2 => ?_⟩⟩
      have k2 := g1.sm (o := .tup rs) hq2
      have g2 := g1.new (o := .tup rs) hq2
      have b2 := g1.at_new (o := .tup rs) hq2
      refine ⟨_, rfl, lb rfl, fun q3 hq3 => ?_⟩
      have k3 := g2.sm (o := .tup [.str wf, .ref q1, .ref q2, v12]) hq3
      have g3 := g2.new (o := .tup [.str wf, .ref q1, .ref q2, v12]) hq3
      have b3 := g2.at_new (o := .tup [.str wf, .ref q1, .ref q2, v12]) hq3
      have sT := (k1x.trans k2).trans k3
      have PR3 := sT _ _ PRW
      refine ⟨_, _, _, rfl, rfl, (hid_of PR3).1, by rw [line_eq]; omega, ?_⟩
      have b1' := (k2.trans k3) _ _ b1
      have b2' := k3 _ _ b2
      have x3 := x12V'.ft (smFt sT)
      generalize upd (upd (upd HV q1 (.tup (nw.map V.str))) q2 (.tup rs)) q3 (.tup [.str wf, .ref q1, .ref q2, v12]) = H3z at *
      have eZ : hid A (upd H3z PR (.lst (us ++ [.ref q3]))) = upd (hid A H3z) PR (.lst (us ++ [.ref q3])) := hid_new PA
      have eZ2 : hid PR (hid A (upd H3z PR (.lst (us ++ [.ref q3])))) = hid PR (hid A H3z) := by rw [eZ, hid_upd]
      have dZ : Dr D A (upd H3z PR (.lst (us ++ [.ref q3]))) := g3.put dr7 hPR
      have knZ : hid PR (hid A (upd H3z PR (.lst (us ++ [.ref q3])))) kn = some (.lst kvs) := by rw [eZ2]; exact hidS (sV.trans sT) _ _ aknQ
      have KZ : ∀ v ∈ kvs, ∃ a w c sl, ∃ zs : List Int, v = .ref a ∧ hid PR (hid A (upd H3z PR (.lst (us ++ [.ref q3])))) a = some (.tup [.str w, .int c, .ref sl]) ∧ gw w ∧ 0 ≤ c ∧ c ≤ 2 ∧ hid PR (hid A (upd H3z PR (.lst (us ++ [.ref q3])))) sl = some (.lst (zs.map V.int)) ∧ zs.length ≤ 2 := fun v hv => by
        obtain ⟨a, w, c, sl, zs, e1, e2, e3, e4, e5, e6, e7⟩ := hKa v hv
        refine ⟨a, w, c, sl, zs, e1, ?_, e3, e4, e5, ?_, e7⟩
        · rw [eZ2]; exact hidS (sS.trans (sV.trans sT)) _ _ e2
        · rw [eZ2]; exact hidS (sS.trans (sV.trans sT)) _ _ e6
      have RZ : hid PR (hid A (upd H3z PR (.lst (us ++ [.ref q3])))) u3 = some (.tup [.str wf, .int ((nw.map V.str).length : Nat), .ref L13]) := by rw [eZ2, hid_ne u3PR]; exact (sV.trans sT) _ _ a7Q
      have SZ : hid PR (hid A (upd H3z PR (.lst (us ++ [.ref q3])))) L13 = some (.lst (szs.map V.int)) := by rw [eZ2, hid_ne L13PR]; exact (sV.trans sT) _ _ a13Q
      have PZ : hid A (upd H3z PR (.lst (us ++ [.ref q3]))) PR = some (.lst (us ++ [.ref q3])) := by rw [eZ, upd_same]
      have ftZ : Ft (hid A H3z) (hid A (upd H3z PR (.lst (us ++ [.ref q3])))) := by rw [eZ]; exact Ft.upd PR3 (fun _ z => nomatch z)
      have sZ : Same (hid A HP) (hid A (upd H3z PR (.lst (us ++ [.ref q3])))) := by rw [eZ]; exact Same.at_new ((sPQ.trans sV).trans sT) (hid_none hPR)
      have UZ : ∀ u ∈ us ++ [V.ref q3], HPrc (hid A (upd H3z PR (.lst (us ++ [.ref q3])))) u := fun u hu => by
        rcases List.mem_append.mp hu with h | h
        · exact ((uspQ u h).ft (smFt (sV.trans sT))).ft ftZ
        · rw [List.mem_singleton.mp h]
          refine HPrc.ft ftZ ⟨q3, wf, q1, q2, v12, nw.map V.str, rs, rfl, b3, gwf, b1', by rw [List.length_map]; exact nl2, fun s hs => ?_, b2', rsl, fun s hs => (rspQ s hs).ft (smFt (sV.trans sT)), x3⟩
          obtain ⟨w, hw, rfl⟩ := List.mem_map.mp hs
          exact ⟨w, rfl, nwg w hw⟩
      generalize upd H3z PR (.lst (us ++ [.ref q3])) = HZ at *
      refine ⟨_, rfl, _, rfl, lb rfl, fun Lz hLz => ?_⟩
      have k4 := dZ.sm (o := .lst [.ref u3]) hLz
      have g4 := dZ.new (o := .lst [.ref u3]) hLz
      have b4 := dZ.at_new (o := .lst [.ref u3]) hLz
      refine ⟨kn, Lz, _, _, rfl, rfl, (hid_of (k4 _ _ (hid_of knZ).1)).1, upd_same, by rw [line_eq]; simp; omega, fun kn2 hkn2 => ?_⟩
      have k5 := g4.sm (o := .lst (kvs ++ [.ref u3])) hkn2
      have g5 := g4.new (o := .lst (kvs ++ [.ref u3])) hkn2
      have b5 := g4.at_new (o := .lst (kvs ++ [.ref u3])) hkn2
      have s45 := k4.trans k5
      have kn2PR : kn2 ≠ PR := fun z => by
        have := (hid_of (k4 _ _ PZ)).1
        rw [← z, hkn2] at this; cases this
      have akn2' : hid PR (hid A (upd (upd HZ Lz (.lst [.ref u3])) kn2 (.lst (kvs ++ [.ref u3])))) kn2 = some (.lst (kvs ++ [.ref u3])) := by rw [hid_ne kn2PR]; exact b5
      refine ⟨kn2, _, _, _, _, _, _, _, _, _, _, _, _, us ++ [.ref q3], kvs ++ [.ref u3], rfl, sZ.trans s45, g5, s45 _ _ PZ, by simp; omega, fun u hu => (UZ u hu).ft (smFt s45), akn2', by simp; omega, ⟨_, akn2', by simp; omega, fun v hv => ?_⟩⟩
      rcases List.mem_append.mp hv with h | h
      · obtain ⟨a, w, c, sl, zs, e1, e2, e3, e4, e5, e6, e7⟩ := KZ v h
        exact ⟨a, w, c, sl, zs, e1, hidS s45 _ _ e2, e3, e4, e5, hidS s45 _ _ e6, e7⟩
      · rw [List.mem_singleton.mp h]
        exact ⟨u3, wf, _, L13, szs, rfl, hidS s45 _ _ RZ, gwf, by omega, by simp; omega, hidS s45 _ _ SZ, by rw [List.length_map] at svl; omega⟩
    obtain ⟨a12t, xs12, rfl, y12a, y12l, y12p⟩ := x12
    refine ⟨lb rfl, fun w1 hw1 => ⟨lb rfl, fun w2 hw2 => ⟨lb rfl, fun w3 hw3 => ⟨lb rfl, fun w4 hw4 => ?_⟩⟩⟩⟩
    have m1s := dV.sm (o := .tup [.str (S "index"), .str (S "n0")]) hw1
    have m1d := dV.new (o := .tup [.str (S "index"), .str (S "n0")]) hw1
    have m1a := dV.at_new (o := .tup [.str (S "index"), .str (S "n0")]) hw1
    have m2s := m1d.sm (o := .tup [.str (S "integer"), .int 1]) hw2
    have m2d := m1d.new (o := .tup [.str (S "integer"), .int 1]) hw2
    have m2a := m1d.at_new (o := .tup [.str (S "integer"), .int 1]) hw2
    have m3s := m2d.sm (o := .tup [.str (S "minus"), .ref w1, .ref w2]) hw3
    have m3d := m2d.new (o := .tup [.str (S "minus"), .ref w1, .ref w2]) hw3
    have m3a := m2d.at_new (o := .tup [.str (S "minus"), .ref w1, .ref w2]) hw3
    have m4s := m3d.sm (o := .tup [.ref w3]) hw4
    have m4d := m3d.new (o := .tup [.ref w3]) hw4
    have m4a := m3d.at_new (o := .tup [.ref w3]) hw4
    have i1 : HIdx (hid A (upd (upd (upd (upd HV w1 (.tup [.str (S "index"), .str (S "n0")])) w2 (.tup [.str (S "integer"), .int 1])) w3 (.tup [.str (S "minus"), .ref w1, .ref w2])) w4 (.tup [.ref w3]))) 2 16 (.ref w3) :=
      ⟨by omega, w3, _, rfl, m4s _ _ m3a, .inr (.inr ⟨S "minus", .ref w1, .ref w2, 1, 1, rfl, by decide +kernel, HIdx.atom (Nat.le_refl _) ((m2s.trans (m3s.trans m4s)) _ _ m1a) (.inr (.inr ⟨S "n0", rfl, by decide +kernel⟩)), HIdx.atom (Nat.le_refl _) ((m3s.trans m4s) _ _ m2a) (.inl ⟨1, rfl, by constructor <;> decide⟩), by omega⟩)⟩
    have sV4 := sV.trans (((m1s.trans m2s).trans m3s).trans m4s)
    generalize upd (upd (upd (upd HV w1 (.tup [.str (S "index"), .str (S "n0")])) w2 (.tup [.str (S "integer"), .int 1])) w3 (.tup [.str (S "minus"), .ref w1, .ref w2])) w4 (.tup [.ref w3]) = HV4 at *
    refine ⟨_, rfl, _, rfl, L8, _, rfl, SqL.of (hid_of (sV4 _ _ a8Q)).1, fun Lc hLc => ?_⟩
    obtain ⟨cs, ecs, csl, csp⟩ : ∃ cs : List V, cutV (nw.map V.str) (some (1 : Int)) none = cs ∧ cs.length + 1 ≤ 2 ∧ ∀ v ∈ cs, ∃ w, v = .str w ∧ gw w := by
      refine ⟨_, rfl, ?_, fun v hv => ?_⟩
      · rw [show (some (1 : Int)) = some ((1 : Nat) : Int) from rfl, cut_from, List.length_drop, List.length_map]
        have : 0 < nw.length := List.length_pos_iff.mpr nw0
        omega
      · obtain ⟨w, hw, rfl⟩ := List.mem_map.mp (cut_mem hv)
        exact ⟨w, rfl, nwg w hw⟩
    rw [ecs]
    have m5s := m4d.sm (o := .lst cs) hLc
    have m5d := m4d.new (o := .lst cs) hLc
    have m5a := m4d.at_new (o := .lst cs) hLc
    refine ⟨Lc, rfl, ⟨_, SqL.of upd_same⟩, fun Ld hLd => lc_gen (K := K) (fun H v => HIdx H 2 16 v) (fun e h => h.ft e) m5a (by omega) m5d hLd (fun x H Q hx s d qx => ?_) (fun HR is0 sRx dRx aLd isl isp => ?_)⟩
    · obtain ⟨w, rfl, gw'⟩ := csp x hx
      exact ⟨rfl, _, rfl, lb rfl, fun t ht => qx _ _ (d.sm ht) (d.new ht) (HIdx.atom (by omega) (d.at_new ht) (.inr (.inr ⟨w, rfl, gw'⟩)))⟩
    refine ⟨Ld, is0, rfl, .inl ⟨SqL.of (hid_of aLd).1, fun w5 hw5 => ?_⟩⟩
    have m6s := dRx.sm (o := .tup is0) hw5
    have m6d := dRx.new (o := .tup is0) hw5
    have m6a := dRx.at_new (o := .tup is0) hw5
    have sV6 := (m5s.trans sRx).trans m6s
    refine catT m6d (sV6 _ _ m4a) m6a (by simp) (by simp; omega) (fun wl HS sSx dSx al => ?_)
    have isq : ∀ i ∈ [V.ref w3] ++ is0, HIdx (hid A HS) 2 16 i := fun i hi => by
      rcases List.mem_append.mp hi with h | h
      · rw [List.mem_singleton.mp h]; exact i1.ft (smFt (sV6.trans sSx))
      · exact (isp i h).ft (smFt (m6s.trans sSx))
    have sHS := (sV4.trans sV6).trans sSx
    -- the call again
    refine ⟨_, rfl, u3, _, 0, _, rfl, rfl, SqT.of (hid_of (sHS _ _ a7Q)).1, rfl, _, rfl, _, rfl, L10, rfl, ⟨_, SqL.of (hid_of (sHS _ _ a10Q)).1⟩, fun Le hLe => lc_gen (K := K) Wd (fun _ h => h) (sHS _ _ a10Q) (by omega) dSx hLe (fun x H Q hx s d qx => ?_) (fun HT ns0 sTx dTx aLe nsl nsp => ?_)⟩
    · obtain ⟨a, w, z, rfl, h1, h2, h3⟩ := (rspQ x hx).ft (smFt sHS)
      exact ⟨a, _, rfl, SqT.of (hid_of (s _ _ h1)).1, rfl, _, _, rfl, _, _, rfl, rfl, rfl, _, rfl, qx _ _ (Same.refl _) d ⟨w, rfl, h2⟩⟩
    obtain ⟨nss, rfl, nssg⟩ := wd_list nsp
    refine ⟨Le, _, rfl, .inl ⟨SqL.of (hid_of aLe).1, fun w6 hw6 => ⟨lb rfl, fun w7 hw7 => ?_⟩⟩⟩
    have m7s := dTx.sm (o := .tup (nss.map V.str)) hw6
    have m7d := dTx.new (o := .tup (nss.map V.str)) hw6
    have m7a := dTx.at_new (o := .tup (nss.map V.str)) hw6
    have m8s := m7d.sm (o := .tup [.str (S "call"), .str wf, .ref wl, .ref w6]) hw7
    have m8d := m7d.new (o := .tup [.str (S "call"), .str wf, .ref wl, .ref w6]) hw7
    have m8a := m7d.at_new (o := .tup [.str (S "call"), .str wf, .ref wl, .ref w6]) hw7
    have cal : HCal (hid A (upd (upd HT w6 (.tup (nss.map V.str))) w7 (.tup [.str (S "call"), .str wf, .ref wl, .ref w6]))) 40 (.ref w7) :=
      ⟨w7, wf, wl, w6, _, nss, rfl, m8a, gwf, ((sTx.trans m7s).trans m8s) _ _ al, by simp; omega, fun i hi => (isq i hi).ft (smFt ((sTx.trans m7s).trans m8s)), m8s _ _ m7a, by rw [List.length_map] at nsl; omega, nssg, Nat.le_refl _⟩
    have sU := (sHS.trans sTx).trans (m7s.trans m8s)
    generalize upd (upd HT w6 (.tup (nss.map V.str))) w7 (.tup [.str (S "call"), .str wf, .ref wl, .ref w6]) = HU at *
    -- the statement more
    refine ⟨_, rfl, lb rfl, fun o1 ho1 => ⟨lb rfl, fun o2 ho2 => ⟨lb rfl, fun o3 ho3 => ⟨_, rfl, lb rfl, fun o4 ho4 => ⟨lb rfl, fun o5 ho5 => ⟨lb rfl, fun o6 ho6 => ⟨lb rfl, fun o7 ho7 => ?_⟩⟩⟩⟩⟩⟩⟩
    have m9s := m8d.sm (o := .tup [.str (S "integer"), .int 0]) ho1
    have m9d := m8d.new (o := .tup [.str (S "integer"), .int 0]) ho1
    have m9a := m8d.at_new (o := .tup [.str (S "integer"), .int 0]) ho1
    have m10s := m9d.sm (o := .tup [.str (S "index"), .str (S "n0")]) ho2
    have m10d := m9d.new (o := .tup [.str (S "index"), .str (S "n0")]) ho2
    have m10a := m9d.at_new (o := .tup [.str (S "index"), .str (S "n0")]) ho2
    have m11s := m10d.sm (o := .tup [.str (S "less"), .ref o1, .ref o2]) ho3
    have m11d := m10d.new (o := .tup [.str (S "less"), .ref o1, .ref o2]) ho3
    have m11a := m10d.at_new (o := .tup [.str (S "less"), .ref o1, .ref o2]) ho3
    have m12s := m11d.sm (o := .tup [.ref w7]) ho4
    have m12d := m11d.new (o := .tup [.ref w7]) ho4
    have m12a := m11d.at_new (o := .tup [.ref w7]) ho4
    have m13s := m12d.sm (o := .tup []) ho5
    have m13d := m12d.new (o := .tup []) ho5
    have m13a := m12d.at_new (o := .tup []) ho5
    have m14s := m13d.sm (o := .tup [.str (S "if"), .ref o3, .ref o4, .ref o5]) ho6
    have m14d := m13d.new (o := .tup [.str (S "if"), .ref o3, .ref o4, .ref o5]) ho6
    have m14a := m13d.at_new (o := .tup [.str (S "if"), .ref o3, .ref o4, .ref o5]) ho6
    have m15s := m14d.sm (o := .tup [.ref o6]) ho7
    have m15d := m14d.new (o := .tup [.ref o6]) ho7
    have m15a := m14d.at_new (o := .tup [.ref o6]) ho7
    have s12x := (m10s.trans m11s).trans (((m12s.trans m13s).trans m14s).trans m15s)
    have s13x := ((m12s.trans m13s).trans m14s).trans m15s
    have sW9 := sU.trans (m9s.trans s12x)
    have tst : HTst (hid A _) 57 (.ref o3) := ⟨o3, _, rfl, s13x _ _ m11a, .inr (.inr ⟨S "less", .ref o1, .ref o2, rfl, by decide +kernel, HIdx.atom (by omega) (s12x _ _ m9a) (.inl ⟨0, rfl, num0⟩), HIdx.atom (by omega) ((m11s.trans s13x) _ _ m10a) (.inr (.inr ⟨S "n0", rfl, by decide +kernel⟩)), by omega⟩)⟩
    have bd1 := (m13s.trans (m14s.trans m15s)) _ _ m12a
    have bd2 := (m14s.trans m15s) _ _ m13a
    have if6 := m15s _ _ m14a
    have calx := cal.ft (smFt (m9s.trans s12x))
    refine catT m15d (sW9 _ _ y12a) m15a ?_ (by simp; omega) (fun pb HX sX dX ax => ?_)
    · intro z
      rw [z] at y12l
      simp at y12l
    have sXX := sW9.trans sX
    have xX : HBd (hid A HX) 2 4 (.ref pb) := ⟨pb, _, rfl, ax, ⟨by simp, by simp; omega⟩, fun x hx => by
      rcases List.mem_append.mp hx with h | h
      · exact HStm.ft (smFt sXX) (y12p x h)
      · rw [List.mem_singleton.mp h]
        refine HStm.ft (smFt sX) (.inr ⟨o6, _, rfl, if6, .inr (.inl ⟨.ref o3, .ref o4, .ref o5, 42, 0, rfl, tst, ⟨o4, _, 40, rfl, bd1, fun x hx => ?_, by simp⟩, ⟨o5, _, 0, rfl, bd2, fun x hx => absurd hx (by simp), by simp⟩, ?_⟩)⟩)
        · rw [List.mem_singleton.mp hx]; exact HStm.low (.inl calx)
        · rw [fS_vals.1]; omega⟩
    have PRW := sXX _ _ aPRQ
    refine ⟨_, rfl, .inl ⟨rfl, _, SqL.of (hid_of PRW).1⟩, _, rfl, u3, _, 0, _, rfl, rfl, SqT.of (hid_of (sXX _ _ a7Q)).1, rfl, _, rfl, L8, _, rfl, .inl ⟨SqL.of (hid_of (sXX _ _ a8Q)).1, fun q1 hq1 => ?_⟩⟩
    have k1x := dX.sm (o := .tup (nw.map V.str)) hq1
    have g1 := dX.new (o := .tup (nw.map V.str)) hq1
    have b1 := dX.at_new (o := .tup (nw.map V.str)) hq1
    refine ⟨_, rfl, L10, _, rfl, .inl ⟨SqL.of (hid_of (k1x _ _ (sXX _ _ a10Q))).1, fun q2 hq2 => ?_⟩⟩
    have k2 := g1.sm (o := .tup rs) hq2
    have g2 := g1.new (o := .tup rs) hq2
    have b2 := g1.at_new (o := .tup rs) hq2
    refine ⟨_, rfl, lb rfl, fun q3 hq3 => ?_⟩
    have k3 := g2.sm (o := .tup [.str wf, .ref q1, .ref q2, (.ref pb)]) hq3
    have g3 := g2.new (o := .tup [.str wf, .ref q1, .ref q2, (.ref pb)]) hq3
    have b3 := g2.at_new (o := .tup [.str wf, .ref q1, .ref q2, (.ref pb)]) hq3
    have sT := (k1x.trans k2).trans k3
    have PR3 := sT _ _ PRW
    refine ⟨_, _, _, rfl, rfl, (hid_of PR3).1, by rw [line_eq]; omega, ?_⟩
    have b1' := (k2.trans k3) _ _ b1
    have b2' := k3 _ _ b2
    have x3 := xX.ft (smFt sT)
    generalize upd (upd (upd HX q1 (.tup (nw.map V.str))) q2 (.tup rs)) q3 (.tup [.str wf, .ref q1, .ref q2, (.ref pb)]) = H3z at *
    have eZ : hid A (upd H3z PR (.lst (us ++ [.ref q3]))) = upd (hid A H3z) PR (.lst (us ++ [.ref q3])) := hid_new PA
    have eZ2 : hid PR (hid A (upd H3z PR (.lst (us ++ [.ref q3])))) = hid PR (hid A H3z) := by rw [eZ, hid_upd]
    have dZ : Dr D A (upd H3z PR (.lst (us ++ [.ref q3]))) := g3.put dr7 hPR
    have knZ : hid PR (hid A (upd H3z PR (.lst (us ++ [.ref q3])))) kn = some (.lst kvs) := by rw [eZ2]; exact hidS (sXX.trans sT) _ _ aknQ
    have KZ : ∀ v ∈ kvs, ∃ a w c sl, ∃ zs : List Int, v = .ref a ∧ hid PR (hid A (upd H3z PR (.lst (us ++ [.ref q3])))) a = some (.tup [.str w, .int c, .ref sl]) ∧ gw w ∧ 0 ≤ c ∧ c ≤ 2 ∧ hid PR (hid A (upd H3z PR (.lst (us ++ [.ref q3])))) sl = some (.lst (zs.map V.int)) ∧ zs.length ≤ 2 := fun v hv => by
      obtain ⟨a, w, c, sl, zs, e1, e2, e3, e4, e5, e6, e7⟩ := hKa v hv
      refine ⟨a, w, c, sl, zs, e1, ?_, e3, e4, e5, ?_, e7⟩
      · rw [eZ2]; exact hidS (sS.trans (sXX.trans sT)) _ _ e2
      · rw [eZ2]; exact hidS (sS.trans (sXX.trans sT)) _ _ e6
    have RZ : hid PR (hid A (upd H3z PR (.lst (us ++ [.ref q3])))) u3 = some (.tup [.str wf, .int ((nw.map V.str).length : Nat), .ref L13]) := by rw [eZ2, hid_ne u3PR]; exact (sXX.trans sT) _ _ a7Q
    have SZ : hid PR (hid A (upd H3z PR (.lst (us ++ [.ref q3])))) L13 = some (.lst (szs.map V.int)) := by rw [eZ2, hid_ne L13PR]; exact (sXX.trans sT) _ _ a13Q
    have PZ : hid A (upd H3z PR (.lst (us ++ [.ref q3]))) PR = some (.lst (us ++ [.ref q3])) := by rw [eZ, upd_same]
    have ftZ : Ft (hid A H3z) (hid A (upd H3z PR (.lst (us ++ [.ref q3])))) := by rw [eZ]; exact Ft.upd PR3 (fun _ z => nomatch z)
    have sZ : Same (hid A HP) (hid A (upd H3z PR (.lst (us ++ [.ref q3])))) := by rw [eZ]; exact Same.at_new ((sPQ.trans sXX).trans sT) (hid_none hPR)
    have UZ : ∀ u ∈ us ++ [V.ref q3], HPrc (hid A (upd H3z PR (.lst (us ++ [.ref q3])))) u := fun u hu => by
      rcases List.mem_append.mp hu with h | h
      · exact ((uspQ u h).ft (smFt (sXX.trans sT))).ft ftZ
      · rw [List.mem_singleton.mp h]
        refine HPrc.ft ftZ ⟨q3, wf, q1, q2, (.ref pb), nw.map V.str, rs, rfl, b3, gwf, b1', by rw [List.length_map]; exact nl2, fun s hs => ?_, b2', rsl, fun s hs => (rspQ s hs).ft (smFt (sXX.trans sT)), x3⟩
        obtain ⟨w, hw, rfl⟩ := List.mem_map.mp hs
        exact ⟨w, rfl, nwg w hw⟩
    generalize upd H3z PR (.lst (us ++ [.ref q3])) = HZ at *
    refine ⟨_, rfl, _, rfl, lb rfl, fun Lz hLz => ?_⟩
    have k4 := dZ.sm (o := .lst [.ref u3]) hLz
    have g4 := dZ.new (o := .lst [.ref u3]) hLz
    have b4 := dZ.at_new (o := .lst [.ref u3]) hLz
    refine ⟨kn, Lz, _, _, rfl, rfl, (hid_of (k4 _ _ (hid_of knZ).1)).1, upd_same, by rw [line_eq]; simp; omega, fun kn2 hkn2 => ?_⟩
    have k5 := g4.sm (o := .lst (kvs ++ [.ref u3])) hkn2
    have g5 := g4.new (o := .lst (kvs ++ [.ref u3])) hkn2
    have b5 := g4.at_new (o := .lst (kvs ++ [.ref u3])) hkn2
    have s45 := k4.trans k5
    have kn2PR : kn2 ≠ PR := fun z => by
      have := (hid_of (k4 _ _ PZ)).1
      rw [← z, hkn2] at this; cases this
    have akn2' : hid PR (hid A (upd (upd HZ Lz (.lst [.ref u3])) kn2 (.lst (kvs ++ [.ref u3])))) kn2 = some (.lst (kvs ++ [.ref u3])) := by rw [hid_ne kn2PR]; exact b5
    refine ⟨kn2, _, _, _, _, _, _, _, _, _, _, _, _, us ++ [.ref q3], kvs ++ [.ref u3], rfl, sZ.trans s45, g5, s45 _ _ PZ, by simp; omega, fun u hu => (UZ u hu).ft (smFt s45), akn2', by simp; omega, ⟨_, akn2', by simp; omega, fun v hv => ?_⟩⟩
    rcases List.mem_append.mp hv with h | h
    · obtain ⟨a, w, c, sl, zs, e1, e2, e3, e4, e5, e6, e7⟩ := KZ v h
      exact ⟨a, w, c, sl, zs, e1, hidS s45 _ _ e2, e3, e4, e5, hidS s45 _ _ e6, e7⟩
    · rw [List.mem_singleton.mp h]
      exact ⟨u3, wf, _, L13, szs, rfl, hidS s45 _ _ RZ, gwf, by omega, by simp; omega, hidS s45 _ _ SZ, by rw [List.length_map] at svl; omega⟩
  · obtain ⟨kn, z7, z8, z9, z10, z11, z12, z13, z14, z15, z16, z17, z18, us, kvs, rfl, sP, dH, aPRk, usl, usp, akn, kvl, hK⟩ := h
    have xpH : ∀ v ∈ xs, Pr (hid A H) v := fun v hv => (xp3' v hv).ft (smFt sP)
    refine ⟨_, rfl, L3, rfl, ⟨_, SqL.of (hid_of (sP _ _ aL3')).1⟩, fun M1 hM1 => pair_trip (K := K) (b := false) (sP _ _ aL3') (by omega) xpH dH hM1 (fun w z H Q g1 g2 qx => ⟨_, rfl, _, rfl, lb rfl, qx⟩) (fun HI vr sI dI a11 vrl vrp => ?_)⟩
    have a6I := (sP.trans sI) _ _ aL6'
    refine ⟨_, rfl, M1, L6, _, _, rfl, rfl, (hid_of a11).1, (hid_of a6I).1, by rw [line_eq]; omega, fun M2 hM2 => ?_⟩
    have c1 := dI.sm (o := .lst (vr ++ fx)) hM2
    have f1 := dI.new (o := .lst (vr ++ fx)) hM2
    have b1 := dI.at_new (o := .lst (vr ++ fx)) hM2
    refine ⟨_, rfl, lb rfl, fun M3 hM3 => ?_⟩
    have c2 := f1.sm (o := .lst []) hM3
    have f2 := f1.new (o := .lst []) hM3
    have b2 := f1.at_new (o := .lst []) hM3
    have sM := (sI.trans c1).trans c2
    have gin : Gin D A M2 M3 kn 3 (upd (upd HI M2 (.lst (vr ++ fx))) M3 (.lst [])) := by
      refine ⟨f2, ?_, ⟨[], b2, by simp, fun _ h => nomatch h⟩, (hK.sm hid_sub).sm sM, by omega⟩
      have vn : vr ≠ [] := fun z => by
        rw [z] at vrl
        exact xn (List.length_eq_zero_iff.mp vrl.symm)
      obtain ⟨v0, vt, ev⟩ := List.exists_cons_of_ne_nil vn
      obtain ⟨a0, w0, z0, e0, e1, _⟩ := (vrp v0 (by rw [ev]; simp)).ft (smFt (c1.trans c2))
      refine ⟨vr ++ fx, c2 _ _ b1, by simp; omega, fun v hv => ?_, v0, by rw [ev]; simp, a0, w0, z0, e0, e1⟩
      rcases List.mem_append.mp hv with h | h
      · obtain ⟨a, w, z, e0, e1, e2⟩ := (vrp v h).ft (smFt (c1.trans c2))
        exact ⟨a, w, z, false, e0, e1, e2⟩
      · obtain ⟨a, w, z, e0, e1, e2⟩ := (fxp' v h).ft (smFt (sP.trans sM))
        exact ⟨a, w, z, true, e0, e1, e2⟩
    refine ⟨_, rfl, _, rfl, _, rfl, M2, M3, kn, D, A, rfl, gin, fun vb HQ sQ dQ xb => ?_⟩
    have sR := sM.trans sQ
    refine ⟨_, rfl, L3, _, rfl, .inl ⟨SqL.of (hid_of ((sP.trans sR) _ _ aL3')).1, fun g1 hg1 => ?_⟩⟩
    have c3 := dQ.sm (o := .tup xs) hg1
    have f3 := dQ.new (o := .tup xs) hg1
    have b3 := dQ.at_new (o := .tup xs) hg1
    refine ⟨_, rfl, L5, _, rfl, .inl ⟨SqL.of (hid_of (((sP.trans sR).trans c3) _ _ aL5')).1, fun g2 hg2 => ?_⟩⟩
    have c4 := f3.sm (o := .tup ys) hg2
    have f4 := f3.new (o := .tup ys) hg2
    have b4 := f3.at_new (o := .tup ys) hg2
    refine ⟨_, rfl, PR, _, rfl, .inl ⟨SqL.of (hid_of (((sR.trans c3).trans c4) _ _ aPRk)).1, fun g3 hg3 => ?_⟩⟩
    have c5 := f4.sm (o := .tup us) hg3
    have f5 := f4.new (o := .tup us) hg3
    have b5 := f4.at_new (o := .tup us) hg3
    refine ⟨_, rfl, lb rfl, fun p hp => ?_⟩
    have c6 := f5.sm (o := .tup [.ref g1, .ref g2, .ref g3, vb]) hp
    have s36 := ((c3.trans c4).trans c5).trans c6
    have sAll := ((sF.trans sP).trans sR).trans s36
    exact q _ _ sAll (f5.new hp) ⟨p, g1, g2, g3, vb, xs, ys, us, rfl, f5.at_new hp, ((c4.trans c5).trans c6) _ _ b3, xl, fun s hs => (xpH s hs).ft (smFt (sR.trans s36)), (c5.trans c6) _ _ b4, yl, fun s hs => (yp5' s hs).ft (smFt ((sP.trans sR).trans s36)), c6 _ _ b5, by omega, fun s hs => (usp s hs).ft (smFt (sR.trans s36)), xb.ft (smFt s36)⟩
end
end K10
set_option maxHeartbeats 16000000
/-! K10Gen6: the words of a tree. Printed by expand.py from K10Gen6.tpl. -/
namespace K10
open PySem PySem.Spec PyProof.Rows L2
/-- a list of words, n at most -/
def WL (H : Hp) (n : Nat) (p : Addr) : Prop := ∃ ws : List Str, H p = some (.lst (ws.map V.str)) ∧ ws.length ≤ n ∧ ∀ w ∈ ws, gw w
theorem WL.same {H H' : Hp} {n : Nat} {p : Addr} (h : WL H n p) (s : Same H H') : WL H' n p := by
  obtain ⟨ws, h1, h2⟩ := h
  exact ⟨ws, s _ _ h1, h2⟩
theorem WL.le {H : Hp} {n m : Nat} {p : Addr} (h : WL H n p) (l : n ≤ m) : WL H m p := by
  obtain ⟨ws, h1, h2, h3⟩ := h
  exact ⟨ws, h1, by omega, h3⟩
theorem WL.mk {H : Hp} {p : Addr} {n : Nat} (ws : List Str) (hg : ∀ w ∈ ws, gw w) (hn : ws.length ≤ n) : WL (upd H p (.lst (ws.map V.str))) n p := ⟨ws, upd_same, hn, hg⟩
theorem catW {H : Hp} {n m : Nat} {a b : Addr} {Q : VK} (ha : WL H n a) (hb : WL H m b) (hn : n + m ≤ 1000000) (q : ∀ p H', Same H H' → WL H' (n + m) p → Q (.ref p) H') : rCat (.ref a) (.ref b) H Q := by
  obtain ⟨ws, h1, h2, h3⟩ := ha
  obtain ⟨us, k1, k2, k3⟩ := hb
  refine ⟨a, b, _, _, rfl, rfl, h1, k1, by rw [line_eq, List.length_map, List.length_map]; omega, fun p hp => q _ _ (sameNew hp) ⟨ws ++ us, by rw [upd_same, List.map_append], by rw [List.length_append]; omega, fun w hw => ?_⟩⟩
  rcases List.mem_append.mp hw with h | h
  · exact h3 w h
  · exact k3 w h
theorem g_op : gw (S "(") := by decide +kernel
theorem g_cp : gw (S ")") := by decide +kernel
theorem gw_n {n : Int} (h : numOk n) : gw (Str.ofString (toString n)) := by
  obtain ⟨a, b⟩ := gw_num h.1 (by have := h.2; have e : (10 : Int) ^ 10 = 10000000000 := by decide
                                  omega)
  exact ⟨by omega, b⟩
theorem log_n {n : Int} (h : numOk n) : n.natAbs.log2 < 1920 := log_small h.1 (by have := h.2; have e : (10 : Int) ^ 10 = 10000000000 := by decide
                                                                                  omega)
theorem all1 {a : Str} (h : gw a) : ∀ w ∈ [a], gw w := fun w hw => by rw [List.mem_singleton.mp hw]; exact h
theorem all2 {a b : Str} (h : gw a) (h2 : gw b) : ∀ w ∈ [a, b], gw w := fun w hw => by
  rcases List.mem_cons.mp hw with rfl | hw
  · exact h
  · exact all1 h2 w hw
theorem all3 {a b c : Str} (h : gw a) (h2 : gw b) (h3 : gw c) : ∀ w ∈ [a, b, c], gw w := fun w hw => by
  rcases List.mem_cons.mp hw with rfl | hw
  · exact h
  · exact all2 h2 h3 w hw
section
variable {P : Program} {w : World} {K : PySem.W.Frag} {mg : Str → Option Value} {base : Heap}
def nLawIndexText : List Str := ["_law_index_here", "_law_op"]
def pLawIndexText : List Str := ["_law_index_here"]
theorem scLawIndexText : FnScope nLawIndexText pLawIndexText (defScope sLawIndexText) := ⟨rfl, rfl, rfl, by decide +kernel, rfl, by decide +kernel, by decide +kernel⟩
theorem bLawIndexText : BindsBy "_law_index_text" sLawIndexText pLawIndexText := fun _ _ _ _ _ _ us hl => match us, hl with | [_], _ => rfl
def nLawPlaceText : List Str := ["_law_name_here", "_law_index_here"]
def pLawPlaceText : List Str := ["_law_name_here", "_law_index_here"]
theorem scLawPlaceText : FnScope nLawPlaceText pLawPlaceText (defScope sLawPlaceText) := ⟨rfl, rfl, rfl, by decide +kernel, rfl, by decide +kernel, by decide +kernel⟩
theorem bLawPlaceText : BindsBy "_law_place_text" sLawPlaceText pLawPlaceText := fun _ _ _ _ _ _ us hl => match us, hl with | [_, _], _ => rfl
def nLawExpressionText : List Str := ["_law_expression_here", "_law_op"]
def pLawExpressionText : List Str := ["_law_expression_here"]
theorem scLawExpressionText : FnScope nLawExpressionText pLawExpressionText (defScope sLawExpressionText) := ⟨rfl, rfl, rfl, by decide +kernel, rfl, by decide +kernel, by decide +kernel⟩
theorem bLawExpressionText : BindsBy "_law_expression_text" sLawExpressionText pLawExpressionText := fun _ _ _ _ _ _ us hl => match us, hl with | [_], _ => rfl
def nLawTestText : List Str := ["_law_test_here"]
def pLawTestText : List Str := ["_law_test_here"]
theorem scLawTestText : FnScope nLawTestText pLawTestText (defScope sLawTestText) := ⟨rfl, rfl, rfl, by decide +kernel, rfl, by decide +kernel, by decide +kernel⟩
theorem bLawTestText : BindsBy "_law_test_text" sLawTestText pLawTestText := fun _ _ _ _ _ _ us hl => match us, hl with | [_], _ => rfl
def spTIdx (d : Nat) : Sp := fun vs H Q _ => ∃ v n, vs = [v] ∧ HIdx H d n v ∧ n ≤ 1000000 ∧ ∀ p H', Same H H' → WL H' n p → Q (.ref p) H'
theorem tidx_step (F : Facts w K mg) (d : Nat) (h__law_index_text : Has P w K mg base CX0 (d + 1) "_law_index_text" pLawIndexText (fun vs H Q E => ∃ d', d = d' + 1 ∧ spTIdx d' vs H Q E)) : Has P w K mg base CX0 (d + 2) "_law_index_text" pLawIndexText (spTIdx d) := by
  refine has_0 F.g__law_index_text F.f__law_index_text scLawIndexText bLawIndexText (fun vs H Q E h => by obtain ⟨_, _, rfl, _⟩ := h; rfl) fun cdv A' outer s H vs Q E hr h => ?_
  obtain ⟨v, n, rfl, hv, hn, q⟩ := h
  refine ⟨_, (pss_cons (ps_set (i := 1) scLawIndexText.nd rfl (Or.inl rfl) (pe_ix ix_tup (pv 0) pe_int (fun _ _ => rfl)))
    (pss_cons (ps_if (pt_cmpR op_eq (pv 1) pe_str (nomark _)) (pss_one (ps_ret (pe_lst (pa_cons (pe_callTy call_str_int (by rfl) F.z_str (by decide +kernel) (pa_cons (pe_ix ix_tup (pv 0) pe_int (fun _ _ => rfl)) pa_nil)) pa_nil))))
      pss_nil)
    (pss_cons (ps_if (pt_cmpR op_eq (pv 1) pe_str (nomark _)) (pss_one (ps_ret (pe_lst (pa_cons (pe_ix ix_tup (pv 0) pe_int (fun _ _ => rfl)) pa_nil))))
      pss_nil)
    (pss_cons (ps_if (pt_cmpR op_eq (pv 1) pe_str (nomark _)) (pss_one (ps_ret (pe_lst (pa_cons pe_str pa_nil))))
      pss_nil)
    (pss_cons (ps_if (pt_cmpR op_eq (pv 1) pe_str (nomark _)) (pss_one (ps_ret (pe_op op_cat (pe_op op_cat (pe_lst (pa_cons pe_str (pa_cons pe_str pa_nil))) (pe_callH h__law_index_text hr (by omega) rfl pass0 (pa_cons (pe_ix ix_tup (pv 0) pe_int (fun _ _ => rfl)) pa_nil))) (pe_lst (pa_cons (pe_callTy call_str_int (by rfl) F.z_str (by decide +kernel) (pa_cons (pe_ix ix_tup (pv 0) pe_int (fun _ _ => rfl)) pa_nil)) (pa_cons pe_str pa_nil))))))
      pss_nil)
    (pss_one (ps_ret (pe_op op_cat (pe_op op_cat (pe_op op_cat (pe_lst (pa_cons pe_str (pa_cons (pv 1) pa_nil))) (pe_callH h__law_index_text hr (by omega) rfl pass0 (pa_cons (pe_ix ix_tup (pv 0) pe_int (fun _ _ => rfl)) pa_nil))) (pe_callH h__law_index_text hr (by omega) rfl pass0 (pa_cons (pe_ix ix_tup (pv 0) pe_int (fun _ _ => rfl)) pa_nil))) (pe_lst (pa_cons pe_str pa_nil)))))))))), ?_⟩
  have split : ∃ a xs, v = .ref a ∧ H a = some (.tup xs) ∧ 1 ≤ n ∧ (((∃ i, xs = [.str (S "integer"), .int i] ∧ numOk i) ∨ xs = [.str (S "beat")] ∨ ∃ w, xs = [.str (S "index"), .str w] ∧ gw w) ∨
      (∃ d', d = d' + 1 ∧ ((∃ b k n1, xs = [.str (S "rem"), b, .int k] ∧ numOk k ∧ HIdx H d' n1 b ∧ n1 + 4 ≤ n) ∨
      ∃ o b c n1 n2, xs = [.str o, b, c] ∧ o ∈ [S "plus", S "minus", S "times"] ∧ HIdx H d' n1 b ∧ HIdx H d' n2 c ∧ n1 + n2 + 3 ≤ n))) := by
    cases d with
    | zero => obtain ⟨h1, a, xs, h2, h3, h4⟩ := hv; exact ⟨a, xs, h2, h3, h1, .inl h4⟩
    | succ d =>
      obtain ⟨h1, a, xs, h2, h3, h4⟩ := hv
      refine ⟨a, xs, h2, h3, h1, ?_⟩
      rcases h4 with h4 | h4
      · exact .inl h4
      · exact .inr ⟨d, rfl, h4⟩
  obtain ⟨a, xs, rfl, ha, n1, hx⟩ := split
  rcases hx with (⟨i, rfl, hi⟩ | rfl | ⟨w, rfl, hw⟩) | ⟨d', rfl, (⟨b, k, m1, rfl, hk, hb, hl⟩ | ⟨o, b, c, m1, m2, rfl, ho, hb, hc, hl⟩)⟩
  · refine ⟨_, rfl, a, _, 0, _, rfl, rfl, SqT.of ha, rfl, _, rfl, rfl, _, rfl, iteT ⟨_, rfl, a, _, 1, _, rfl, rfl, SqT.of ha, rfl, _, rfl, log_n hi, lb rfl, fun p hp => ?_⟩⟩
    exact q _ _ (sameNew hp) (WL.mk [_] (all1 (gw_n hi)) n1)
  · refine ⟨_, rfl, a, _, 0, _, rfl, rfl, SqT.of ha, rfl, _, rfl, rfl, _, rfl, iteF ⟨_, rfl, rfl, _, rfl, iteF ⟨_, rfl, rfl, _, rfl, iteT ⟨lb rfl, fun p hp => ?_⟩⟩⟩⟩
    exact q _ _ (sameNew hp) (WL.mk [_] (all1 (by decide +kernel)) n1)
  · refine ⟨_, rfl, a, _, 0, _, rfl, rfl, SqT.of ha, rfl, _, rfl, rfl, _, rfl, iteF ⟨_, rfl, rfl, _, rfl, iteT ⟨_, rfl, a, _, 1, _, rfl, rfl, SqT.of ha, rfl, lb rfl, fun p hp => ?_⟩⟩⟩
    exact q _ _ (sameNew hp) (WL.mk [_] (all1 hw) n1)
  · refine ⟨_, rfl, a, _, 0, _, rfl, rfl, SqT.of ha, rfl, _, rfl, rfl, _, rfl, iteF ⟨_, rfl, rfl, _, rfl, iteF ⟨_, rfl, rfl, _, rfl, iteF ⟨_, rfl, rfl, _, rfl, iteT ⟨lb rfl, fun p hp => ?_⟩⟩⟩⟩⟩
    have s1 := sameNew (o := .lst ([S "(", S "rem"].map V.str)) hp
    have w1 := WL.mk (H := H) (p := p) (n := 2) [S "(", S "rem"] (all2 g_op (by decide +kernel)) (Nat.le_refl _)
    refine ⟨_, rfl, a, _, 1, _, rfl, rfl, SqT.of (s1 _ _ ha), rfl, d', rfl, b, m1, rfl, hb.ft (frS s1).ft, by omega, fun p2 H2 s2 w2 => ?_⟩
    refine catW (w1.same s2) w2 (by omega) (fun p3 H3 s3 w3 => ?_)
    refine ⟨_, rfl, a, _, 2, _, rfl, rfl, SqT.of (((s1.trans s2).trans s3) _ _ ha), rfl, _, rfl, log_n hk, lb rfl, fun p4 hp4 => ?_⟩
    have w4 := WL.mk (H := H3) (p := p4) (n := 2) [Str.ofString (toString k), S ")"] (all2 (gw_n hk) g_cp) (Nat.le_refl _)
    exact catW (w3.same (sameNew hp4)) w4 (by omega) (fun p5 H5 s5 w5 => q _ _ ((((s1.trans s2).trans s3).trans (sameNew hp4)).trans s5) (w5.le (by omega)))
  · have ne : ¬ o = S "integer" ∧ ¬ o = S "index" ∧ ¬ o = S "beat" ∧ ¬ o = S "rem" ∧ gw o := by
      simp only [List.mem_cons, List.not_mem_nil, or_false] at ho
      rcases ho with rfl | rfl | rfl <;> decide +kernel
    have f0 : ∀ s : Str, ¬ o = s → decide (V.str o = V.str s) = false := fun s h => by rw [str_eq]; exact decide_eq_false h
    refine ⟨_, rfl, a, _, 0, _, rfl, rfl, SqT.of ha, rfl, _, rfl, rfl, _, rfl, ?_⟩
    rw [f0 _ ne.1]
    refine iteF ⟨_, rfl, rfl, _, rfl, ?_⟩
    rw [f0 _ ne.2.1]
    refine iteF ⟨_, rfl, rfl, _, rfl, ?_⟩
    rw [f0 _ ne.2.2.1]
    refine iteF ⟨_, rfl, rfl, _, rfl, ?_⟩
    rw [f0 _ ne.2.2.2.1]
    refine iteF ⟨_, rfl, lb rfl, fun p hp => ?_⟩
    have s1 := sameNew (o := .lst ([S "(", o].map V.str)) hp
    have w1 := WL.mk (H := H) (p := p) (n := 2) [S "(", o] (all2 g_op ne.2.2.2.2) (Nat.le_refl _)
    refine ⟨_, rfl, a, _, 1, _, rfl, rfl, SqT.of (s1 _ _ ha), rfl, d', rfl, b, m1, rfl, hb.ft (frS s1).ft, by omega, fun p2 H2 s2 w2 => ?_⟩
    refine catW (w1.same s2) w2 (by omega) (fun p3 H3 s3 w3 => ?_)
    have s13 := (s1.trans s2).trans s3
    refine ⟨_, rfl, a, _, 2, _, rfl, rfl, SqT.of (s13 _ _ ha), rfl, d', rfl, c, m2, rfl, hc.ft (frS s13).ft, by omega, fun p4 H4 s4 w4 => ?_⟩
    refine catW (w3.same s4) w4 (by omega) (fun p5 H5 s5 w5 => ⟨lb rfl, fun p6 hp6 => ?_⟩)
    have w6 := WL.mk (H := H5) (p := p6) (n := 1) [S ")"] (all1 g_cp) (Nat.le_refl _)
    exact catW (w5.same (sameNew hp6)) w6 (by omega) (fun p7 H7 s7 w7 => q _ _ ((((s13.trans s4).trans s5).trans (sameNew hp6)).trans s7) (w7.le (by omega)))
theorem has__law_index_text (F : Facts w K mg) : ∀ d : Nat, Has P w K mg base CX0 (d + 2) "_law_index_text" pLawIndexText (spTIdx d)
  | 0 => tidx_step F 0 (has_0 (k := 0) F.g__law_index_text F.f__law_index_text scLawIndexText bLawIndexText (fun vs H Q E h => by obtain ⟨_, h, _⟩ := h; omega) fun cdv A' outer s H vs Q E hr h => by obtain ⟨_, h, _⟩ := h; omega)
  | d + 1 => tidx_step F (d + 1) ((has__law_index_text F d).imp fun vs H Q E h => by obtain ⟨d', e, h⟩ := h; rw [Nat.succ.inj e]; exact h)
def spTPlc : Sp := fun vs H Q _ => ∃ v x n, vs = [v, x] ∧ HPlc H n v x ∧ n ≤ 1000000 ∧ ∀ p H', Same H H' → WL H' n p → Q (.ref p) H'
theorem has__law_place_text (F : Facts w K mg) : Has P w K mg base CX0 6 "_law_place_text" pLawPlaceText spTPlc := by
  have h__law_index_text := has__law_index_text (P := P) (base := base) F 3
  refine has_0 F.g__law_place_text F.f__law_place_text scLawPlaceText bLawPlaceText (fun vs H Q E h => by obtain ⟨_, _, _, rfl, _⟩ := h; rfl) fun cdv A' outer s H vs Q E hr h => ?_
  obtain ⟨v, x, n, rfl, ⟨w, rfl, gw', hx⟩, hn, q⟩ := h
  refine ⟨_, (pss_cons (ps_if (pt_cmpR op_isN (pv 1) pe_non (nomark _)) (pss_one (ps_ret (pe_lst (pa_cons (pv 0) pa_nil))))
      pss_nil)
    (pss_one (ps_ret (pe_op op_cat (pe_op op_cat (pe_lst (pa_cons pe_str (pa_cons pe_str (pa_cons (pv 0) pa_nil)))) (pe_callH h__law_index_text hr (by omega) rfl pass0 (pa_cons (pv 1) pa_nil))) (pe_lst (pa_cons pe_str pa_nil)))))), ?_⟩
  rcases hx with ⟨rfl, h1⟩ | ⟨n1, hx, h1⟩
  · refine ⟨_, rfl, rfl, _, rfl, iteT ⟨_, rfl, lb rfl, fun p hp => ?_⟩⟩
    exact q _ _ (sameNew hp) (WL.mk [_] (all1 gw') h1)
  · have nx : decide (x = V.non) = false := by
      obtain ⟨_, a, xs, rfl, _⟩ := hx
      rfl
    refine ⟨_, rfl, rfl, _, rfl, ?_⟩
    rw [nx]
    refine iteF ⟨_, rfl, lb rfl, fun p hp => ?_⟩
    have s1 := sameNew (o := .lst ([S "(", S "at", w].map V.str)) hp
    have w1 := WL.mk (H := H) (p := p) (n := 3) [S "(", S "at", w] (all3 g_op (by decide +kernel) gw') (Nat.le_refl _)
    refine ⟨_, rfl, x, n1, rfl, hx.ft (frS s1).ft, by omega, fun p2 H2 s2 w2 => ?_⟩
    refine catW (w1.same s2) w2 (by omega) (fun p3 H3 s3 w3 => ⟨lb rfl, fun p4 hp4 => ?_⟩)
    have w4 := WL.mk (H := H3) (p := p4) (n := 1) [S ")"] (all1 g_cp) (Nat.le_refl _)
    exact catW (w3.same (sameNew hp4)) w4 (by omega) (fun p5 H5 s5 w5 => q _ _ ((((s1.trans s2).trans s3).trans (sameNew hp4)).trans s5) (w5.le (by omega)))
def spTExp (d : Nat) : Sp := fun vs H Q _ => ∃ v n, vs = [v] ∧ HExp H d n v ∧ n ≤ 1000000 ∧ ∀ p H', Same H H' → WL H' n p → Q (.ref p) H'
theorem texp_step (F : Facts w K mg) (d : Nat) (h__law_expression_text : Has P w K mg base CX0 (d + 6) "_law_expression_text" pLawExpressionText (fun vs H Q E => ∃ d', d = d' + 1 ∧ spTExp d' vs H Q E)) : Has P w K mg base CX0 (d + 7) "_law_expression_text" pLawExpressionText (spTExp d) := by
  have h__law_place_text := has__law_place_text (P := P) (base := base) F
  refine has_0 (k := d + 6) F.g__law_expression_text F.f__law_expression_text scLawExpressionText bLawExpressionText (fun vs H Q E h => by obtain ⟨_, _, rfl, _⟩ := h; rfl) fun cdv A' outer s H vs Q E hr h => ?_
  obtain ⟨v, n, rfl, hv, hn, q⟩ := h
  refine ⟨_, (pss_cons (ps_set (i := 1) scLawExpressionText.nd rfl (Or.inl rfl) (pe_ix ix_tup (pv 0) pe_int (fun _ _ => rfl)))
    (pss_cons (ps_if (pt_cmpR op_eq (pv 1) pe_str (nomark _)) (pss_one (ps_ret (pe_lst (pa_cons (pe_callTy call_str_int (by rfl) F.z_str (by decide +kernel) (pa_cons (pe_ix ix_tup (pv 0) pe_int (fun _ _ => rfl)) pa_nil)) pa_nil))))
      pss_nil)
    (pss_cons (ps_if (pt_cmpR op_eq (pv 1) pe_str (nomark _)) (pss_one (ps_ret (pe_callH h__law_place_text hr (by omega) rfl pass0 (pa_cons (pe_ix ix_tup (pv 0) pe_int (fun _ _ => rfl)) (pa_cons (pe_ix ix_tup (pv 0) pe_int (fun _ _ => rfl)) pa_nil)))))
      pss_nil)
    (pss_one (ps_ret (pe_op op_cat (pe_op op_cat (pe_op op_cat (pe_lst (pa_cons pe_str (pa_cons (pv 1) pa_nil))) (pe_callH h__law_expression_text hr (by omega) rfl pass0 (pa_cons (pe_ix ix_tup (pv 0) pe_int (fun _ _ => rfl)) pa_nil))) (pe_callH h__law_expression_text hr (by omega) rfl pass0 (pa_cons (pe_ix ix_tup (pv 0) pe_int (fun _ _ => rfl)) pa_nil))) (pe_lst (pa_cons pe_str pa_nil)))))))), ?_⟩
  have split : ∃ a xs, v = .ref a ∧ H a = some (.tup xs) ∧ 1 ≤ n ∧ (((∃ i, xs = [.str (S "number"), .int i] ∧ numOk i) ∨ ∃ w x, xs = [.str (S "place"), w, x] ∧ HPlc H n w x) ∨
      (∃ d', d = d' + 1 ∧ ∃ o b c n1 n2, xs = [.str o, b, c] ∧ o ∈ [S "add", S "mul", S "sub", S "div"] ∧ HExp H d' n1 b ∧ HExp H d' n2 c ∧ n1 + n2 + 3 ≤ n)) := by
    cases d with
    | zero => obtain ⟨h1, a, xs, h2, h3, h4⟩ := hv; exact ⟨a, xs, h2, h3, h1, .inl h4⟩
    | succ d =>
      obtain ⟨h1, a, xs, h2, h3, h4⟩ := hv
      refine ⟨a, xs, h2, h3, h1, ?_⟩
      rcases h4 with h4 | h4
      · exact .inl h4
      · exact .inr ⟨d, rfl, h4⟩
  obtain ⟨a, xs, rfl, ha, n1, hx⟩ := split
  rcases hx with (⟨i, rfl, hi⟩ | ⟨w, x, rfl, hp⟩) | ⟨d', rfl, o, b, c, m1, m2, rfl, ho, hb, hc, hl⟩
  · refine ⟨_, rfl, a, _, 0, _, rfl, rfl, SqT.of ha, rfl, _, rfl, rfl, _, rfl, iteT ⟨_, rfl, a, _, 1, _, rfl, rfl, SqT.of ha, rfl, _, rfl, log_n hi, lb rfl, fun p hp => ?_⟩⟩
    exact q _ _ (sameNew hp) (WL.mk [_] (all1 (gw_n hi)) n1)
  · exact ⟨_, rfl, a, _, 0, _, rfl, rfl, SqT.of ha, rfl, _, rfl, rfl, _, rfl, iteF ⟨_, rfl, rfl, _, rfl, iteT ⟨_, rfl, a, _, 1, _, rfl, rfl, SqT.of ha, rfl, _, rfl, a, _, 2, _, rfl, rfl, SqT.of ha, rfl, w, x, n, rfl, hp, hn, q⟩⟩⟩
  · have ne : ¬ o = S "number" ∧ ¬ o = S "place" ∧ gw o := by
      simp only [List.mem_cons, List.not_mem_nil, or_false] at ho
      rcases ho with rfl | rfl | rfl | rfl <;> decide +kernel
    have f0 : ∀ s : Str, ¬ o = s → decide (V.str o = V.str s) = false := fun s h => by rw [str_eq]; exact decide_eq_false h
    refine ⟨_, rfl, a, _, 0, _, rfl, rfl, SqT.of ha, rfl, _, rfl, rfl, _, rfl, ?_⟩
    rw [f0 _ ne.1]
    refine iteF ⟨_, rfl, rfl, _, rfl, ?_⟩
    rw [f0 _ ne.2.1]
    refine iteF ⟨_, rfl, lb rfl, fun p hp => ?_⟩
    have s1 := sameNew (o := .lst ([S "(", o].map V.str)) hp
    have w1 := WL.mk (H := H) (p := p) (n := 2) [S "(", o] (all2 g_op ne.2.2) (Nat.le_refl _)
    refine ⟨_, rfl, a, _, 1, _, rfl, rfl, SqT.of (s1 _ _ ha), rfl, d', rfl, b, m1, rfl, hb.ft (frS s1).ft, by omega, fun p2 H2 s2 w2 => ?_⟩
    refine catW (w1.same s2) w2 (by omega) (fun p3 H3 s3 w3 => ?_)
    have s13 := (s1.trans s2).trans s3
    refine ⟨_, rfl, a, _, 2, _, rfl, rfl, SqT.of (s13 _ _ ha), rfl, d', rfl, c, m2, rfl, hc.ft (frS s13).ft, by omega, fun p4 H4 s4 w4 => ?_⟩
    refine catW (w3.same s4) w4 (by omega) (fun p5 H5 s5 w5 => ⟨lb rfl, fun p6 hp6 => ?_⟩)
    have w6 := WL.mk (H := H5) (p := p6) (n := 1) [S ")"] (all1 g_cp) (Nat.le_refl _)
    exact catW (w5.same (sameNew hp6)) w6 (by omega) (fun p7 H7 s7 w7 => q _ _ ((((s13.trans s4).trans s5).trans (sameNew hp6)).trans s7) (w7.le (by omega)))
theorem has__law_expression_text (F : Facts w K mg) : ∀ d : Nat, Has P w K mg base CX0 (d + 7) "_law_expression_text" pLawExpressionText (spTExp d)
  | 0 => texp_step F 0 (has_0 (k := 5) F.g__law_expression_text F.f__law_expression_text scLawExpressionText bLawExpressionText (fun vs H Q E h => by obtain ⟨_, h, _⟩ := h; omega) fun cdv A' outer s H vs Q E hr h => by obtain ⟨_, h, _⟩ := h; omega)
  | d + 1 => texp_step F (d + 1) ((has__law_expression_text F d).imp fun vs H Q E h => by obtain ⟨d', e, h⟩ := h; rw [Nat.succ.inj e]; exact h)
end
end K10
/-! K10Gen7: the words of a tree: tests, statements, bodies. Printed by expand.py from K10Gen7.tpl. -/
namespace K10
open PySem PySem.Spec PyProof.Rows L2
section
variable {P : Program} {w : World} {K : PySem.W.Frag} {mg : Str → Option Value} {base : Heap}
def nLawStatementText : List Str := ["_law_statement_here", "_law_op", "_law_words_here", "_law_index_here"]
def pLawStatementText : List Str := ["_law_statement_here"]
theorem scLawStatementText : FnScope nLawStatementText pLawStatementText (defScope sLawStatementText) := ⟨rfl, rfl, rfl, by decide +kernel, rfl, by decide +kernel, by decide +kernel⟩
theorem bLawStatementText : BindsBy "_law_statement_text" sLawStatementText pLawStatementText := fun _ _ _ _ _ _ us hl => match us, hl with | [_], _ => rfl
def nLawBodyText : List Str := ["_law_body_here", "_law_words_here", "_law_statement_here"]
def pLawBodyText : List Str := ["_law_body_here"]
theorem scLawBodyText : FnScope nLawBodyText pLawBodyText (defScope sLawBodyText) := ⟨rfl, rfl, rfl, by decide +kernel, rfl, by decide +kernel, by decide +kernel⟩
theorem bLawBodyText : BindsBy "_law_body_text" sLawBodyText pLawBodyText := fun _ _ _ _ _ _ us hl => match us, hl with | [_], _ => rfl
def spTZero : Sp := fun vs H Q _ => ∃ t e, vs = [.ref t] ∧ H t = some (.tup [.str (S "zero"), e]) ∧ HExp H 1 51 e ∧ ∀ p H', Same H H' → WL H' 54 p → Q (.ref p) H'
theorem ttst_zero (F : Facts w K mg) : Has P w K mg base CX0 10 "_law_test_text" pLawTestText spTZero := by
  have h__law_expression_text := has__law_expression_text (P := P) (base := base) F 1
  have h__law_index_text := has__law_index_text (P := P) (base := base) F 1
  have h__law_test_text : Has P w K mg base CX0 1 "_law_test_text" pLawTestText (fun _ _ _ _ => False) := has_0 (k := 0) F.g__law_test_text F.f__law_test_text scLawTestText bLawTestText (fun vs H Q E h => h.elim) fun cdv A' outer s H vs Q E hr h => h.elim
  refine has_0 (k := 9) F.g__law_test_text F.f__law_test_text scLawTestText bLawTestText (fun vs H Q E h => by obtain ⟨_, _, rfl, _⟩ := h; rfl) fun cdv A' outer s H vs Q E hr h => ?_
  obtain ⟨t, e, rfl, ht, he, q⟩ := h
  refine ⟨_, (pss_cons (ps_if (pt_cmpR op_eq (pe_ix ix_tup (pv 0) pe_int (fun _ _ => rfl)) pe_str (nomark _)) (pss_one (ps_ret (pe_op op_cat (pe_op op_cat (pe_lst (pa_cons pe_str (pa_cons pe_str pa_nil))) (pe_callH h__law_expression_text hr (by omega) rfl pass0 (pa_cons (pe_ix ix_tup (pv 0) pe_int (fun _ _ => rfl)) pa_nil))) (pe_lst (pa_cons pe_str pa_nil)))))
      pss_nil)
    (pss_cons (ps_if (pt_cmpR op_eq (pe_ix ix_tup (pv 0) pe_int (fun _ _ => rfl)) pe_str (nomark _)) (pss_one (ps_ret (pe_op op_cat (pe_op op_cat (pe_lst (pa_cons pe_str (pa_cons pe_str pa_nil))) (pe_callH h__law_test_text hr (by omega) rfl pass0 (pa_cons (pe_ix ix_tup (pv 0) pe_int (fun _ _ => rfl)) pa_nil))) (pe_lst (pa_cons pe_str pa_nil)))))
      pss_nil)
    (pss_one (ps_ret (pe_op op_cat (pe_op op_cat (pe_op op_cat (pe_lst (pa_cons pe_str (pa_cons (pe_ix ix_tup (pv 0) pe_int (fun _ _ => rfl)) pa_nil))) (pe_callH h__law_index_text hr (by omega) rfl pass0 (pa_cons (pe_ix ix_tup (pv 0) pe_int (fun _ _ => rfl)) pa_nil))) (pe_callH h__law_index_text hr (by omega) rfl pass0 (pa_cons (pe_ix ix_tup (pv 0) pe_int (fun _ _ => rfl)) pa_nil))) (pe_lst (pa_cons pe_str pa_nil))))))), ?_⟩
  refine ⟨_, rfl, t, _, 0, _, rfl, rfl, SqT.of ht, rfl, rfl, _, rfl, iteT ⟨lb rfl, fun p hp => ?_⟩⟩
  have s1 := sameNew (o := .lst ([S "(", S "zero"].map V.str)) hp
  have w1 := WL.mk (H := H) (p := p) (n := 2) [S "(", S "zero"] (all2 g_op (by decide +kernel)) (Nat.le_refl _)
  refine ⟨_, rfl, t, _, 1, _, rfl, rfl, SqT.of (s1 _ _ ht), rfl, e, 51, rfl, he.ft (frS s1).ft, by omega, fun p2 H2 s2 w2 => ?_⟩
  refine catW (w1.same s2) w2 (by omega) (fun p3 H3 s3 w3 => ⟨lb rfl, fun p4 hp4 => ?_⟩)
  have w4 := WL.mk (H := H3) (p := p4) (n := 1) [S ")"] (all1 g_cp) (Nat.le_refl _)
  exact catW (w3.same (sameNew hp4)) w4 (by omega) (fun p5 H5 s5 w5 => q _ _ ((((s1.trans s2).trans s3).trans (sameNew hp4)).trans s5) (w5.le (by omega)))
def spTTst : Sp := fun vs H Q _ => ∃ v, vs = [v] ∧ HTst H 57 v ∧ ∀ p H', Same H H' → WL H' 57 p → Q (.ref p) H'
theorem has__law_test_text (F : Facts w K mg) : Has P w K mg base CX0 11 "_law_test_text" pLawTestText spTTst := by
  have h__law_expression_text := has__law_expression_text (P := P) (base := base) F 1
  have h__law_index_text := has__law_index_text (P := P) (base := base) F 1
  have h__law_test_text := ttst_zero (P := P) (base := base) F
  refine has_0 (k := 10) F.g__law_test_text F.f__law_test_text scLawTestText bLawTestText (fun vs H Q E h => by obtain ⟨_, rfl, _⟩ := h; rfl) fun cdv A' outer s H vs Q E hr h => ?_
  obtain ⟨v, rfl, ⟨t, xs, rfl, ht, hx⟩, q⟩ := h
  refine ⟨_, (pss_cons (ps_if (pt_cmpR op_eq (pe_ix ix_tup (pv 0) pe_int (fun _ _ => rfl)) pe_str (nomark _)) (pss_one (ps_ret (pe_op op_cat (pe_op op_cat (pe_lst (pa_cons pe_str (pa_cons pe_str pa_nil))) (pe_callH h__law_expression_text hr (by omega) rfl pass0 (pa_cons (pe_ix ix_tup (pv 0) pe_int (fun _ _ => rfl)) pa_nil))) (pe_lst (pa_cons pe_str pa_nil)))))
      pss_nil)
    (pss_cons (ps_if (pt_cmpR op_eq (pe_ix ix_tup (pv 0) pe_int (fun _ _ => rfl)) pe_str (nomark _)) (pss_one (ps_ret (pe_op op_cat (pe_op op_cat (pe_lst (pa_cons pe_str (pa_cons pe_str pa_nil))) (pe_callH h__law_test_text hr (by omega) rfl pass0 (pa_cons (pe_ix ix_tup (pv 0) pe_int (fun _ _ => rfl)) pa_nil))) (pe_lst (pa_cons pe_str pa_nil)))))
      pss_nil)
    (pss_one (ps_ret (pe_op op_cat (pe_op op_cat (pe_op op_cat (pe_lst (pa_cons pe_str (pa_cons (pe_ix ix_tup (pv 0) pe_int (fun _ _ => rfl)) pa_nil))) (pe_callH h__law_index_text hr (by omega) rfl pass0 (pa_cons (pe_ix ix_tup (pv 0) pe_int (fun _ _ => rfl)) pa_nil))) (pe_callH h__law_index_text hr (by omega) rfl pass0 (pa_cons (pe_ix ix_tup (pv 0) pe_int (fun _ _ => rfl)) pa_nil))) (pe_lst (pa_cons pe_str pa_nil))))))), ?_⟩
  rcases hx with ⟨e, rfl, he, _⟩ | ⟨t2, e, b, rfl, ht2, he, _⟩ | ⟨o, b, c, rfl, ho, hb, hc, _⟩
  · refine ⟨_, rfl, t, _, 0, _, rfl, rfl, SqT.of ht, rfl, rfl, _, rfl, iteT ⟨lb rfl, fun p hp => ?_⟩⟩
    have s1 := sameNew (o := .lst ([S "(", S "zero"].map V.str)) hp
    have w1 := WL.mk (H := H) (p := p) (n := 2) [S "(", S "zero"] (all2 g_op (by decide +kernel)) (Nat.le_refl _)
    refine ⟨_, rfl, t, _, 1, _, rfl, rfl, SqT.of (s1 _ _ ht), rfl, e, 51, rfl, he.ft (frS s1).ft, by omega, fun p2 H2 s2 w2 => ?_⟩
    refine catW (w1.same s2) w2 (by omega) (fun p3 H3 s3 w3 => ⟨lb rfl, fun p4 hp4 => ?_⟩)
    have w4 := WL.mk (H := H3) (p := p4) (n := 1) [S ")"] (all1 g_cp) (Nat.le_refl _)
    exact catW (w3.same (sameNew hp4)) w4 (by omega) (fun p5 H5 s5 w5 => q _ _ ((((s1.trans s2).trans s3).trans (sameNew hp4)).trans s5) (w5.le (by omega)))
  · refine ⟨_, rfl, t, _, 0, _, rfl, rfl, SqT.of ht, rfl, rfl, _, rfl, iteF ⟨_, rfl, t, _, 0, _, rfl, rfl, SqT.of ht, rfl, rfl, _, rfl, iteT ⟨lb rfl, fun p hp => ?_⟩⟩⟩
    have s1 := sameNew (o := .lst ([S "(", S "not"].map V.str)) hp
    have w1 := WL.mk (H := H) (p := p) (n := 2) [S "(", S "not"] (all2 g_op (by decide +kernel)) (Nat.le_refl _)
    refine ⟨_, rfl, t, _, 1, _, rfl, rfl, SqT.of (s1 _ _ ht), rfl, t2, e, rfl, s1 _ _ ht2, he.ft (frS s1).ft, fun p2 H2 s2 w2 => ?_⟩
    refine catW (w1.same s2) w2 (by omega) (fun p3 H3 s3 w3 => ⟨lb rfl, fun p4 hp4 => ?_⟩)
    have w4 := WL.mk (H := H3) (p := p4) (n := 1) [S ")"] (all1 g_cp) (Nat.le_refl _)
    exact catW (w3.same (sameNew hp4)) w4 (by omega) (fun p5 H5 s5 w5 => q _ _ ((((s1.trans s2).trans s3).trans (sameNew hp4)).trans s5) (w5.le (by omega)))
  · have ne : ¬ o = S "zero" ∧ ¬ o = S "not" ∧ gw o := by
      simp only [List.mem_cons, List.not_mem_nil, or_false] at ho
      rcases ho with rfl | rfl <;> decide +kernel
    have f0 : ∀ s : Str, ¬ o = s → decide (V.str o = V.str s) = false := fun s h => by rw [str_eq]; exact decide_eq_false h
    refine ⟨_, rfl, t, _, 0, _, rfl, rfl, SqT.of ht, rfl, rfl, _, rfl, ?_⟩
    rw [f0 _ ne.1]
    refine iteF ⟨_, rfl, t, _, 0, _, rfl, rfl, SqT.of ht, rfl, rfl, _, rfl, ?_⟩
    rw [f0 _ ne.2.1]
    refine iteF ⟨_, rfl, t, _, 0, _, rfl, rfl, SqT.of ht, rfl, lb rfl, fun p hp => ?_⟩
    have s1 := sameNew (o := .lst ([S "(", o].map V.str)) hp
    have w1 := WL.mk (H := H) (p := p) (n := 2) [S "(", o] (all2 g_op ne.2.2) (Nat.le_refl _)
    refine ⟨_, rfl, t, _, 1, _, rfl, rfl, SqT.of (s1 _ _ ht), rfl, b, 6, rfl, hb.ft (frS s1).ft, by omega, fun p2 H2 s2 w2 => ?_⟩
    refine catW (w1.same s2) w2 (by omega) (fun p3 H3 s3 w3 => ?_)
    have s13 := (s1.trans s2).trans s3
    refine ⟨_, rfl, t, _, 2, _, rfl, rfl, SqT.of (s13 _ _ ht), rfl, c, 6, rfl, hc.ft (frS s13).ft, by omega, fun p4 H4 s4 w4 => ?_⟩
    refine catW (w3.same s4) w4 (by omega) (fun p5 H5 s5 w5 => ⟨lb rfl, fun p6 hp6 => ?_⟩)
    have w6 := WL.mk (H := H5) (p := p6) (n := 1) [S ")"] (all1 g_cp) (Nat.le_refl _)
    exact catW (w5.same (sameNew hp6)) w6 (by omega) (fun p7 H7 s7 w7 => q _ _ ((((s13.trans s4).trans s5).trans (sameNew hp6)).trans s7) (w7.le (by omega)))
def spTStm (d : Nat) : Sp := fun vs H Q _ => ∃ v n, vs = [v] ∧ HStm H d n v ∧ n ≤ 1000000 ∧ ∀ p H', Same H H' → WL H' n p → Q (.ref p) H'
def spTBod (d : Nat) : Sp := fun vs H Q _ => ∃ v n, vs = [v] ∧ HAll (HStm H d) H n v ∧ n ≤ 1000000 ∧ ∀ p H', Same H H' → WL H' n p → Q (.ref p) H'
theorem has__law_body_text (F : Facts w K mg) {k d : Nat} (h__law_statement_text : Has P w K mg base CX0 k "_law_statement_text" pLawStatementText (spTStm d)) : Has P w K mg base CX0 (k + 1) "_law_body_text" pLawBodyText (spTBod d) := by
  refine has_0 F.g__law_body_text F.f__law_body_text scLawBodyText bLawBodyText (fun vs H Q E h => by obtain ⟨_, _, rfl, _⟩ := h; rfl) fun cdv A' outer s H vs Q E hr h => ?_
  obtain ⟨v, n, rfl, ⟨a, xs, kk, rfl, ha, hx, hl⟩, hn, q⟩ := h
  refine ⟨_, (pss_cons (ps_set (i := 1) scLawBodyText.nd rfl (Or.inl rfl) (pe_lst pa_nil))
    (pss_cons (ps_for PassesOwn.never rfl (pi_tup (pv 0)) (pg_name (i := 2) scLawBodyText.nd rfl (Or.inl rfl))
      (pss_one (ps_set (i := 1) scLawBodyText.nd rfl (Or.inl rfl) (pe_op op_cat (pe_op op_cat (pe_op op_cat (pv 1) (pe_lst (pa_cons pe_str pa_nil))) (pe_callH h__law_statement_text hr (by omega) rfl pass0 (pa_cons (pv 2) pa_nil))) (pe_lst (pa_cons pe_str pa_nil))))))
    (pss_one (ps_ret (pv 1))))), ?_⟩
  refine ⟨lb rfl, fun p0 hp0 => ⟨_, rfl, a, rfl, ⟨_, SqT.of (sameNew hp0 _ _ ha)⟩, ?_⟩⟩
  refine for_tup (xs := xs) (fun i σ H3 => ∃ wp z, σ = [some (.ref a), some (.ref wp), z] ∧ Same H H3 ∧ WL H3 (i * (kk + 2)) wp) ⟨p0, none, rfl, sameNew hp0, WL.mk [] (fun _ h => nomatch h) (Nat.zero_le _)⟩ (fun i σ H3 _ h => ?_) (fun i x σ H3 hi h => ?_) (fun σ H3 h => ?_)
  · obtain ⟨_, _, _, s, _⟩ := h
    exact SqT.of (s _ _ ha)
  · obtain ⟨wp, z, rfl, s3, w3⟩ := h
    have hi2 : i < xs.length := (List.getElem?_eq_some_iff.mp hi).1
    have hb : (i + 1) * (kk + 2) ≤ n := Nat.le_trans (Nat.mul_le_mul_right _ hi2) hl
    have e1 : (i + 1) * (kk + 2) = i * (kk + 2) + kk + 2 := by rw [Nat.succ_mul]; omega
    refine ⟨_, rfl, lb rfl, fun p1 hp1 => ?_⟩
    have w1 := WL.mk (H := H3) (p := p1) (n := 1) [S "("] (all1 g_op) (Nat.le_refl _)
    refine catW (w3.same (sameNew hp1)) w1 (by omega) (fun p2 H2 s2 w2 => ?_)
    have s32 := (s3.trans (sameNew hp1)).trans s2
    refine ⟨_, rfl, x, kk, rfl, HStm.ft (frS s32).ft (hx x (List.mem_of_getElem? hi)), by omega, fun p4 H4 s4 w4 => ?_⟩
    refine catW (w2.same s4) w4 (by omega) (fun p5 H5 s5 w5 => ⟨lb rfl, fun p6 hp6 => ?_⟩)
    have w6 := WL.mk (H := H5) (p := p6) (n := 1) [S ")"] (all1 g_cp) (Nat.le_refl _)
    refine catW (w5.same (sameNew hp6)) w6 (by omega) (fun p7 H7 s7 w7 => ?_)
    exact ⟨p7, _, rfl, (((s32.trans s4).trans s5).trans (sameNew hp6)).trans s7, w7.le (by omega)⟩
  · obtain ⟨wp, z, rfl, s3, w3⟩ := h
    exact ⟨_, rfl, q _ _ s3 (w3.le hl)⟩
theorem HStm.split {H : Hp} {d n : Nat} {v : V} (h : HStm H d n v) : HCal H n v ∨ HSet H n v ∨ ∃ d' a xs, d = d' + 1 ∧ v = .ref a ∧ H a = some (.tup xs) ∧
      ((∃ w i b k, xs = [.str (S "loop"), .str w, i, b] ∧ gw w ∧ HIdx H 1 6 i ∧ HAll (HStm H d') H k b ∧ 8 + k ≤ n) ∨
       (∃ t b c k1 k2, xs = [.str (S "if"), t, b, c] ∧ HTst H 57 t ∧ HAll (HStm H d') H k1 b ∧ HAll (HStm H d') H k2 c ∧ 62 + k1 + k2 ≤ n) ∨
       ∃ w e b k, xs = [.str (S "let"), .str w, e, b] ∧ gw w ∧ HExp H 2 105 e ∧ HAll (HStm H d') H k b ∧ 107 + k ≤ n) := by
  cases d with
  | zero => rcases h with h | h; exact .inl h; exact .inr (.inl h)
  | succ d =>
    rcases h with (h | h) | ⟨a, xs, h0, h1, h2⟩
    · exact .inl h
    · exact .inr (.inl h)
    · exact .inr (.inr ⟨d, a, xs, rfl, h0, h1, h2⟩)
theorem tstm_step (F : Facts w K mg) (d : Nat) (h__law_body_text : Has P w K mg base CX0 (2 * d + 11) "_law_body_text" pLawBodyText (fun vs H Q E => ∃ d', d = d' + 1 ∧ spTBod d' vs H Q E)) : Has P w K mg base CX0 (2 * d + 12) "_law_statement_text" pLawStatementText (spTStm d) := by
  have h__law_expression_text := has__law_expression_text (P := P) (base := base) F 2
  have h__law_index_text := has__law_index_text (P := P) (base := base) F 2
  have h__law_place_text := has__law_place_text (P := P) (base := base) F
  have h__law_test_text := has__law_test_text (P := P) (base := base) F
  refine has_0 (k := 2 * d + 11) F.g__law_statement_text F.f__law_statement_text scLawStatementText bLawStatementText (fun vs H Q E h => by obtain ⟨_, _, rfl, _⟩ := h; rfl) fun cdv A' outer s H vs Q E hr h => ?_
  obtain ⟨v, n, rfl, hv, hn, q⟩ := h
  refine ⟨_, (pss_cons (ps_set (i := 1) scLawStatementText.nd rfl (Or.inl rfl) (pe_ix ix_tup (pv 0) pe_int (fun _ _ => rfl)))
    (pss_cons (ps_if (pt_cmpR op_eq (pv 1) pe_str (nomark _)) (pss_one (ps_ret (pe_op op_cat (pe_op op_cat (pe_lst (pa_cons pe_str pa_nil)) (pe_callH h__law_place_text hr (by omega) rfl pass0 (pa_cons (pe_ix ix_tup (pe_ix ix_tup (pv 0) pe_int (fun _ _ => rfl)) pe_int (fun _ _ => rfl)) (pa_cons (pe_ix ix_tup (pe_ix ix_tup (pv 0) pe_int (fun _ _ => rfl)) pe_int (fun _ _ => rfl)) pa_nil)))) (pe_callH h__law_expression_text hr (by omega) rfl pass0 (pa_cons (pe_ix ix_tup (pv 0) pe_int (fun _ _ => rfl)) pa_nil)))))
      pss_nil)
    (pss_cons (ps_if (pt_cmpR op_eq (pv 1) pe_str (nomark _)) (pss_one (ps_ret (pe_op op_cat (pe_op op_cat (pe_lst (pa_cons pe_str (pa_cons (pe_ix ix_tup (pv 0) pe_int (fun _ _ => rfl)) pa_nil))) (pe_callH h__law_index_text hr (by omega) rfl pass0 (pa_cons (pe_ix ix_tup (pv 0) pe_int (fun _ _ => rfl)) pa_nil))) (pe_callH h__law_body_text hr (by omega) rfl pass0 (pa_cons (pe_ix ix_tup (pv 0) pe_int (fun _ _ => rfl)) pa_nil)))))
      pss_nil)
    (pss_cons (ps_if (pt_cmpR op_eq (pv 1) pe_str (nomark _)) (pss_one (ps_ret (pe_op op_cat (pe_op op_cat (pe_lst (pa_cons pe_str (pa_cons (pe_ix ix_tup (pv 0) pe_int (fun _ _ => rfl)) pa_nil))) (pe_callH h__law_expression_text hr (by omega) rfl pass0 (pa_cons (pe_ix ix_tup (pv 0) pe_int (fun _ _ => rfl)) pa_nil))) (pe_callH h__law_body_text hr (by omega) rfl pass0 (pa_cons (pe_ix ix_tup (pv 0) pe_int (fun _ _ => rfl)) pa_nil)))))
      pss_nil)
    (pss_cons (ps_if (pt_cmpR op_eq (pv 1) pe_str (nomark _)) (pss_cons (ps_set (i := 2) scLawStatementText.nd rfl (Or.inl rfl) (pe_op op_cat (pe_op op_cat (pe_op op_cat (pe_op op_cat (pe_lst (pa_cons pe_str pa_nil)) (pe_callH h__law_test_text hr (by omega) rfl pass0 (pa_cons (pe_ix ix_tup (pv 0) pe_int (fun _ _ => rfl)) pa_nil))) (pe_lst (pa_cons pe_str pa_nil))) (pe_callH h__law_body_text hr (by omega) rfl pass0 (pa_cons (pe_ix ix_tup (pv 0) pe_int (fun _ _ => rfl)) pa_nil))) (pe_lst (pa_cons pe_str pa_nil))))
      (pss_one (ps_ret (pe_op op_cat (pe_op op_cat (pe_op op_cat (pv 2) (pe_lst (pa_cons pe_str pa_nil))) (pe_callH h__law_body_text hr (by omega) rfl pass0 (pa_cons (pe_ix ix_tup (pv 0) pe_int (fun _ _ => rfl)) pa_nil))) (pe_lst (pa_cons pe_str pa_nil))))))
      pss_nil)
    (pss_cons (ps_set (i := 2) scLawStatementText.nd rfl (Or.inl rfl) (pe_lst (pa_cons pe_str (pa_cons (pe_ix ix_tup (pv 0) pe_int (fun _ _ => rfl)) (pa_cons pe_str pa_nil)))))
    (pss_cons (ps_for PassesOwn.never rfl (pi_tup (pe_ix ix_tup (pv 0) pe_int (fun _ _ => rfl))) (pg_name (i := 3) scLawStatementText.nd rfl (Or.inl rfl))
      (pss_one (ps_set (i := 2) scLawStatementText.nd rfl (Or.inl rfl) (pe_op op_cat (pv 2) (pe_callH h__law_index_text hr (by omega) rfl pass0 (pa_cons (pv 3) pa_nil))))))
    (pss_one (ps_ret (pe_op op_cat (pe_op op_cat (pe_op op_cat (pv 2) (pe_lst (pa_cons pe_str (pa_cons pe_str pa_nil)))) (pe_callTy call_list_of (by rfl) F.z_list (by decide +kernel) (pa_cons (pe_ix ix_tup (pv 0) pe_int (fun _ _ => rfl)) pa_nil))) (pe_lst (pa_cons pe_str pa_nil)))))))))))), ?_⟩
  rcases hv.split with ⟨a, wn, ti, tn, is, ns, rfl, ha, gwn, hti, hil, hia, htn, hnl, hng, h40⟩ | ⟨a, pp, w, x, e, rfl, ha, hpp, hpl, he, h130⟩ | ⟨d', a, xs, rfl, rfl, ha, hx⟩
  · -- call
    refine ⟨_, rfl, a, _, 0, _, rfl, rfl, SqT.of ha, rfl, _, rfl, rfl, _, rfl, iteF ⟨_, rfl, rfl, _, rfl, iteF ⟨_, rfl, rfl, _, rfl, iteF ⟨_, rfl, rfl, _, rfl, iteF ⟨_, rfl, a, _, 1, _, rfl, rfl, SqT.of ha, rfl, lb rfl, fun p0 hp0 => ?_⟩⟩⟩⟩⟩
    have s0 := sameNew (o := .lst ([S "call", wn, S "("].map V.str)) hp0
    have w0 := WL.mk (H := H) (p := p0) (n := 3) [S "call", wn, S "("] (all3 (by decide +kernel) gwn g_op) (Nat.le_refl _)
    refine ⟨_, rfl, a, _, 2, _, rfl, rfl, SqT.of (s0 _ _ ha), rfl, ti, rfl, ⟨_, SqT.of (s0 _ _ hti)⟩, ?_⟩
    refine for_tup (xs := is) (fun i σ H3 => ∃ wp z, σ = [some (.ref a), some (.str (S "call")), some (.ref wp), z] ∧ Same H H3 ∧ WL H3 (3 + i * 16) wp) ⟨p0, none, rfl, s0, w0⟩ (fun i σ H3 _ h => ?_) (fun i x σ H3 hi h => ?_) (fun σ H3 h => ?_)
    · obtain ⟨_, _, _, s, _⟩ := h
      exact SqT.of (s _ _ hti)
    · obtain ⟨wp, z, rfl, s3, w3⟩ := h
      have hi2 : i < is.length := (List.getElem?_eq_some_iff.mp hi).1
      refine ⟨_, rfl, _, rfl, x, 16, rfl, (hia x (List.mem_of_getElem? hi)).ft (frS s3).ft, by omega, fun p4 H4 s4 w4 => ?_⟩
      refine catW (w3.same s4) w4 (by omega) (fun p5 H5 s5 w5 => ?_)
      exact ⟨p5, _, rfl, (s3.trans s4).trans s5, w5.le (by omega)⟩
    · obtain ⟨wp, z, rfl, s3, w3⟩ := h
      refine ⟨_, rfl, lb rfl, fun p1 hp1 => ?_⟩
      have s1 := s3.trans (sameNew (o := .lst ([S ")", S "("].map V.str)) hp1)
      have w1 := WL.mk (H := H3) (p := p1) (n := 2) [S ")", S "("] (all2 g_cp g_op) (Nat.le_refl _)
      refine catW (w3.same (sameNew hp1)) w1 (by omega) (fun p2 H2 s2 w2 => ?_)
      have s12 := s1.trans s2
      refine ⟨_, rfl, a, _, 3, _, rfl, rfl, SqT.of (s12 _ _ ha), rfl, tn, _, rfl, .inr (SqT.of (s12 _ _ htn)), fun p4 hp4 => ?_⟩
      have w4 := WL.mk (H := H2) (p := p4) (n := 2) ns hng hnl
      refine catW (w2.same (sameNew hp4)) w4 (by omega) (fun p5 H5 s5 w5 => ⟨lb rfl, fun p6 hp6 => ?_⟩)
      have w6 := WL.mk (H := H5) (p := p6) (n := 1) [S ")"] (all1 g_cp) (Nat.le_refl _)
      exact catW (w5.same (sameNew hp6)) w6 (by omega) (fun p7 H7 s7 w7 => q _ _ ((((s12.trans (sameNew hp4)).trans s5).trans (sameNew hp6)).trans s7) (w7.le (by omega)))
  · -- set
    refine ⟨_, rfl, a, _, 0, _, rfl, rfl, SqT.of ha, rfl, _, rfl, rfl, _, rfl, iteT ⟨lb rfl, fun p0 hp0 => ?_⟩⟩
    have s0 := sameNew (o := .lst ([S "set"].map V.str)) hp0
    have w0 := WL.mk (H := H) (p := p0) (n := 1) [S "set"] (all1 (by decide +kernel)) (Nat.le_refl _)
    refine ⟨_, rfl, a, _, 1, _, rfl, rfl, SqT.of (s0 _ _ ha), rfl, pp, _, 0, _, rfl, rfl, SqT.of (s0 _ _ hpp), rfl, _, rfl, a, _, 1, _, rfl, rfl, SqT.of (s0 _ _ ha), rfl, pp, _, 1, _, rfl, rfl, SqT.of (s0 _ _ hpp), rfl, w, x, 24, rfl, hpl.ft (frS s0).ft, by omega, fun p2 H2 s2 w2 => ?_⟩
    refine catW (w0.same s2) w2 (by omega) (fun p3 H3 s3 w3 => ?_)
    have s03 := (s0.trans s2).trans s3
    refine ⟨_, rfl, a, _, 2, _, rfl, rfl, SqT.of (s03 _ _ ha), rfl, e, 105, rfl, he.ft (frS s03).ft, by omega, fun p4 H4 s4 w4 => ?_⟩
    exact catW (w3.same s4) w4 (by omega) (fun p5 H5 s5 w5 => q _ _ ((s03.trans s4).trans s5) (w5.le (by omega)))
  rcases hx with ⟨w, i, b, k, rfl, gw', hi, hb, hk⟩ | ⟨t, b, c, k1, k2, rfl, ht, hb, hc, hk⟩ | ⟨w, e, b, k, rfl, gw', he, hb, hk⟩
  · -- loop
    refine ⟨_, rfl, a, _, 0, _, rfl, rfl, SqT.of ha, rfl, _, rfl, rfl, _, rfl, iteF ⟨_, rfl, rfl, _, rfl, iteT ⟨_, rfl, a, _, 1, _, rfl, rfl, SqT.of ha, rfl, lb rfl, fun p0 hp0 => ?_⟩⟩⟩
    have s0 := sameNew (o := .lst ([S "loop", w].map V.str)) hp0
    have w0 := WL.mk (H := H) (p := p0) (n := 2) [S "loop", w] (all2 (by decide +kernel) gw') (Nat.le_refl _)
    refine ⟨_, rfl, a, _, 2, _, rfl, rfl, SqT.of (s0 _ _ ha), rfl, i, 6, rfl, (hi.up (Nat.le_refl _)).ft (frS s0).ft, by omega, fun p2 H2 s2 w2 => ?_⟩
    refine catW (w0.same s2) w2 (by omega) (fun p3 H3 s3 w3 => ?_)
    have s03 := (s0.trans s2).trans s3
    refine ⟨_, rfl, a, _, 3, _, rfl, rfl, SqT.of (s03 _ _ ha), rfl, d', rfl, b, k, rfl, hb.ft (frS s03).ft fun k x => HStm.ft (frS s03).ft, by omega, fun p4 H4 s4 w4 => ?_⟩
    exact catW (w3.same s4) w4 (by omega) (fun p5 H5 s5 w5 => q _ _ ((s03.trans s4).trans s5) (w5.le (by omega)))
  · -- if
    refine ⟨_, rfl, a, _, 0, _, rfl, rfl, SqT.of ha, rfl, _, rfl, rfl, _, rfl, iteF ⟨_, rfl, rfl, _, rfl, iteF ⟨_, rfl, rfl, _, rfl, iteF ⟨_, rfl, rfl, _, rfl, iteT ⟨lb rfl, fun p0 hp0 => ?_⟩⟩⟩⟩⟩
    have s0 := sameNew (o := .lst ([S "if"].map V.str)) hp0
    have w0 := WL.mk (H := H) (p := p0) (n := 1) [S "if"] (all1 (by decide +kernel)) (Nat.le_refl _)
    refine ⟨_, rfl, a, _, 1, _, rfl, rfl, SqT.of (s0 _ _ ha), rfl, t, rfl, ht.ft (frS s0).ft, fun p2 H2 s2 w2 => ?_⟩
    refine catW (w0.same s2) w2 (by omega) (fun p3 H3 s3 w3 => ⟨lb rfl, fun p4 hp4 => ?_⟩)
    have w4 := WL.mk (H := H3) (p := p4) (n := 1) [S "("] (all1 g_op) (Nat.le_refl _)
    refine catW (w3.same (sameNew hp4)) w4 (by omega) (fun p5 H5 s5 w5 => ?_)
    have s05 := ((((s0.trans s2).trans s3).trans (sameNew (o := .lst ([S "("].map V.str)) hp4)).trans s5)
    refine ⟨_, rfl, a, _, 2, _, rfl, rfl, SqT.of (s05 _ _ ha), rfl, d', rfl, b, k1, rfl, hb.ft (frS s05).ft fun k x => HStm.ft (frS s05).ft, by omega, fun p6 H6 s6 w6 => ?_⟩
    refine catW (w5.same s6) w6 (by omega) (fun p7 H7 s7 w7 => ⟨lb rfl, fun p8 hp8 => ?_⟩)
    have w8 := WL.mk (H := H7) (p := p8) (n := 1) [S ")"] (all1 g_cp) (Nat.le_refl _)
    refine catW (w7.same (sameNew hp8)) w8 (by omega) (fun p9 H9 s9 w9 => ?_)
    have s09 := (((s05.trans s6).trans s7).trans (sameNew (o := .lst ([S ")"].map V.str)) hp8)).trans s9
    refine ⟨_, rfl, lb rfl, fun q4 hq4 => ?_⟩
    have v4 := WL.mk (H := H9) (p := q4) (n := 1) [S "("] (all1 g_op) (Nat.le_refl _)
    refine catW (w9.same (sameNew hq4)) v4 (by omega) (fun q5 J5 t5 v5 => ?_)
    have t05 := (s09.trans (sameNew (o := .lst ([S "("].map V.str)) hq4)).trans t5
    refine ⟨_, rfl, a, _, 3, _, rfl, rfl, SqT.of (t05 _ _ ha), rfl, d', rfl, c, k2, rfl, hc.ft (frS t05).ft fun k x => HStm.ft (frS t05).ft, by omega, fun q6 J6 t6 v6 => ?_⟩
    refine catW (v5.same t6) v6 (by omega) (fun q7 J7 t7 v7 => ⟨lb rfl, fun q8 hq8 => ?_⟩)
    have v8 := WL.mk (H := J7) (p := q8) (n := 1) [S ")"] (all1 g_cp) (Nat.le_refl _)
    exact catW (v7.same (sameNew hq8)) v8 (by omega) (fun q9 J9 t9 v9 => q _ _ ((((t05.trans t6).trans t7).trans (sameNew hq8)).trans t9) (v9.le (by omega)))
  · -- let
    refine ⟨_, rfl, a, _, 0, _, rfl, rfl, SqT.of ha, rfl, _, rfl, rfl, _, rfl, iteF ⟨_, rfl, rfl, _, rfl, iteF ⟨_, rfl, rfl, _, rfl, iteT ⟨_, rfl, a, _, 1, _, rfl, rfl, SqT.of ha, rfl, lb rfl, fun p0 hp0 => ?_⟩⟩⟩⟩
    have s0 := sameNew (o := .lst ([S "let", w].map V.str)) hp0
    have w0 := WL.mk (H := H) (p := p0) (n := 2) [S "let", w] (all2 (by decide +kernel) gw') (Nat.le_refl _)
    refine ⟨_, rfl, a, _, 2, _, rfl, rfl, SqT.of (s0 _ _ ha), rfl, e, 105, rfl, he.ft (frS s0).ft, by omega, fun p2 H2 s2 w2 => ?_⟩
    refine catW (w0.same s2) w2 (by omega) (fun p3 H3 s3 w3 => ?_)
    have s03 := (s0.trans s2).trans s3
    refine ⟨_, rfl, a, _, 3, _, rfl, rfl, SqT.of (s03 _ _ ha), rfl, d', rfl, b, k, rfl, hb.ft (frS s03).ft fun k x => HStm.ft (frS s03).ft, by omega, fun p4 H4 s4 w4 => ?_⟩
    exact catW (w3.same s4) w4 (by omega) (fun p5 H5 s5 w5 => q _ _ ((s03.trans s4).trans s5) (w5.le (by omega)))
theorem has__law_statement_text (F : Facts w K mg) : ∀ d : Nat, Has P w K mg base CX0 (2 * d + 12) "_law_statement_text" pLawStatementText (spTStm d)
  | 0 => tstm_step F 0 (has_0 (k := 10) F.g__law_body_text F.f__law_body_text scLawBodyText bLawBodyText (fun vs H Q E h => by obtain ⟨_, h, _⟩ := h; omega) fun cdv A' outer s H vs Q E hr h => by obtain ⟨_, h, _⟩ := h; omega)
  | d + 1 => tstm_step F (d + 1) ((has__law_body_text F (has__law_statement_text F d)).imp fun vs H Q E h => by obtain ⟨d', e, h⟩ := h; rw [Nat.succ.inj e]; exact h)
end
end K10
/-! K10Gen8: the rows of words of a tree. Printed by expand.py from K10Gen8.tpl. -/
namespace K10
open PySem PySem.Spec PyProof.Rows L2
theorem noneS {H H1 : Hp} {p : Addr} (s : Same H H1) (h : H1 p = none) : H p = none := by
  cases e : H p with
  | none => rfl
  | some o => rw [s _ _ e] at h; exact nomatch h
theorem catF {H : Hp} {n m : Nat} {a b : Addr} {Q : VK} (ha : WL H n a) (hb : WL H m b) (hn : n + m ≤ 1000000) (q : ∀ p H', H p = none → Same H H' → WL H' (n + m) p → Q (.ref p) H') : rCat (.ref a) (.ref b) H Q := by
  obtain ⟨ws, h1, h2, h3⟩ := ha
  obtain ⟨us, k1, k2, k3⟩ := hb
  refine ⟨a, b, _, _, rfl, rfl, h1, k1, by rw [line_eq, List.length_map, List.length_map]; omega, fun p hp => q _ _ hp (sameNew hp) ⟨ws ++ us, by rw [upd_same, List.map_append], by rw [List.length_append]; omega, fun w hw => ?_⟩⟩
  rcases List.mem_append.mp hw with h | h
  · exact h3 w h
  · exact k3 w h
/-- a list that is not empty -/
def NE (H : Hp) (p : Addr) : Prop := ∃ v vs, H p = some (.lst (v :: vs))
theorem catE {H : Hp} {n m : Nat} {a b : Addr} {Q : VK} (ha : WL H n a) (hb : WL H m b) (hn : n + m ≤ 1000000) (ne : NE H a) (q : ∀ p H', H p = none → Same H H' → WL H' (n + m) p → NE H' p → Q (.ref p) H') : rCat (.ref a) (.ref b) H Q := by
  obtain ⟨ws, h1, h2, h3⟩ := ha
  obtain ⟨us, k1, k2, k3⟩ := hb
  obtain ⟨v, vs, e⟩ := ne
  have ev : ws.map V.str = v :: vs := by rw [h1] at e; injection e with e; injection e
  refine ⟨a, b, _, _, rfl, rfl, h1, k1, by rw [line_eq, List.length_map, List.length_map]; omega, fun p hp => q _ _ hp (sameNew hp) ⟨ws ++ us, by rw [upd_same, List.map_append], by rw [List.length_append]; omega, fun w hw => ?_⟩ ⟨v, vs ++ us.map V.str, by rw [upd_same, ev]; rfl⟩⟩
  rcases List.mem_append.mp hw with h | h
  · exact h3 w h
  · exact k3 w h
/-- rows of words in the list at L: n rows of m words at most -/
def RL (H : Hp) (m n : Nat) (L : Addr) : Prop := ∃ us : List V, H L = some (.lst us) ∧ us.length ≤ n ∧ ∀ u ∈ us, ∃ p, u = .ref p ∧ p ≠ L ∧ WL H m p
section
variable {P : Program} {w : World} {K : PySem.W.Frag} {mg : Str → Option Value} {base : Heap}
def nLawVariableText : List Str := ["_law_words_here", "_law_name_here", "_law_size"]
def pLawVariableText : List Str := ["_law_words_here", "_law_name_here", "_law_size"]
theorem scLawVariableText : FnScope nLawVariableText pLawVariableText (defScope sLawVariableText) := ⟨rfl, rfl, rfl, by decide +kernel, rfl, by decide +kernel, by decide +kernel⟩
theorem bLawVariableText : BindsBy "_law_variable_text" sLawVariableText pLawVariableText := fun _ _ _ _ _ _ us hl => match us, hl with | [_, _, _], _ => rfl
def nLawWords : List Str := ["_law_tree_here", "_law_rows", "_law_name_here", "_law_indexes", "_law_references", "_law_body_here", "_law_words_here", "_law_reference", "_law_row"]
def pLawWords : List Str := ["_law_tree_here"]
theorem scLawWords : FnScope nLawWords pLawWords (defScope sLawWords) := ⟨rfl, rfl, rfl, by decide +kernel, rfl, by decide +kernel, by decide +kernel⟩
theorem bLawWords : BindsBy "_law_words" sLawWords pLawWords := fun _ _ _ _ _ _ us hl => match us, hl with | [_], _ => rfl
def spTVar : Sp := fun vs H Q _ => ∃ ws nm z, vs = [.ref ws, .str nm, .int z] ∧ WL H 1 ws ∧ gw nm ∧ numOk z ∧ ∀ p H', H p = none → Same H H' → WL H' 5 p → Q (.ref p) H'
theorem has__law_variable_text (F : Facts w K mg) : Has P w K mg base CX0 1 "_law_variable_text" pLawVariableText spTVar := by
  refine has_0 (k := 0) F.g__law_variable_text F.f__law_variable_text scLawVariableText bLawVariableText (fun vs H Q E h => by obtain ⟨_, _, _, rfl, _⟩ := h; rfl) fun cdv A' outer s H vs Q E hr h => ?_
  obtain ⟨ws, nm, z, rfl, hw, hn, hz, q⟩ := h
  refine ⟨_, (pss_cons (ps_if (pt_cmpR op_gt (pv 2) pe_int (nomark _)) (pss_one (ps_ret (pe_op op_cat (pe_op op_cat (pe_lst (pa_cons pe_str pa_nil)) (pv 0)) (pe_lst (pa_cons (pv 1) (pa_cons (pe_callTy call_str_int (by rfl) F.z_str (by decide +kernel) (pa_cons (pv 2) pa_nil)) (pa_cons pe_str pa_nil)))))))
      pss_nil)
    (pss_one (ps_ret (pe_op op_cat (pe_op op_cat (pe_lst (pa_cons pe_str pa_nil)) (pv 0)) (pe_lst (pa_cons (pv 1) (pa_cons pe_str pa_nil))))))), ?_⟩
  refine ⟨_, rfl, _, _, rfl, rfl, _, rfl, ?_⟩
  by_cases c : 0 < z
  · rw [decide_eq_true c]
    refine iteT ⟨lb rfl, fun p1 hp1 => ?_⟩
    have w1 := WL.mk (H := H) (p := p1) (n := 1) [S "("] (all1 g_op) (Nat.le_refl _)
    have s1 := sameNew (o := .lst ([S "("].map V.str)) hp1
    refine ⟨_, rfl, catF w1 (hw.same s1) (by omega) (fun p2 H2 n2 s2 w2 => ⟨_, rfl, _, rfl, _, rfl, log_n hz, lb rfl, fun p3 hp3 => ?_⟩)⟩
    have w3 := WL.mk (H := H2) (p := p3) (n := 3) [nm, Str.ofString (toString z), S ")"] (all3 hn (gw_n hz) g_cp) (Nat.le_refl _)
    have s3 := sameNew (o := .lst ([nm, Str.ofString (toString z), S ")"].map V.str)) hp3
    exact catF (w2.same s3) w3 (by omega) (fun p4 H4 n4 s4 w4 => q _ _ (noneS ((s1.trans s2).trans s3) n4) (((s1.trans s2).trans s3).trans s4) (w4.le (by omega)))
  · rw [decide_eq_false c]
    refine iteF ⟨lb rfl, fun p1 hp1 => ?_⟩
    have w1 := WL.mk (H := H) (p := p1) (n := 1) [S "("] (all1 g_op) (Nat.le_refl _)
    have s1 := sameNew (o := .lst ([S "("].map V.str)) hp1
    refine ⟨_, rfl, catF w1 (hw.same s1) (by omega) (fun p2 H2 n2 s2 w2 => ⟨_, rfl, lb rfl, fun p3 hp3 => ?_⟩)⟩
    have w3 := WL.mk (H := H2) (p := p3) (n := 2) [nm, S ")"] (all2 hn g_cp) (Nat.le_refl _)
    have s3 := sameNew (o := .lst ([nm, S ")"].map V.str)) hp3
    exact catF (w2.same s3) w3 (by omega) (fun p4 H4 n4 s4 w4 => q _ _ (noneS ((s1.trans s2).trans s3) n4) (((s1.trans s2).trans s3).trans s4) (w4.le (by omega)))
theorem WL.ne {H : Hp} {n : Nat} {p L : Addr} {o : HO} (h : WL H n p) (e : p ≠ L) : WL (upd H L o) n p := by
  obtain ⟨ws, h1, h2⟩ := h
  exact ⟨ws, by rw [upd_ne e]; exact h1, h2⟩
theorem RL.same {H H' : Hp} {m n : Nat} {L : Addr} (h : RL H m n L) (s : Same H H') : RL H' m n L := by
  obtain ⟨us, h1, h2, h3⟩ := h
  refine ⟨us, s _ _ h1, h2, fun u hu => ?_⟩
  obtain ⟨p, e, e2, hp⟩ := h3 u hu
  exact ⟨p, e, e2, hp.same s⟩
/-- one more row -/
theorem RL.put {H H' : Hp} {m n : Nat} {L p : Addr} {us : List V} (h1 : H L = some (.lst us)) (h2 : us.length ≤ n) (h3 : ∀ u ∈ us, ∃ p, u = .ref p ∧ p ≠ L ∧ WL H m p) (hp : H p = none) (s : Same H H') (hw : WL H' m p) :
    RL (upd H' L (.lst (us ++ [.ref p]))) m (n + 1) L := by
  refine ⟨us ++ [.ref p], upd_same, by rw [List.length_append]; exact Nat.succ_le_succ h2, fun u hu => ?_⟩
  rcases List.mem_append.mp hu with h | h
  · obtain ⟨p', e, e2, hp'⟩ := h3 u h
    exact ⟨p', e, e2, (hp'.same s).ne e2⟩
  · have e : p ≠ L := fun e => by rw [e, h1] at hp; exact nomatch hp
    exact ⟨p, List.mem_singleton.mp h, e, hw.ne e⟩
/-- [f(x) for x in tuple], f gives words -/
theorem lc_pt {K : PySem.W.Frag} {a L : Addr} {xs : List V} {i : Nat} {te : TE} {ws : List Nat} {σ : L2.St} {H1 : Hp} {Qd : Hp → Prop} {m : Nat}
    (ha : H1 a = some (.tup xs)) (hz : xs.length ≤ 1000) (hL : H1 L = none)
    (ht : ∀ x H Q, x ∈ xs → Same H1 H → (∀ p H', H p = none → Same H H' → WL H' m p → Q (.ref p) H') → te ((wipe σ ws).set i (some x)) H Q)
    (hd : ∀ H, Same H1 H → RL H m xs.length L → Qd H)
    (hw : ∀ v, wipe ((wipe σ ws).set i (some v)) ws = wipe σ ws := by intro _; rfl) :
    ∃ W : Nat → Nat → Hp → Prop, (∃ m, W 0 m (upd H1 L (.lst []))) ∧ ∀ i' m H, W i' m H →
      ((Itt K a).stop i' H ∧ Qd H) ∨ ((Itt K a).go i' H ∧ ∃ Nx : Hp → Prop, (∀ H', Nx H' → ∃ m', m' < m ∧ W (i' + 1) m' H') ∧ ∀ x H', (Itt K a).yld i' H x H' → gName i x (wipe σ ws) H' fun σ2 H2 => wipe σ2 ws = wipe σ ws ∧ tYes σ2 H2 fun b H3 =>
        if b = true then te σ2 H3 fun y H4 => ∃ acc, H4 L = some (.lst acc) ∧ acc.length < sizeLine ∧ Nx (upd H4 L (.lst (acc ++ [y]))) else Nx H3) := by
  refine lc_tup (xs := xs) (fun k H => Same H1 H ∧ RL H m k L) ⟨sameNew hL, [], upd_same, Nat.zero_le _, fun _ h => nomatch h⟩ (fun k H _ h => SqT.of (h.1 _ _ ha)) (fun k x H hx h => ?_) (fun H h => hd H h.1 h.2)
  obtain ⟨s, us, h1, h2, h3⟩ := h
  refine ⟨hw x, ?_⟩
  show te _ _ _
  have hkl : k < xs.length := (List.getElem?_eq_some_iff.mp hx).1
  refine ht x H _ (List.mem_of_getElem? hx) s (fun p H' np s' w' => ?_)
  exact ⟨us, s' _ _ h1, by rw [line_eq]; omega, Same.at_new (s.trans s') hL, RL.put h1 h2 h3 np s' w'⟩
theorem HTree.ft {H H' : Hp} {v : V} (e : Ft H H') (h : HTree H v) : HTree H' v := by
  obtain ⟨a, ts, tp, tq, b, xs, ys, zs, h0, h1, h2, h3, h4, h5, h6, h7, h8, h9, h10, h11⟩ := h
  exact ⟨a, ts, tp, tq, b, xs, ys, zs, h0, e _ _ h1, e _ _ h2, h3, fun s hs => (h4 s hs).ft e, e _ _ h5, h6, fun s hs => (h7 s hs).ft e, e _ _ h8, h9, fun s hs => (h10 s hs).ft e, h11.ft e⟩
theorem wds {H : Hp} : ∀ {ns : List V}, (∀ s ∈ ns, Wd H s) → ∃ ws : List Str, ns = ws.map V.str ∧ ∀ w ∈ ws, gw w
  | [], _ => ⟨[], rfl, fun _ h => nomatch h⟩
  | v :: vs, h => by
    obtain ⟨w, rfl, hw⟩ := h v (List.mem_cons_self ..)
    obtain ⟨ws, rfl, hws⟩ := wds (fun s hs => h s (List.mem_cons_of_mem _ hs))
    refine ⟨w :: ws, rfl, fun x hx => ?_⟩
    rcases List.mem_cons.mp hx with rfl | hx
    · exact hw
    · exact hws x hx
theorem all4 {a b c d : Str} (h : gw a) (h2 : gw b) (h3 : gw c) (h4 : gw d) : ∀ w ∈ [a, b, c, d], gw w := fun w hw => by
  rcases List.mem_cons.mp hw with rfl | hw
  · exact h
  · exact all3 h2 h3 h4 w hw
theorem WL.some {H : Hp} {n : Nat} {p : Addr} (h : WL H n p) (e : H p = none) : False := by
  obtain ⟨_, h, _⟩ := h
  rw [e] at h; exact nomatch h
theorem RL.le {H : Hp} {m m' n n' : Nat} {L : Addr} (h : RL H m n L) (a : m ≤ m') (b : n ≤ n') : RL H m' n' L := by
  obtain ⟨us, h1, h2, h3⟩ := h
  refine ⟨us, h1, by omega, fun u hu => ?_⟩
  obtain ⟨p, e, e2, hp⟩ := h3 u hu
  exact ⟨p, e, e2, hp.le a⟩
theorem catR {H : Hp} {m n k : Nat} {a b : Addr} {Q : VK} (ha : RL H m n a) (hb : RL H m k b) (hn : n + k ≤ 1000000) (q : ∀ p H', H p = none → Same H H' → RL H' m (n + k) p → Q (.ref p) H') : rCat (.ref a) (.ref b) H Q := by
  obtain ⟨ws, h1, h2, h3⟩ := ha
  obtain ⟨us, k1, k2, k3⟩ := hb
  refine ⟨a, b, _, _, rfl, rfl, h1, k1, by rw [line_eq]; omega, fun p hp => q _ _ hp (sameNew hp) ⟨ws ++ us, upd_same, by rw [List.length_append]; omega, fun w hw => ?_⟩⟩
  have : ∃ p, w = .ref p ∧ WL H m p := by
    rcases List.mem_append.mp hw with h | h
    · obtain ⟨p, e, _, h⟩ := h3 w h; exact ⟨p, e, h⟩
    · obtain ⟨p, e, _, h⟩ := k3 w h; exact ⟨p, e, h⟩
  obtain ⟨p', e, h⟩ := this
  exact ⟨p', e, fun e => by rw [e] at h; exact h.some hp, h.same (sameNew hp)⟩
def spTWords : Sp := fun vs H Q _ => ∃ v, vs = [v] ∧ HTree H v ∧ ∀ p H', Same H H' → RL H' 107727 9 p → (∃ us q, H' p = some (.lst (us ++ [.ref q])) ∧ NE H' q) → Q (.ref p) H'
theorem has__law_words (F : Facts w K mg) : Has P w K mg base CX0 20 "_law_words" pLawWords spTWords := by
  have h__law_variable_text := has__law_variable_text (P := P) (base := base) F
  have h__law_body_text := has__law_body_text (P := P) (base := base) F (has__law_statement_text F 2)
  have h2 := has__law_body_text (P := P) (base := base) F (has__law_statement_text F 3)
  refine has_0 (k := 19) F.g__law_words F.f__law_words scLawWords bLawWords (fun vs H Q E h => by obtain ⟨_, rfl, _⟩ := h; rfl) fun cdv A' outer s H vs Q E hr h => ?_
  obtain ⟨v, rfl, ⟨a, ts, tp, tq, b, xs, ys, zs, rfl, ha, hts, lts, pts, htp, ltp, ptp, htq, ltq, ptq, hb⟩, q⟩ := h
  refine ⟨_, (pss_cons (ps_setLc (i := 1) (own := [("_law_row", 8)]) (g := gName 8) (tt := tYes) rfl scLawWords.nd rfl rfl (sw_true rfl rfl rfl (by decide +kernel)) (pi_tup (pe_ix ix_tup (pv 0) pe_int (fun _ _ => rfl))) (blkOk_by (N := nLawWords) (sc := defScope sLawWords) (by decide +kernel)) (fun _ _ _ _ _ => (pg_name (i := 8) scLawWords.nd rfl (Or.inl rfl))) (fun _ _ _ _ _ => pts_nil) (fun _ _ _ _ _ => (pe_callH h__law_variable_text hr (by omega) rfl pass0 (pa_cons (pe_lst (pa_cons pe_str pa_nil)) (pa_cons (pe_ix (show IxR _ (rIxT K) from ix_tup) (pv 8) pe_int (fun _ _ => rfl)) (pa_cons (pe_ix (show IxR _ (rIxT K) from ix_tup) (pv 8) pe_int (fun _ _ => rfl)) pa_nil))))))
    (pss_cons (ps_set (i := 1) scLawWords.nd rfl (Or.inl rfl) (pe_op op_cat (pv 1) (pe_lc (own := [("_law_row", 8)]) (g := gName 8) (tt := tYes) rfl scLawWords.nd (pi_tup (pe_ix ix_tup (pv 0) pe_int (fun _ _ => rfl))) (blkOk_by (N := nLawWords) (sc := defScope sLawWords) (by decide +kernel)) (fun _ _ _ _ _ => (pg_name (i := 8) scLawWords.nd rfl (Or.inl rfl))) (fun _ _ _ _ _ => pts_nil) (fun _ _ _ _ _ => (pe_callH h__law_variable_text hr (by omega) rfl pass0 (pa_cons (pe_lst (pa_cons pe_str pa_nil)) (pa_cons (pe_ix (show IxR _ (rIxT K) from ix_tup) (pv 8) pe_int (fun _ _ => rfl)) (pa_cons (pe_ix (show IxR _ (rIxT K) from ix_tup) (pv 8) pe_int (fun _ _ => rfl)) pa_nil))))))))
    (pss_cons (ps_for PassesOwn.never rfl (pi_tup (pe_ix ix_tup (pv 0) pe_int (fun _ _ => rfl))) (pg_tup rfl (pgs_cons (pg_name (i := 2) scLawWords.nd rfl (Or.inl rfl)) (pgs_cons (pg_name (i := 3) scLawWords.nd rfl (Or.inl rfl)) (pgs_cons (pg_name (i := 4) scLawWords.nd rfl (Or.inl rfl)) (pgs_cons (pg_name (i := 5) scLawWords.nd rfl (Or.inl rfl)) pgs_nil)))))
      (pss_cons (ps_set (i := 6) scLawWords.nd rfl (Or.inl rfl) (pe_op op_cat (pe_op op_cat (pe_lst (pa_cons pe_str (pa_cons pe_str (pa_cons (pv 2) (pa_cons pe_str pa_nil))))) (pe_callTy call_list_of (by rfl) F.z_list (by decide +kernel) (pa_cons (pv 3) pa_nil))) (pe_lst (pa_cons pe_str (pa_cons pe_str pa_nil)))))
      (pss_cons (ps_for PassesOwn.never rfl (pi_tup (pv 4)) (pg_name (i := 7) scLawWords.nd rfl (Or.inl rfl))
        (pss_one (ps_set (i := 6) scLawWords.nd rfl (Or.inl rfl) (pe_op op_cat (pv 6) (pe_callH h__law_variable_text hr (by omega) rfl pass0 (pa_cons (pe_lst pa_nil) (pa_cons (pe_ix ix_tup (pv 7) pe_int (fun _ _ => rfl)) (pa_cons (pe_ix ix_tup (pv 7) pe_int (fun _ _ => rfl)) pa_nil))))))))
      (pss_one (ps_expr (pe_bm PySem.F.plainAttrs_list PySem.F.slot_list_append PySem.F.type_list_append mt_append (pv 1) (pa_cons (pe_op op_cat (pe_op op_cat (pe_op op_cat (pv 6) (pe_lst (pa_cons pe_str pa_nil))) (pe_callH h__law_body_text hr (by omega) rfl pass0 (pa_cons (pv 5) pa_nil))) (pe_lst (pa_cons pe_str pa_nil))) pa_nil)))))))
    (pss_cons (ps_expr (pe_bm PySem.F.plainAttrs_list PySem.F.slot_list_append PySem.F.type_list_append mt_append (pv 1) (pa_cons (pe_op op_cat (pe_op op_cat (pe_lst (pa_cons pe_str (pa_cons pe_str pa_nil))) (pe_callH h2 hr (by omega) rfl pass0 (pa_cons (pe_ix ix_tup (pv 0) pe_int (fun _ _ => rfl)) pa_nil))) (pe_lst (pa_cons pe_str pa_nil))) pa_nil)))
    (pss_one (ps_ret (pv 1))))))), ?_⟩
  refine ⟨_, rfl, a, _, 0, _, rfl, rfl, SqT.of ha, rfl, ts, rfl, ⟨_, SqT.of hts⟩, fun L hL => lc_pt (m := 5) hts (by omega) hL (fun x H1 Q1 hx s1 q1 => ?_) (fun H1 s1 r1 => ?_)⟩
  · obtain ⟨pa, nm, z, rfl, hpa, gn, hz⟩ := pts x hx
    refine ⟨lb rfl, fun p0 hp0 => ?_⟩
    have s0 := sameNew (o := .lst ([S "state"].map V.str)) hp0
    refine ⟨_, rfl, pa, _, 0, _, rfl, rfl, SqT.of (s0 _ _ (s1 _ _ hpa)), rfl, _, rfl, pa, _, 1, _, rfl, rfl, SqT.of (s0 _ _ (s1 _ _ hpa)), rfl, p0, nm, z, rfl, WL.mk (n := 1) [S "state"] (all1 (by decide +kernel)) (Nat.le_refl _), gn, hz, fun p2 H2 n2 s2 w2 => q1 _ _ (noneS s0 n2) (s0.trans s2) w2⟩
  refine ⟨_, rfl, _, rfl, a, _, 1, _, rfl, rfl, SqT.of (s1 _ _ ha), rfl, tp, rfl, ⟨_, SqT.of (s1 _ _ htp)⟩, fun L2 hL2 => lc_pt (m := 5) (s1 _ _ htp) (by omega) hL2 (fun x H2 Q1 hx s2 q1 => ?_) (fun H2 s2 r2 => ?_)⟩
  · obtain ⟨pa, nm, z, rfl, hpa, gn, hz⟩ := ptp x hx
    refine ⟨lb rfl, fun p0 hp0 => ?_⟩
    have s0 := sameNew (o := .lst ([S "param"].map V.str)) hp0
    have hpa2 := s0 _ _ (s2 _ _ (s1 _ _ hpa))
    refine ⟨_, rfl, pa, _, 0, _, rfl, rfl, SqT.of hpa2, rfl, _, rfl, pa, _, 1, _, rfl, rfl, SqT.of hpa2, rfl, p0, nm, z, rfl, WL.mk (n := 1) [S "param"] (all1 (by decide +kernel)) (Nat.le_refl _), gn, hz, fun p2 H2 n2 s2 w2 => q1 _ _ (noneS s0 n2) (s0.trans s2) w2⟩
  have s12 := s1.trans s2
  refine catR (r1.same s2) r2 (by omega) (fun R H3 nR s3 r3 => ?_)
  have s13 := s12.trans s3
  replace r3 := r3.le (m' := 107727) (n' := 6) (by omega) (by omega)
  replace nR := noneS s12 nR
  clear s3 s2 s1 r1 r2
  refine ⟨_, rfl, a, _, 2, _, rfl, rfl, SqT.of (s13 _ _ ha), rfl, tq, rfl, ⟨_, SqT.of (s13 _ _ htq)⟩, ?_⟩
  refine for_tup (xs := zs) (fun i σ H4 => ∃ z2 z3 z4 z5 z6 z7, σ = [some (.ref a), some (.ref R), z2, z3, z4, z5, z6, z7, none] ∧ Same H H4 ∧ RL H4 107727 (6 + i) R) ⟨_, _, _, _, _, _, rfl, s13, r3⟩ (fun i σ H4 _ h => ?_) (fun i x σ H4 hi h => ?_) (fun σ H4 h => ?_)
  · obtain ⟨_, _, _, _, _, _, _, s, _⟩ := h
    exact SqT.of (s _ _ htq)
  · obtain ⟨z2, z3, z4, z5, z6, z7, rfl, s4, r4⟩ := h
    obtain ⟨pa, nm, ti, tr, bb, ns, rs, rfl, hpa, gn, hti, lti, pti, htr, ltr, ptr, hbb⟩ := ptq x (List.mem_of_getElem? hi)
    obtain ⟨nws, rfl, gnw⟩ := wds pti
    rw [List.length_map] at lti
    refine ⟨pa, _, rfl, SqT.of (s4 _ _ hpa), rfl, _, _, rfl, _, _, rfl, _, _, rfl, _, _, rfl, rfl, ?_⟩
    refine ⟨_, rfl, lb rfl, fun p0 hp0 => ?_⟩
    have w0 := WL.mk (H := H4) (p := p0) (n := 4) [S "(", S "procedure", nm, S "("] (all4 g_op (by decide +kernel) gn g_op) (Nat.le_refl _)
    have s0 := sameNew (o := .lst ([S "(", S "procedure", nm, S "("].map V.str)) hp0
    refine ⟨_, rfl, ti, _, rfl, .inr (SqT.of (s0 _ _ (s4 _ _ hti))), fun p1 hp1 => ?_⟩
    have w1 := WL.mk (p := p1) (n := 2) nws gnw lti (H := upd H4 p0 (.lst ([S "(", S "procedure", nm, S "("].map V.str)))
    refine catF (w0.same (sameNew hp1)) w1 (by omega) (fun p2 H5 n2 s2 w2 => ⟨lb rfl, fun p3 hp3 => ?_⟩)
    have s05 := (s0.trans (sameNew hp1)).trans s2
    have w3 := WL.mk (H := H5) (p := p3) (n := 2) [S ")", S "("] (all2 g_cp g_op) (Nat.le_refl _)
    have s3 := sameNew (o := .lst ([S ")", S "("].map V.str)) hp3
    refine catF (w2.same s3) w3 (by omega) (fun p4 H6 n4 s6 w4 => ?_)
    have s06 := (s05.trans s3).trans s6
    generalize p4 = wp4 at w4 ⊢
    refine ⟨_, rfl, tr, rfl, ⟨_, SqT.of (s06 _ _ (s4 _ _ htr))⟩, ?_⟩
    refine for_tup (xs := rs) (fun j σ H7 => ∃ wp z, σ = [some (.ref a), some (.ref R), some (.str nm), some (.ref ti), some (.ref tr), some bb, some (.ref wp), z, none] ∧ Same H4 H7 ∧ WL H7 (8 + j * 5) wp) ⟨wp4, _, rfl, s06, w4⟩ (fun j σ H7 _ h => ?_) (fun j x σ H7 hj h => ?_) (fun σ H7 h => ?_)
    · obtain ⟨_, _, _, s, _⟩ := h
      exact SqT.of (s _ _ (s4 _ _ htr))
    · obtain ⟨wp, z, rfl, s7, w7⟩ := h
      obtain ⟨pb, nm2, zz, rfl, hpb, gn2, hz2⟩ := ptr x (List.mem_of_getElem? hj)
      have hj2 : j < rs.length := (List.getElem?_eq_some_iff.mp hj).1
      refine ⟨_, rfl, lb rfl, fun p8 hp8 => ?_⟩
      have s8 := sameNew (o := .lst (([] : List Str).map V.str)) hp8
      have hp9 := s8 _ _ (s7 _ _ (s4 _ _ hpb))
      refine ⟨_, rfl, pb, _, 0, _, rfl, rfl, SqT.of hp9, rfl, _, rfl, pb, _, 1, _, rfl, rfl, SqT.of hp9, rfl, p8, nm2, zz, rfl, WL.mk (n := 1) [] (fun _ h => nomatch h) (Nat.zero_le _), gn2, hz2, fun p9 H9 n9 s9 w9 => ?_⟩
      refine catF ((w7.same s8).same s9) w9 (by omega) (fun pA HA nA sA wA => ?_)
      exact ⟨pA, _, rfl, ((s7.trans s8).trans s9).trans sA, wA.le (by omega)⟩
    · obtain ⟨wp, z, rfl, s7, w7⟩ := h
      obtain ⟨us, h1, h2u, h3⟩ := r4.same s7
      have hall : HAll (HStm H7 2) H7 23824 bb := by
        obtain ⟨ba, bxs, e, e1, e2, e3⟩ := hbb.ft (frS (s4.trans s7)).ft
        have e5 := fS_vals
        exact ⟨ba, bxs, fS 2, e, e1, e3, by rw [e5.1]; omega⟩
      refine ⟨_, rfl, .inl ⟨rfl, _, SqL.of h1⟩, _, rfl, lb rfl, fun p8 hp8 => ?_⟩
      have s8 := sameNew (o := .lst ([S ")"].map V.str)) hp8
      have w8 := WL.mk (H := H7) (p := p8) (n := 1) [S ")"] (all1 g_cp) (Nat.le_refl _)
      refine catF (w7.same s8) w8 (by omega) (fun p9 H9 n9 s9 w9 => ?_)
      have s79 := s8.trans s9
      refine ⟨_, rfl, bb, 23824, rfl, hall.ft (frS s79).ft (fun k x h => h.ft (frS s79).ft), by omega, fun pA HA sA wA => ?_⟩
      refine catF (w9.same sA) wA (by omega) (fun pB HB nB sB wB => ⟨lb rfl, fun pC hpC => ?_⟩)
      have sC := sameNew (o := .lst ([S ")"].map V.str)) hpC
      have wC := WL.mk (H := HB) (p := pC) (n := 1) [S ")"] (all1 g_cp) (Nat.le_refl _)
      have s7C := ((s79.trans sA).trans sB).trans sC
      refine catF (wB.same sC) wC (by omega) (fun pD HD nD sD wD => ?_)
      have s7D := s7C.trans sD
      have hi2 : i < zs.length := (List.getElem?_eq_some_iff.mp hi).1
      have hr2 := RL.put h1 h2u h3 (noneS s7C nD) s7D (wD.le (m := 107727) (by omega))
      refine ⟨R, us, _, rfl, rfl, s7D _ _ h1, by rw [line_eq]; omega, ?_⟩
      exact ⟨_, _, _, _, _, _, rfl, Same.at_new ((s4.trans s7).trans s7D) nR, hr2⟩
  · obtain ⟨z2, z3, z4, z5, z6, z7, rfl, s4, r4⟩ := h
    obtain ⟨us, h1, h2u, h3⟩ := r4
    have hall : HAll (HStm H4 3) H4 107724 b := by
      have := (hb.ft (frS s4).ft).all
      rw [fS_vals.2.2.2] at this; exact this
    refine ⟨_, rfl, .inl ⟨rfl, _, SqL.of h1⟩, lb rfl, fun p8 hp8 => ?_⟩
    have s8 := sameNew (o := .lst ([S "(", S "beat"].map V.str)) hp8
    have w8 := WL.mk (H := H4) (p := p8) (n := 2) [S "(", S "beat"] (all2 g_op (by decide +kernel)) (Nat.le_refl _)
    refine ⟨_, rfl, a, _, 3, _, rfl, rfl, SqT.of (s8 _ _ (s4 _ _ ha)), rfl, b, 107724, rfl, hall.ft (frS s8).ft (fun k x h => h.ft (frS s8).ft), by omega, fun pA HA sA wA => ?_⟩
    refine catE (w8.same sA) wA (by omega) ⟨_, _, sA _ _ upd_same⟩ (fun pB HB nB sB wB eB => ⟨lb rfl, fun pC hpC => ?_⟩)
    have sC := sameNew (o := .lst ([S ")"].map V.str)) hpC
    have wC := WL.mk (H := HB) (p := pC) (n := 1) [S ")"] (all1 g_cp) (Nat.le_refl _)
    have s7C := ((s8.trans sA).trans sB).trans sC
    have eB2 : NE (upd HB pC (.lst ([S ")"].map V.str))) pB := by
      obtain ⟨v, vs, e⟩ := eB
      exact ⟨v, vs, sC _ _ e⟩
    refine catE (wB.same sC) wC (by omega) eB2 (fun pD HD nD sD wD eD => ?_)
    have s7D := s7C.trans sD
    have hr2 := RL.put h1 h2u h3 (noneS s7C nD) s7D (wD.le (m := 107727) (by omega))
    refine ⟨R, us, _, rfl, rfl, s7D _ _ h1, by rw [line_eq]; omega, ?_⟩
    refine ⟨_, rfl, q _ _ (Same.at_new (s4.trans s7D) nR) (hr2.le (Nat.le_refl _) (by omega)) ⟨us, pD, upd_same, ?_⟩⟩
    have hne : pD ≠ R := fun e => by rw [e] at nD; exact nomatch nD.symm.trans (s7C _ _ h1)
    obtain ⟨v, vs, e⟩ := eD
    exact ⟨v, vs, by rw [upd_ne hne]; exact e⟩
end
end K10
/-! K10Gen9: the words changed, the text of them. Printed by expand.py from K10Gen9.tpl. -/
namespace K10
open PySem PySem.Spec PyProof.Rows L2
/-! ### lists of words beside the draws -/
/-- good words -/
def gws (ws : List Str) : Prop := ∀ w ∈ ws, gw w
theorem gws.app {a b : List Str} (ha : gws a) (hb : gws b) : gws (a ++ b) := fun w hw => by
  rcases List.mem_append.mp hw with h | h
  · exact ha w h
  · exact hb w h
theorem cutTo {K : PySem.W.Frag} {D A a : Addr} {H : Hp} {ws : List Str} {k : Nat} {Q : VK} (d : Dr D A H) (ha : hid A H a = some (.lst (ws.map V.str))) (q : ∀ p H', Sm A H H' → Dr D A H' → hid A H' p = some (.lst ((ws.take k).map V.str)) → Q (.ref p) H') :
    rSlL K (.ref a) none (some (k : Int)) H Q := by
  refine ⟨a, _, rfl, SqL.of (hid_of ha).1, fun p hp => ?_⟩
  have e : cutV (ws.map V.str) none (some (k : Int)) = (ws.take k).map V.str := by rw [cut_to, List.map_take]
  rw [e]
  exact q p _ (d.sm hp) (d.new hp) (d.at_new hp)
theorem cutFrom {K : PySem.W.Frag} {D A a : Addr} {H : Hp} {ws : List Str} {k : Nat} {i : Int} {Q : VK} (d : Dr D A H) (ha : hid A H a = some (.lst (ws.map V.str))) (hi : i = (k : Int)) (q : ∀ p H', Sm A H H' → Dr D A H' → hid A H' p = some (.lst ((ws.drop k).map V.str)) → Q (.ref p) H') :
    rSlL K (.ref a) (some i) none H Q := by
  subst hi
  refine ⟨a, _, rfl, SqL.of (hid_of ha).1, fun p hp => ?_⟩
  have e : cutV (ws.map V.str) (some (k : Int)) none = (ws.drop k).map V.str := by rw [cut_from, List.map_drop]
  rw [e]
  exact q p _ (d.sm hp) (d.new hp) (d.at_new hp)
theorem catD {D A a b : Addr} {H : Hp} {ws us : List Str} {Q : VK} (d : Dr D A H) (ha : hid A H a = some (.lst (ws.map V.str))) (hb : hid A H b = some (.lst (us.map V.str))) (hn : ws.length + us.length ≤ 1100000) (q : ∀ p H', Sm A H H' → Dr D A H' → hid A H' p = some (.lst ((ws ++ us).map V.str)) → Q (.ref p) H') :
    rCat (.ref a) (.ref b) H Q := by
  refine ⟨a, b, _, _, rfl, rfl, (hid_of ha).1, (hid_of hb).1, by rw [line_eq, List.length_map, List.length_map]; omega, fun p hp => ?_⟩
  have e : ws.map V.str ++ us.map V.str = (ws ++ us).map V.str := by rw [List.map_append]
  rw [e]
  exact q p _ (d.sm hp) (d.new hp) (d.at_new hp)
theorem wordAt {ws : List Str} {k : Nat} {w : Str} {i : Int} (h : ws[k]? = some w) (hi : i = (k : Int)) : atI (ws.map V.str) i = some (.str w) := by
  subst hi
  exact atI_nat (by rw [List.getElem?_map, h]; rfl)
theorem noPart {σ : L2.St} {H : Hp} {Q : Option Int → Hp → Prop} (h : Q none H) : tNoPart σ H Q := h
def others : List Str := (["(", ")", "x", "beat", "0", "07", "9", "1001", "2147483647", "99999999999", "at", "rem", "state", "set", "A", "procedure"] : List String).map Str.ofString
theorem g_others : gws others := by
  have : others.all (fun w => decide (gw w)) = true := by decide +kernel
  intro w hw
  exact of_decide_eq_true (List.all_eq_true.mp this w hw)
theorem g_x : gw (S "x") := by decide +kernel
/-! ### legal texts -/
def lg (t : Str) : Prop := t.cps.toList.all legal = true
instance (t : Str) : Decidable (lg t) := inferInstanceAs (Decidable (_ = _))
theorem lg.app {a b : Str} (ha : lg a) (hb : lg b) : lg (a ++ b) := by
  have e : (a ++ b).cps.toList = a.cps.toList ++ b.cps.toList := Array.toList_append
  unfold lg at *
  rw [e, List.all_append, ha, hb]
  rfl
theorem badAt_none : ∀ (l : List Nat) (i : Nat), l.all legal = true → badAt i l = none
  | [], _, _ => rfl
  | c :: cs, i, h => by
    rw [List.all_cons, Bool.and_eq_true] at h
    rw [badAt, if_pos h.1]
    exact badAt_none cs (i + 1) h.2
theorem badAt_some : ∀ (l : List Nat) (i c : Nat) (r : List Nat), l.all legal = true → legal c = false → badAt i (l ++ c :: r) = some (i + l.length)
  | [], i, c, r, _, hc => by
    show badAt i (c :: r) = _
    rw [badAt, hc]
    rfl
  | a :: as, i, c, r, h, hc => by
    rw [List.all_cons, Bool.and_eq_true] at h
    show badAt i (a :: (as ++ c :: r)) = _
    rw [badAt, if_pos h.1, badAt_some as (i + 1) c r h.2 hc, List.length_cons]
    congr 1
    omega
theorem cutS_to (t : Str) (k : Nat) : (cutS t none (some (k : Int))).cps.toList = t.cps.toList.take k := by
  show ((t.cps.toList.drop (HT.sIx t.length 0 none)).take (HT.sIx t.length t.length (some (k : Int)) - HT.sIx t.length 0 none)) = _
  rw [HT.sIx_none, HT.sIx_nat, List.drop_zero, Nat.sub_zero]
  have : t.length = t.cps.toList.length := by rw [Array.length_toList]; rfl
  rw [this]
  by_cases h : k ≤ t.cps.toList.length
  · rw [Nat.min_eq_left h]
  · rw [Nat.min_eq_right (by omega), List.take_length, List.take_of_length_le (by omega)]
theorem cutS_from (t : Str) (k : Nat) : (cutS t (some (k : Int)) none).cps.toList = t.cps.toList.drop k := by
  show ((t.cps.toList.drop (HT.sIx t.length 0 (some (k : Int)))).take (HT.sIx t.length t.length none - HT.sIx t.length 0 (some (k : Int)))) = _
  rw [HT.sIx_none, HT.sIx_nat]
  have : t.length = t.cps.toList.length := by rw [Array.length_toList]; rfl
  rw [this]
  by_cases h : k ≤ t.cps.toList.length
  · rw [Nat.min_eq_left h, List.take_of_length_le (by rw [List.length_drop]; omega)]
  · rw [Nat.min_eq_right (by omega), List.drop_length, List.drop_of_length_le (by omega)]
    simp
section
variable {P : Program} {w : World} {K : PySem.W.Frag} {mg : Str → Option Value} {base : Heap}
def nLawChanged : List Str := ["_law_words_here", "_law_draws_here", "_law_at", "_law_rows", "_law_other", "_law_k", "_law_place_here", "_law_how", "_law_word_here"]
def pLawChanged : List Str := ["_law_words_here", "_law_draws_here", "_law_at"]
theorem scLawChanged : FnScope nLawChanged pLawChanged (defScope sLawChanged) := ⟨rfl, rfl, rfl, by decide +kernel, rfl, by decide +kernel, by decide +kernel⟩
theorem bLawChanged : BindsBy "_law_changed" sLawChanged pLawChanged := fun _ _ _ _ _ _ us hl => match us, hl with | [_, _, _], _ => rfl
def nLawText : List Str := ["_law_words_here", "_law_draws_here", "_law_at", "_law_text_here", "_law_k", "_law_gap", "_law_place_here"]
def pLawText : List Str := ["_law_words_here", "_law_draws_here", "_law_at"]
theorem scLawText : FnScope nLawText pLawText (defScope sLawText) := ⟨rfl, rfl, rfl, by decide +kernel, rfl, by decide +kernel, by decide +kernel⟩
theorem bLawText : BindsBy "_law_text" sLawText pLawText := fun _ _ _ _ _ _ us hl => match us, hl with | [_, _, _], _ => rfl
def spChg : Sp := fun vs H Q _ => ∃ W D A, ∃ ws : List Str, vs = [.ref W, .ref D, .ref A] ∧ Dr D A H ∧ hid A H W = some (.lst (ws.map V.str)) ∧ ws ≠ [] ∧ ws.length ≤ 1000000 ∧ gws ws ∧
  ∀ p H', ∀ us : List Str, Sm A H H' → Dr D A H' → hid A H' p = some (.lst (us.map V.str)) → us.length ≤ ws.length + 3 → gws us → Q (.ref p) H'
/-- behind k turns -/
def ChI (H : Hp) (W D A O : Addr) (n k : Nat) (σ : L2.St) (H4 : Hp) : Prop := ∃ Rk z5 z6 z7 z8, ∃ us : List Str, σ = [some (.ref W), some (.ref D), some (.ref A), some (.ref Rk), some (.ref O), z5, z6, z7, z8] ∧ Sm A H H4 ∧ Dr D A H4 ∧ hid A H4 O = some (.lst (others.map V.str)) ∧ hid A H4 Rk = some (.lst (us.map V.str)) ∧ us ≠ [] ∧ us.length ≤ n + k ∧ gws us
/-- if not rows: rows = ["x"] -/
theorem no_rows {K : PySem.W.Frag} {E : Ends} {σ : L2.St} {H : Hp} {R : Addr} {us : List Str} (hs : σ[3]? = some (some (.ref R))) (hR : H R = some (.lst (us.map V.str))) (q1 : us ≠ [] → E.nx σ H) (q2 : us = [] → ∀ p, H p = none → E.nx (σ.set 3 (some (.ref p))) (upd H p (.lst [.str (S "x")]))) :
    tIfS (tNot (fun σ H Q => tVar 3 σ H fun x H' => ∃ k, TruV K x H' k ∧ Q k H')) (tAsg (tLst (tCons (L2.tC (.str "x")) tNil)) (gName 3)) tNext E σ H := by
  refine ⟨_, hs, _, .inl ⟨_, SqL.of hR, rfl⟩, ?_⟩
  cases us with
  | nil => exact iteT ⟨lb rfl, fun p hp => q2 rfl p hp⟩
  | cons a as => exact iteF (q1 (fun z => nomatch z))
theorem ChI.fin {K : PySem.W.Frag} {E : Ends} {H H7 H8 : Hp} {W D A O Rn : Addr} {n k : Nat} {z5 z6 z7 z8 : Option V} {us us' : List Str} (e : E.nx = ChI H W D A O n (k + 1)) (s7 : Sm A H H7) (hO : hid A H7 O = some (.lst (others.map V.str))) (hl : us.length ≤ n + k) (s8 : Sm A H7 H8) (d8 : Dr D A H8)
    (h8 : hid A H8 Rn = some (.lst (us'.map V.str))) (l8 : us'.length ≤ us.length + 1) (g8 : gws us') :
    tIfS (tNot (fun σ H Q => tVar 3 σ H fun x H' => ∃ k, TruV K x H' k ∧ Q k H')) (tAsg (tLst (tCons (L2.tC (.str "x")) tNil)) (gName 3)) tNext E [some (.ref W), some (.ref D), some (.ref A), some (.ref Rn), some (.ref O), z5, z6, z7, z8] H8 := by
  refine no_rows rfl (hid_of h8).1 (fun ne => ?_) (fun e0 p hp => ?_)
  · rw [e]
    exact ⟨Rn, _, _, _, _, us', rfl, s7.trans s8, d8, s8 _ _ hO, h8, ne, by omega, g8⟩
  · rw [e]
    exact ⟨p, _, _, _, _, [S "x"], rfl, (s7.trans s8).trans (d8.sm hp), d8.new hp, d8.sm hp _ _ (s8 _ _ hO), d8.at_new hp, (fun z => nomatch z), by simp; omega, all1 g_x⟩
theorem and_b {t u : TT} {σ : L2.St} {H : Hp} {b c : Bool} {Q : Bool → Hp → Prop} (h1 : ∀ Q' : Bool → Hp → Prop, Q' b H → t σ H Q') (h2 : b = true → ∀ Q' : Bool → Hp → Prop, Q' c H → u σ H Q') (q : Q (b && c) H) : tAnd t u σ H Q := by
  refine h1 _ ?_
  cases b with
  | true => exact iteT (h2 rfl _ q)
  | false => exact iteF q
theorem or_b {t u : TT} {σ : L2.St} {H : Hp} {b c : Bool} {Q : Bool → Hp → Prop} (h1 : ∀ Q' : Bool → Hp → Prop, Q' b H → t σ H Q') (h2 : b = false → ∀ Q' : Bool → Hp → Prop, Q' c H → u σ H Q') (q : Q (b || c) H) : tOr t u σ H Q := by
  refine h1 _ ?_
  cases b with
  | true => exact iteT q
  | false => exact iteF (h2 rfl _ q)
abbrev tLen (K : PySem.W.Frag) (i : Nat) : TE := tCB (fun xs H Q => ∃ p ys, xs = [V.ref p] ∧ (SqL K H p ys ∨ SqT K H p ys) ∧ Q (.int ys.length) H) (tCons (tVar i) tNil)
theorem swap_test {K : PySem.W.Frag} {σ : L2.St} {H : Hp} {r : Int} {j : Nat} {R : Addr} {us : List Str} {Q : Bool → Hp → Prop} (h7 : σ[7]? = some (some (.int r))) (h6 : σ[6]? = some (some (.int (j : Nat)))) (h3 : σ[3]? = some (some (.ref R))) (hR : H R = some (.lst (us.map V.str))) (q : Q (decide (r = 4 ∧ j + 1 < us.length)) H) :
    tAnd (tTest (tOp rEq (tVar 7) (L2.tC (.int 4)))) (tTest (tOp (rI0 fun i j => .bl (decide (i < j))) (tOp (rI0 fun i j => .int (i + j)) (tVar 6) (L2.tC (.int 1))) (tLen K 3))) σ H Q := by
  refine and_b (b := decide (r = 4)) (c := decide (j + 1 < us.length)) (fun Q' q' => ⟨_, h7, rfl, _, rfl, by rw [int_eq]; exact q'⟩) (fun _ Q' q' => ⟨_, h6, _, _, rfl, rfl, _, h3, R, _, rfl, .inl (SqL.of hR), _, _, rfl, rfl, _, rfl, ?_⟩) ?_
  · have e : decide (((j : Nat) : Int) + 1 < (((us.map V.str).length : Nat) : Int)) = decide (j + 1 < us.length) := by
      rw [List.length_map]
      exact decide_eq_decide.mpr (by omega)
    rw [e]; exact q'
  · have e : (decide (r = 4) && decide (j + 1 < us.length)) = decide (r = 4 ∧ j + 1 < us.length) := by rw [Bool.decide_and]
    rw [e]; exact q
theorem gws.take {ws : List Str} (h : gws ws) (k : Nat) : gws (ws.take k) := fun w hw => h w (List.mem_of_mem_take hw)
theorem gws.drop {ws : List Str} (h : gws ws) (k : Nat) : gws (ws.drop k) := fun w hw => h w (List.mem_of_mem_drop hw)
theorem has__law_changed (F : Facts w K mg) : Has P w K mg base CX0 2 "_law_changed" pLawChanged spChg := by
  have h__law_take := has__law_take (P := P) (base := base) F
  refine has_0 (k := 1) F.g__law_changed F.f__law_changed scLawChanged bLawChanged (fun vs H Q E h => by obtain ⟨_, _, _, _, rfl, _⟩ := h; rfl) fun cdv A' outer s H vs Q E hr h => ?_
  obtain ⟨W, D, A, ws, rfl, dr, hW, hne, hlen, hgw, q⟩ := h
  refine ⟨_, (pss_cons (ps_set (i := 3) scLawChanged.nd rfl (Or.inl rfl) (pe_callTy call_list_of (by rfl) F.z_list (by decide +kernel) (pa_cons (pv 0) pa_nil)))
    (pss_cons (ps_set (i := 4) scLawChanged.nd rfl (Or.inl rfl) (pe_lst (pa_cons pe_str (pa_cons pe_str (pa_cons pe_str (pa_cons pe_str (pa_cons pe_str (pa_cons pe_str (pa_cons pe_str (pa_cons pe_str (pa_cons pe_str (pa_cons pe_str (pa_cons pe_str (pa_cons pe_str (pa_cons pe_str (pa_cons pe_str (pa_cons pe_str (pa_cons pe_str pa_nil))))))))))))))))))
    (pss_cons (ps_for PassesOwn.never rfl (pi_range1 rfl F.z_range (pa_cons (pe_callH h__law_take hr (by omega) rfl pass0 (pa_cons (pv 1) (pa_cons (pv 2) (pa_cons pe_int pa_nil)))) pa_nil)) (pg_name (i := 5) scLawChanged.nd rfl (Or.inl rfl))
      (pss_cons (ps_set (i := 6) scLawChanged.nd rfl (Or.inl rfl) (pe_callH h__law_take hr (by omega) rfl pass0 (pa_cons (pv 1) (pa_cons (pv 2) (pa_cons (pe_callB call_len_seq (by rfl) F.z_len (by decide +kernel) (pa_cons (pv 3) pa_nil)) pa_nil)))))
      (pss_cons (ps_set (i := 7) scLawChanged.nd rfl (Or.inl rfl) (pe_callH h__law_take hr (by omega) rfl pass0 (pa_cons (pv 1) (pa_cons (pv 2) (pa_cons pe_int pa_nil)))))
      (pss_cons (ps_set (i := 8) scLawChanged.nd rfl (Or.inl rfl) (pe_ix ix_list (pv 4) (pe_callH h__law_take hr (by omega) rfl pass0 (pa_cons (pv 1) (pa_cons (pv 2) (pa_cons (pe_callB call_len_seq (by rfl) F.z_len (by decide +kernel) (pa_cons (pv 4) pa_nil)) pa_nil)))) (fun _ _ => rfl)))
      (pss_cons (ps_if (PW.pt (pw_and (pt_cmpR op_eq (pv 7) pe_int (nomark _)) (pw_and1 (pt_cmpR op_lt (pe_op op_add (pv 6) pe_int) (pe_callB call_len_seq (by rfl) F.z_len (by decide +kernel) (pa_cons (pv 3) pa_nil)) (nomark _))))) (pss_one (ps_set (i := 3) scLawChanged.nd rfl (Or.inl rfl) (pe_op op_cat (pe_op op_cat (pe_slice sl_list (pv 3) po_none (po_some (pv 6))) (pe_lst (pa_cons (pe_ix ix_list (pv 3) (pe_op op_add (pv 6) pe_int) (fun _ _ => rfl)) (pa_cons (pe_ix ix_list (pv 3) (pv 6) (fun _ _ => rfl)) pa_nil)))) (pe_slice sl_list (pv 3) (po_some (pe_op op_add (pv 6) pe_int)) po_none))))
        (pss_one (ps_set (i := 3) scLawChanged.nd rfl (Or.inl rfl) (pe_op op_cat (pe_op op_cat (pe_slice sl_list (pv 3) po_none (po_some (pv 6))) (pe_ix ix_list (pe_lst (pa_cons (pe_lst (pa_cons (pv 8) pa_nil)) (pa_cons (pe_lst pa_nil) (pa_cons (pe_lst (pa_cons (pv 8) (pa_cons (pe_ix ix_list (pv 3) (pv 6) (fun _ _ => rfl)) pa_nil))) (pa_cons (pe_lst (pa_cons (pe_ix ix_list (pv 3) (pv 6) (fun _ _ => rfl)) (pa_cons (pe_ix ix_list (pv 3) (pv 6) (fun _ _ => rfl)) pa_nil))) (pa_cons (pe_lst (pa_cons (pv 8) pa_nil)) pa_nil)))))) (pv 7) (fun _ _ => rfl))) (pe_slice sl_list (pv 3) (po_some (pe_op op_add (pv 6) pe_int)) po_none)))))
      (pss_one (ps_if (pt_not (pt_truth (pv 3) (by intro _; rfl))) (pss_one (ps_set (i := 3) scLawChanged.nd rfl (Or.inl rfl) (pe_lst (pa_cons pe_str pa_nil))))
        pss_nil)))))))
    (pss_one (ps_ret (pv 3)))))), ?_⟩
  refine ⟨_, rfl, W, _, rfl, .inl (SqL.of (hid_of hW).1), fun R hR => ⟨lb rfl, fun O hO => ?_⟩⟩
  have d1 := dr.new (o := .lst (ws.map V.str)) hR
  have hRR := dr.at_new (o := .lst (ws.map V.str)) hR
  have s1 := dr.sm (o := .lst (ws.map V.str)) hR
  have d2 := d1.new (o := .lst (others.map V.str)) hO
  have hOO := d1.at_new (o := .lst (others.map V.str)) hO
  have s12 := d1.sm (o := .lst (others.map V.str)) hO
  have s2 := s1.trans s12
  have hR2 := s12 _ _ hRR
  refine ⟨_, rfl, _, rfl, D, A, 4, rfl, d2, by omega, fun rn H3 rn0 rn1 s3 d3 => ⟨rn, rfl, by omega, by omega, ?_⟩⟩
  refine for_range (n := rn.toNat) (ChI H W D A O ws.length)
    ⟨R, _, _, _, _, ws, rfl, s2.trans s3, d3, s3 _ _ hOO, s3 _ _ hR2, hne, Nat.le_refl _, hgw⟩ (fun k σ H4 hk h => ?_) (fun σ H4 h => ?_)
  · obtain ⟨Rk, z5, z6, z7, z8, us, rfl, s4, d4, hO4, hU4, une, ulen, ugw⟩ := h
    have upos : 0 < us.length := List.length_pos_iff.mpr une
    have k3 : k < 3 := by omega
    refine ⟨_, rfl, _, rfl, _, rfl, Rk, _, rfl, .inl (SqL.of (hid_of hU4).1), D, A, _, rfl, d4, by rw [List.length_map]; omega, fun r5 H5 r50 r51 s5 d5 => ?_⟩
    rw [List.length_map] at r51
    obtain ⟨j, rfl⟩ : ∃ j : Nat, r5 = (j : Int) := ⟨r5.toNat, by omega⟩
    have hj : j < us.length := by omega
    obtain ⟨wj, hwj⟩ : ∃ wj, us[j]? = some wj := ⟨us[j], List.getElem?_eq_getElem hj⟩
    have gwj : gw wj := ugw wj (List.mem_of_getElem? hwj)
    refine ⟨_, rfl, _, rfl, D, A, 5, rfl, d5, by omega, fun r6 H6 r60 r61 s6 d6 => ?_⟩
    have hO6 := (s5.trans s6) _ _ hO4
    refine ⟨_, rfl, _, rfl, _, rfl, _, rfl, O, _, rfl, .inl (SqL.of (hid_of hO6).1), D, A, _, rfl, d6, by decide, fun r7 H7 r70 r71 s7 d7 => ?_⟩
    have r71 : r7 < ((others.map V.str).length : Int) := r71
    obtain ⟨v, hv, hat⟩ := pick (xs := others.map V.str) r70 r71
    obtain ⟨wo, hwo, rfl⟩ := List.mem_map.mp hv
    have gwo := g_others wo hwo
    refine ⟨O, _, _, _, rfl, rfl, SqL.of (hid_of (s7 _ _ hO6)).1, hat, ?_⟩
    have s47 := (s5.trans s6).trans s7
    have hU7 := s47 _ _ hU4
    have hO7 := s7 _ _ hO6
    have sH7 := s4.trans s47
    clear s47 s5 s6 s7 d5 d6 hU4 hO4 hO6
    have tk_le : (us.take j).length = j := by rw [List.length_take]; omega
    refine swap_test (K := K) (us := us) (R := Rk) (by rfl) (by rfl) (by rfl) (hid_of hU7).1 ?_
    refine ite2 (fun c5 => ?_) (fun _ => ?_)
    · have c5 := (of_decide_eq_true c5).2
      obtain ⟨wk, hwk⟩ : ∃ wk, us[j + 1]? = some wk := ⟨us[j + 1]'(by omega), List.getElem?_eq_getElem (by omega)⟩
      refine ⟨_, rfl, _, rfl, _, rfl, cutTo d7 hU7 (fun p8 H8 s8 d8 h8 => ?_)⟩
      refine ⟨_, rfl, _, rfl, _, _, rfl, rfl, Rk, _, _, _, rfl, rfl, SqL.of (hid_of (s8 _ _ hU7)).1, wordAt hwk (by omega), _, rfl, _, rfl, Rk, _, _, _, rfl, rfl, SqL.of (hid_of (s8 _ _ hU7)).1, wordAt hwj rfl, lb rfl, fun p9 hp9 => ?_⟩
      have d9 := d8.new (o := .lst ([wk, wj].map V.str)) hp9
      have s9 := d8.sm (o := .lst ([wk, wj].map V.str)) hp9
      have h9 := d8.at_new (o := .lst ([wk, wj].map V.str)) hp9
      refine catD (us := [wk, wj]) d9 (s9 _ _ h8) h9 (by rw [tk_le]; simp; omega) (fun pA HA sA dA hA => ?_)
      have s7A := (s8.trans s9).trans sA
      refine ⟨_, rfl, _, rfl, _, _, rfl, rfl, _, rfl, noPart (cutFrom (k := j + 2) dA (s7A _ _ hU7) (by omega) (fun pB HB sB dB hB => ?_))⟩
      refine catD dB (sB _ _ hA) hB (by rw [List.length_append, tk_le, List.length_drop]; simp; omega) (fun pC HC sC dC hC => ?_)
      refine ChI.fin (us := us) rfl sH7 hO7 (by omega) ((s7A.trans sB).trans sC) dC hC ?_ ?_
      · rw [List.length_append, List.length_append, tk_le, List.length_drop]; simp; omega
      · exact ((ugw.take j).app (all2 (ugw wk (List.mem_of_getElem? hwk)) gwj)).app (ugw.drop (j + 2))
    · refine ⟨_, rfl, _, rfl, _, rfl, cutTo d7 hU7 (fun p8 H8 s8 d8 h8 => ?_)⟩
      refine ⟨_, rfl, lb rfl, fun a1 n1 => ?_⟩
      have t1 := d8.sm (o := .lst ([wo].map V.str)) n1
      have e1 := d8.new (o := .lst ([wo].map V.str)) n1
      have m1 := d8.at_new (o := .lst ([wo].map V.str)) n1
      refine ⟨lb rfl, fun a2 n2 => ?_⟩
      have t2 := e1.sm (o := .lst (([] : List Str).map V.str)) n2
      have e2 := e1.new (o := .lst (([] : List Str).map V.str)) n2
      have m2 := e1.at_new (o := .lst (([] : List Str).map V.str)) n2
      have b2 := ((s8.trans t1).trans t2) _ _ hU7
      refine ⟨_, rfl, _, rfl, _, rfl, Rk, _, _, _, rfl, rfl, SqL.of (hid_of b2).1, wordAt hwj rfl, lb rfl, fun a3 n3 => ?_⟩
      have t3 := e2.sm (o := .lst ([wo, wj].map V.str)) n3
      have e3 := e2.new (o := .lst ([wo, wj].map V.str)) n3
      have m3 := e2.at_new (o := .lst ([wo, wj].map V.str)) n3
      have b3 := t3 _ _ b2
      refine ⟨_, rfl, _, rfl, Rk, _, _, _, rfl, rfl, SqL.of (hid_of b3).1, wordAt hwj rfl, _, rfl, _, rfl, Rk, _, _, _, rfl, rfl, SqL.of (hid_of b3).1, wordAt hwj rfl, lb rfl, fun a4 n4 => ?_⟩
      have t4 := e3.sm (o := .lst ([wj, wj].map V.str)) n4
      have e4 := e3.new (o := .lst ([wj, wj].map V.str)) n4
      have m4 := e3.at_new (o := .lst ([wj, wj].map V.str)) n4
      refine ⟨_, rfl, lb rfl, fun a5 n5 => ?_⟩
      have t5 := e4.sm (o := .lst ([wo].map V.str)) n5
      have e5 := e4.new (o := .lst ([wo].map V.str)) n5
      have m5 := e4.at_new (o := .lst ([wo].map V.str)) n5
      refine ⟨lb rfl, fun a6 n6 => ?_⟩
      have t6 := e5.sm (o := .lst [.ref a1, .ref a2, .ref a3, .ref a4, .ref a5]) n6
      have e6 := e5.new (o := .lst [.ref a1, .ref a2, .ref a3, .ref a4, .ref a5]) n6
      obtain ⟨v6, hv6, hat6⟩ := pick (xs := [.ref a1, .ref a2, .ref a3, .ref a4, .ref a5]) r60 r61
      have x5 := t5.trans t6
      have x4 := t4.trans x5
      have x3 := t3.trans x4
      have x2 := t2.trans x3
      obtain ⟨pz, zs, rfl, hpz, hzl, hzg⟩ : ∃ pz, ∃ zs : List Str, v6 = .ref pz ∧ hid A (upd (upd (upd (upd (upd (upd H8 a1 (.lst ([wo].map V.str))) a2 (.lst (([] : List Str).map V.str))) a3 (.lst ([wo, wj].map V.str))) a4 (.lst ([wj, wj].map V.str))) a5 (.lst ([wo].map V.str))) a6 (.lst [.ref a1, .ref a2, .ref a3, .ref a4, .ref a5])) pz = some (.lst (zs.map V.str)) ∧ zs.length ≤ 2 ∧ gws zs := by
        simp only [List.mem_cons, List.not_mem_nil, or_false] at hv6
        rcases hv6 with rfl | rfl | rfl | rfl | rfl
        · exact ⟨_, [wo], rfl, x2 _ _ m1, by simp, all1 gwo⟩
        · exact ⟨_, [], rfl, x3 _ _ m2, by simp, fun _ h => nomatch h⟩
        · exact ⟨_, [wo, wj], rfl, x4 _ _ m3, by simp, all2 gwo gwj⟩
        · exact ⟨_, [wj, wj], rfl, x5 _ _ m4, by simp, all2 gwj gwj⟩
        · exact ⟨_, [wo], rfl, t6 _ _ m5, by simp, all1 gwo⟩
      have x1 := t1.trans x2
      refine ⟨_, rfl, a6, _, _, _, rfl, rfl, SqL.of upd_same, hat6, ?_⟩
      refine catD e6 (x1 _ _ h8) hpz (by rw [tk_le]; omega) (fun pA HA sA dA hA => ?_)
      have s7A := (s8.trans x1).trans sA
      refine ⟨_, rfl, _, rfl, _, _, rfl, rfl, _, rfl, noPart (cutFrom (k := j + 1) dA (s7A _ _ hU7) (by omega) (fun pB HB sB dB hB => ?_))⟩
      refine catD dB (sB _ _ hA) hB (by rw [List.length_append, tk_le, List.length_drop]; omega) (fun pC HC sC dC hC => ?_)
      refine ChI.fin (us := us) rfl sH7 hO7 (by omega) ((s7A.trans sB).trans sC) dC hC ?_ ?_
      · rw [List.length_append, List.length_append, tk_le, List.length_drop]; omega
      · exact ((ugw.take j).app hzg).app (ugw.drop (j + 1))
  · obtain ⟨Rk, z5, z6, z7, z8, us, rfl, s4, d4, hO4, hU4, une, ulen, ugw⟩ := h
    exact ⟨_, rfl, q Rk H4 us s4 d4 hU4 (by omega) ugw⟩
/-- the text of words, k of them laid -/
def TxI (H : Hp) (W D A : Addr) (k : Nat) (σ : L2.St) (H4 : Hp) : Prop := ∃ z4 z5, ∃ t : Str, σ = [some (.ref W), some (.ref D), some (.ref A), some (.str t), z4, z5, none] ∧ Sm A H H4 ∧ Dr D A H4 ∧ t.length ≤ 16 * k ∧ lg t
theorem word_in {σ : L2.St} {H : Hp} {Q : Bool → Hp → Prop} {K : PySem.W.Frag} {ti : TE} {W : Addr} {ws : List Str} {j : Nat} {w : Str} {i : Int} (h0 : σ[0]? = some (some (.ref W))) (hW : SqL K H W (ws.map V.str)) (hi : ∀ Q' : VK, Q' (.int i) H → ti σ H Q') (hw : ws[j]? = some w) (ij : i = (j : Int))
    (q : Q (!(Builtin.Str.occurrences (Str.ofString "()") w 0 (Str.ofString "()").length 1).isEmpty) H) :
    tTest (tOp (fun x y H Q => ∃ i j, x = .str i ∧ y = .str j ∧ Q (.bl (!(Builtin.Str.occurrences j i 0 j.length 1).isEmpty)) H) (tOp (rIxL K) (tVar 0) ti) (L2.tC (.str "()"))) σ H Q :=
  ⟨_, h0, hi _ ⟨W, _, _, _, rfl, rfl, hW, wordAt hw ij, _, _, rfl, rfl, _, rfl, q⟩⟩
def gaps : List Str := ([" ", "\n", "  ", " \n"] : List String).map Str.ofString
theorem g_gaps : ∀ g ∈ gaps, lg g ∧ g.length ≤ 2 := by
  have : gaps.all (fun g => decide (lg g) && decide (g.length ≤ 2)) = true := by decide +kernel
  intro g hg
  have := Bool.and_eq_true_iff.mp (List.all_eq_true.mp this g hg)
  exact ⟨of_decide_eq_true this.1, of_decide_eq_true this.2⟩
theorem cutS_lg {g : Str} {lo hi : Option Int} (h : lg g) : lg (cutS g lo hi) := by
  unfold lg at *
  rw [List.all_eq_true] at *
  intro c hc
  exact h c (List.mem_of_mem_drop (List.mem_of_mem_take hc))
def spTxt : Sp := fun vs H Q _ => ∃ W D A, ∃ ws : List Str, vs = [.ref W, .ref D, .ref A] ∧ Dr D A H ∧ hid A H W = some (.lst (ws.map V.str)) ∧ ws.length ≤ 1000000 ∧ gws ws ∧
  ∀ p H', ∀ t : Str, ∀ tab : Int, Sm A H H' → Dr D A H' → hid A H' p = some (.tup [.str t, .int tab]) → t.length ≤ 16000001 → ((tab = -1 ∧ badAt 0 t.cps.toList = none) ∨ ∃ k : Nat, tab = (k : Int) ∧ badAt 0 t.cps.toList = some k) → Q (.ref p) H'
theorem has__law_text (F : Facts w K mg) : Has P w K mg base CX0 2 "_law_text" pLawText spTxt := by
  have h__law_take := has__law_take (P := P) (base := base) F
  refine has_0 (k := 1) F.g__law_text F.f__law_text scLawText bLawText (fun vs H Q E h => by obtain ⟨_, _, _, _, rfl, _⟩ := h; rfl) fun cdv A' outer s H vs Q E hr h => ?_
  obtain ⟨W, D, A, ws, rfl, dr, hW, hlen, hgw, q⟩ := h
  refine ⟨_, (pss_cons (ps_set (i := 3) scLawText.nd rfl (Or.inl rfl) pe_str)
    (pss_cons (ps_for PassesOwn.never rfl (pi_range1 rfl F.z_range (pa_cons (pe_callB call_len_seq (by rfl) F.z_len (by decide +kernel) (pa_cons (pv 0) pa_nil)) pa_nil)) (pg_name (i := 4) scLawText.nd rfl (Or.inl rfl))
      (pss_cons (ps_set (i := 5) scLawText.nd rfl (Or.inl rfl) (pe_ix ix_list (pe_lst (pa_cons pe_str (pa_cons pe_str (pa_cons pe_str (pa_cons pe_str pa_nil))))) (pe_callH h__law_take hr (by omega) rfl pass0 (pa_cons (pv 1) (pa_cons (pv 2) (pa_cons pe_int pa_nil)))) (fun _ _ => rfl)))
      (pss_cons (ps_if (PW.pt (pw_or (pt_cmpR op_in_str (pe_ix ix_list (pv 0) (pv 4) (fun _ _ => rfl)) pe_str (by rfl)) (pw_or1 (PW.pt (pw_and (pt_cmpR op_gt (pv 4) pe_int (nomark _)) (pw_and1 (pt_cmpR op_in_str (pe_ix ix_list (pv 0) (pe_op op_sub (pv 4) pe_int) (fun _ _ => rfl)) pe_str (by rfl)))))))) (pss_one (ps_set (i := 5) scLawText.nd rfl (Or.inl rfl) (pe_slice sl_str (pv 5) po_none (po_some (pe_callH h__law_take hr (by omega) rfl pass0 (pa_cons (pv 1) (pa_cons (pv 2) (pa_cons pe_int pa_nil))))))))
        pss_nil)
      (pss_one (ps_set (i := 3) scLawText.nd rfl (Or.inl rfl) (pe_op op_add_str (pe_op op_add_str (pv 3) (pv 5)) (pe_ix ix_list (pv 0) (pv 4) (fun _ _ => rfl))))))))
    (pss_cons (ps_if (pt_cmpR op_eq (pe_callH h__law_take hr (by omega) rfl pass0 (pa_cons (pv 1) (pa_cons (pv 2) (pa_cons pe_int pa_nil)))) pe_int (nomark _)) (pss_cons (ps_set (i := 6) scLawText.nd rfl (Or.inl rfl) (pe_callH h__law_take hr (by omega) rfl pass0 (pa_cons (pv 1) (pa_cons (pv 2) (pa_cons (pe_op op_add (pe_callB call_len_str (by rfl) F.z_len (by decide +kernel) (pa_cons (pv 3) pa_nil)) pe_int) pa_nil)))))
      (pss_one (ps_ret (pe_tup (pa_cons (pe_op op_add_str (pe_op op_add_str (pe_slice sl_str (pv 3) po_none (po_some (pv 6))) pe_str) (pe_slice sl_str (pv 3) (po_some (pv 6)) po_none)) (pa_cons (pv 6) pa_nil))))))
      pss_nil)
    (pss_one (ps_ret (pe_tup (pa_cons (pv 3) (pa_cons (pe_un un_neg pe_int) pa_nil)))))))), ?_⟩
  refine ⟨_, rfl, W, _, rfl, .inl (SqL.of (hid_of hW).1), _, rfl, by rw [List.length_map]; omega, by rw [List.length_map]; omega, ?_⟩
  rw [List.length_map, Int.toNat_natCast]
  refine for_range (n := ws.length) (TxI H W D A) ⟨none, none, Str.ofString "", rfl, Same.refl _, dr, by decide, by decide +kernel⟩ (fun k σ H4 hk h => ?_) (fun σ H4 h => ?_)
  · obtain ⟨z4, z5, t, rfl, s4, d4, tl, tg⟩ := h
    obtain ⟨wk, hwk⟩ : ∃ wk, ws[k]? = some wk := ⟨ws[k], List.getElem?_eq_getElem hk⟩
    have gwk : gw wk := hgw wk (List.mem_of_getElem? hwk)
    have wl : wk.length ≤ 14 := gwk.1
    have wg : lg wk := gwk.2
    refine ⟨lb rfl, fun L hL => ?_⟩
    have d5 := d4.new (o := .lst (gaps.map V.str)) hL
    have s5 := d4.sm (o := .lst (gaps.map V.str)) hL
    have hL5 := d4.at_new (o := .lst (gaps.map V.str)) hL
    refine ⟨_, rfl, _, rfl, D, A, 4, rfl, d5, by omega, fun r6 H6 r60 r61 s6 d6 => ?_⟩
    obtain ⟨v, hv, hat⟩ := pick (xs := gaps.map V.str) r60 r61
    obtain ⟨g, hg, rfl⟩ := List.mem_map.mp hv
    obtain ⟨gg, gl⟩ := g_gaps g hg
    refine ⟨L, _, _, _, rfl, rfl, SqL.of (hid_of (s6 _ _ hL5)).1, hat, ?_⟩
    have s46 := (s4.trans s5).trans s6
    have hW6 := s46 _ _ hW
    have fin : ∀ {g' : Str} {H' : Hp}, lg g' → g'.length ≤ 2 → Sm A H H' → Dr D A H' → TxI H W D A (k + 1) [some (.ref W), some (.ref D), some (.ref A), some (.str (t ++ g' ++ wk)), some (.int (0 + (k : Nat))), some (.str g'), none] H' := fun {g' H'} a b c d =>
      ⟨_, _, _, rfl, c, d, by rw [Str.length_append, Str.length_append]; omega, (tg.app a).app wg⟩
    have l1 : ∀ {g' : Str}, g'.length ≤ 2 → t.length + g'.length ≤ sizeLine := fun {g'} a => by rw [line_eq]; omega
    have l2 : ∀ {g' : Str}, g'.length ≤ 2 → (t ++ g').length + wk.length ≤ sizeLine := fun {g'} a => by rw [line_eq, Str.length_append]; omega
    have tst : ∀ {D' : Ends} {u1 u2 : TS} {t1 t2 : TT} {σ : L2.St} (b c : Bool), (∀ Q' : Bool → Hp → Prop, Q' b H6 → t1 σ H6 Q') → (b = false → ∀ Q' : Bool → Hp → Prop, Q' c H6 → t2 σ H6 Q') → u1 D' σ H6 → u2 D' σ H6 → tIfS (tOr t1 t2) u1 u2 D' σ H6 := fun {D' u1 u2 t1 t2 σ} b c h1 h2 q1 q2 => by
      refine or_b (b := b) (c := c) h1 h2 ?_
      exact ite2 (fun _ => q1) (fun _ => q2)
    obtain ⟨bk, hbk⟩ : ∃ bk : Bool, bk = (decide ((0 : Int) < 0 + (k : Nat)) && match ws[k - 1]? with
      | some w' => !(Builtin.Str.occurrences (Str.ofString "()") w' 0 (Str.ofString "()").length 1).isEmpty
      | none => false) := ⟨_, rfl⟩
    refine tst _ bk (fun Q' q' => word_in (j := k) rfl (SqL.of (hid_of hW6).1) (fun Q'' q'' => ⟨_, rfl, q''⟩) hwk (by omega) q') (fun _ Q' q' => ?_) ?_ ?_
    · subst hbk
      refine and_b (b := decide ((0 : Int) < 0 + (k : Nat))) (c := match ws[k - 1]? with
      | some w' => !(Builtin.Str.occurrences (Str.ofString "()") w' 0 (Str.ofString "()").length 1).isEmpty
      | none => false) (fun Q2 q2 => ⟨_, rfl, _, _, rfl, rfl, _, rfl, q2⟩) (fun c Q2 q2 => ?_) q'
      have c := of_decide_eq_true c
      obtain ⟨w', hw'⟩ : ∃ w', ws[k - 1]? = some w' := ⟨ws[k - 1]'(by omega), List.getElem?_eq_getElem (by omega)⟩
      rw [hw'] at q2
      exact word_in (j := k - 1) rfl (SqL.of (hid_of hW6).1) (fun Q'' q'' => ⟨_, rfl, _, _, rfl, rfl, q''⟩) hw' (by omega) q2
    · refine ⟨_, rfl, _, rfl, _, rfl, D, A, 2, rfl, d6, by omega, fun r7 H7 r70 r71 s7 d7 => ?_⟩
      have gl7 : (cutS g none (some r7)).length ≤ 2 := Nat.le_trans (cutS_length _ _ _) gl
      refine ⟨_, rfl, g, rfl, by rw [line_eq]; omega, ?_⟩
      exact ⟨_, rfl, _, rfl, _, _, rfl, rfl, l1 gl7, _, rfl, _, rfl, W, _, _, _, rfl, rfl, SqL.of (hid_of (s7 _ _ hW6)).1, wordAt hwk (by omega), _, _, rfl, rfl, l2 gl7, fin (cutS_lg gg) gl7 (s46.trans s7) d7⟩
    · exact ⟨_, rfl, _, rfl, _, _, rfl, rfl, l1 gl, _, rfl, _, rfl, W, _, _, _, rfl, rfl, SqL.of (hid_of hW6).1, wordAt hwk (by omega), _, _, rfl, rfl, l2 gl, fin gg gl s46 d6⟩
  · obtain ⟨z4, z5, t, rfl, s4, d4, tl, tg⟩ := h
    have tl' : t.length ≤ 16000000 := by omega
    refine ⟨_, rfl, _, rfl, D, A, 12, rfl, d4, by omega, fun r5 H5 r50 r51 s5 d5 => ⟨rfl, _, rfl, ite2 (fun _ => ?_) (fun _ => ?_)⟩⟩
    · refine ⟨_, rfl, _, rfl, _, rfl, t, rfl, by rw [line_eq]; omega, _, _, rfl, rfl, D, A, _, rfl, d5, by omega, fun r6 H6 r60 r61 s6 d6 => ?_⟩
      obtain ⟨j, rfl⟩ : ∃ j : Nat, r6 = (j : Int) := ⟨r6.toNat, by omega⟩
      have hj : j ≤ t.length := by omega
      have e0 : t.length = t.cps.toList.length := by rw [Array.length_toList]; rfl
      have c1 : (cutS t none (some (j : Int))).length = j := by
        have : (cutS t none (some (j : Int))).length = (cutS t none (some (j : Int))).cps.toList.length := by rw [Array.length_toList]; rfl
        rw [this, cutS_to, List.length_take]; omega
      have c2 : (cutS t (some (j : Int)) none).length = t.length - j := by
        have : (cutS t (some (j : Int)) none).length = (cutS t (some (j : Int)) none).cps.toList.length := by rw [Array.length_toList]; rfl
        rw [this, cutS_from, List.length_drop]; omega
      have ct : (Str.ofString "\t").length = 1 := by decide +kernel
      refine ⟨_, rfl, _, rfl, _, rfl, t, rfl, by rw [line_eq]; omega, _, _, rfl, rfl, by rw [line_eq]; omega, _, rfl, _, rfl, _, rfl, t, rfl, by rw [line_eq]; omega, _, _, rfl, rfl, by rw [line_eq, Str.length_append]; omega, _, rfl, lb rfl, fun p hp => ?_⟩
      refine q p _ _ _ (((s4.trans s5).trans s6).trans (d6.sm hp)) (d6.new hp) (d6.at_new hp) (by rw [Str.length_append, Str.length_append]; omega) (.inr ⟨j, rfl, ?_⟩)
      have e : (cutS t none (some (j : Int)) ++ Str.ofString "\t" ++ cutS t (some (j : Int)) none).cps.toList = (t.cps.toList.take j) ++ 9 :: (t.cps.toList.drop j) := by
        have e1 : (cutS t none (some (j : Int)) ++ Str.ofString "\t" ++ cutS t (some (j : Int)) none).cps.toList = ((cutS t none (some (j : Int))).cps.toList ++ (Str.ofString "\t").cps.toList) ++ (cutS t (some (j : Int)) none).cps.toList := by
          have : (cutS t none (some (j : Int)) ++ Str.ofString "\t" ++ cutS t (some (j : Int)) none).cps.toList = (cutS t none (some (j : Int)) ++ Str.ofString "\t").cps.toList ++ (cutS t (some (j : Int)) none).cps.toList := Array.toList_append
          rw [this]
          congr 1
          exact Array.toList_append
        have e2 : (Str.ofString "\t").cps.toList = [9] := by decide +kernel
        rw [e1, cutS_to, cutS_from, e2, List.append_assoc]
        rfl
      rw [e, badAt_some _ 0 9 _ ?_ (by decide), List.length_take]
      · congr 1; omega
      · rw [List.all_eq_true]
        intro c hc
        exact List.all_eq_true.mp tg c (List.mem_of_mem_take hc)
    · refine ⟨_, rfl, _, rfl, lb rfl, fun p hp => ?_⟩
      exact q p _ _ _ ((s4.trans s5).trans (d5.sm hp)) (d5.new hp) (d5.at_new hp) (by omega) (.inl ⟨rfl, badAt_none _ 0 tg⟩)
end
end K10
set_option maxHeartbeats 4000000
/-! K10Shown: what a reader gives is small enough to be shown: weight and depth, by the node's signs. -/
namespace K10
open PySem PySem.NumText
/-- small data: its weight at most w, its depth at most p -/
structure Gd (w p : Nat) (d : PyData) : Prop where
  lay : d.canLay0 = true
  sml : d.intsShort 13 = true
  show_ : d.showable = true
  wt : d.weight ≤ w
  dep : d.depth ≤ p
structure Gds (w p : Nat) (ds : List PyData) : Prop where
  lay : PyData.canLayAll0 ds = true
  sml : PyData.intsShortAll 13 ds = true
  show_ : PyData.showableAll ds = true
  wt : PyData.weightAll ds ≤ w
  dep : PyData.depthAll ds ≤ p
theorem Gd.le {w p w' p' : Nat} {d : PyData} (g : Gd w p d) (a : w ≤ w') (b : p ≤ p') : Gd w' p' d := ⟨g.lay, g.sml, g.show_, Nat.le_trans g.wt a, Nat.le_trans g.dep b⟩
theorem Gds.le {w p w' p' : Nat} {d : List PyData} (g : Gds w p d) (a : w ≤ w') (b : p ≤ p') : Gds w' p' d := ⟨g.lay, g.sml, g.show_, Nat.le_trans g.wt a, Nat.le_trans g.dep b⟩
theorem Gds.nil : Gds 0 0 [] := ⟨rfl, rfl, rfl, Nat.le_refl _, Nat.le_refl _⟩
theorem Gds.cons {w p w' p' : Nat} {d : PyData} {ds : List PyData} (g : Gd w p d) (h : Gds w' p' ds) : Gds (w + 1 + w') (max p p') (d :: ds) := by
  refine ⟨?_, ?_, ?_, ?_, ?_⟩
  · simp only [PyData.canLayAll0, g.lay, h.lay, Bool.and_self]
  · simp only [PyData.intsShortAll, g.sml, h.sml, Bool.and_self]
  · simp only [PyData.showableAll, g.show_, h.show_, Bool.and_self]
  · have := g.wt; have := h.wt; simp only [PyData.weightAll]; omega
  · have := g.dep; have := h.dep; simp only [PyData.depthAll]; omega
theorem Gds.append {w p w' p' : Nat} : ∀ {ds es : List PyData}, Gds w p ds → Gds w' p' es → Gds (w + w') (max p p') (ds ++ es) := by
  intro ds
  induction ds generalizing w p with
  | nil => intro es _ h; exact h.le (by omega) (by omega)
  | cons d r ih =>
    intro es g h
    have l := g.lay; have i := g.sml; have s := g.show_; have a := g.wt; have b := g.dep
    simp only [PyData.canLayAll0, Bool.and_eq_true] at l
    simp only [PyData.intsShortAll, Bool.and_eq_true] at i
    simp only [PyData.showableAll, Bool.and_eq_true] at s
    simp only [PyData.weightAll] at a
    simp only [PyData.depthAll] at b
    have q := Gds.cons (⟨l.1, i.1, s.1, Nat.le_refl _, Nat.le_refl _⟩ : Gd d.weight d.depth d) (ih (w := PyData.weightAll r) (p := PyData.depthAll r) ⟨l.2, i.2, s.2, Nat.le_refl _, Nat.le_refl _⟩ h)
    exact q.le (by omega) (by omega)
theorem Gds.tup {w p : Nat} {ds : List PyData} (g : Gds w p ds) : Gd w (p + 1) (.tuple ds) := by
  refine ⟨?_, ?_, ?_, ?_, ?_⟩
  · simp only [PyData.canLay0]; exact g.lay
  · simp only [PyData.intsShort]; exact g.sml
  · simp only [PyData.showable]; exact g.show_
  · simp only [PyData.weight]; exact g.wt
  · simp only [PyData.depth]; have := g.dep; omega
theorem Gd.none : Gd 0 0 .none := ⟨rfl, rfl, rfl, Nat.le_refl _, Nat.le_refl _⟩
theorem Gd.str {s : Str} (h : s.cps.toList.all (fun c => decide (c < 1114112)) = true) : Gd s.length 0 (.str s) := by
  refine ⟨?_, rfl, rfl, Nat.le_refl _, Nat.le_refl _⟩
  simp only [PyData.canLay0, PyData.strOk]
  rw [← Array.all_toList]
  exact h
theorem Gd.int {i : Int} (h0 : 0 ≤ i) (h1 : i ≤ 2147483647) : Gd 31 0 (.int i) := by
  refine ⟨rfl, ?_, ?_, ?_, Nat.le_refl _⟩
  · simp only [PyData.intsShort, decide_eq_true_eq, PyData.shown]
    have := PySem.W.KT.len_num h0 (show i < 10 ^ 10 by have : (10 : Int) ^ 10 = 10000000000 := by decide
                                                       omega)
    exact decide_eq_true (Nat.le_trans this (show 10 ≤ 13 by decide))
  · simp only [PyData.showable, decide_eq_true_eq]
    exact log_small h0 (by have : (10 : Int) ^ 10 = 10000000000 := by decide
                           omega)
  · simp only [PyData.weight]
    by_cases z : i = 0
    · subst z; decide
    · have e : (i == 0) = false := by simpa using z
      rw [e]
      have : i.natAbs.log2 < 31 := (Nat.log2_lt (by omega)).mpr (by omega)
      show i.natAbs.log2 + 1 ≤ 31
      omega
/-! ### words -/
theorem name_ok {w : Str} (h : isName w = true) : Gd 8 0 (.str w) := by
  unfold isName at h
  simp only [Bool.and_eq_true, decide_eq_true_eq] at h
  obtain ⟨⟨⟨⟨h1, h2⟩, _⟩, _⟩, h5⟩ := h
  refine (Gd.str ?_).le h2 (Nat.le_refl _)
  unfold allNam at h5
  rw [List.all_eq_true] at h5 ⊢
  intro c hc
  have := h5 c hc
  rw [Bool.or_eq_true, decide_eq_true_eq, decide_eq_true_eq, mem_letters, mem_digits] at this
  exact decide_eq_true (by omega)
def kw (s : Str) : Bool := decide (s.length ≤ 9) && s.cps.toList.all (fun c => decide (c < 1114112))
theorem kw_ok {s : Str} (h : kw s = true) : Gd 9 0 (.str s) := by
  unfold kw at h
  rw [Bool.and_eq_true, decide_eq_true_eq] at h
  exact (Gd.str h.2).le h.1 (Nat.le_refl _)
theorem kws_ok {s : Str} {l : List Str} (h : l.all kw = true) (m : s ∈ l) : Gd 9 0 (.str s) := kw_ok (List.all_eq_true.mp h s m)
theorem num_ok {w : Str} {lo hi n : Int} (h0 : 0 ≤ lo) (h1 : hi ≤ 2147483647) (h : numIn w lo hi = some n) : Gd 31 0 (.int n) := by
  obtain ⟨_, _, a, b⟩ := numIn_some h
  exact Gd.int (by omega) (by omega)
/-! ### readers -/
/-- what a reader gives of a good node -/
def GR (c : Nat) (rd : Node → Rd PyData) : Prop := ∀ x d, x.good → rd x = .ok d → Gd (100 * x.wt - 1) (4 * x.depth + c) d
theorem bind_ok {α β : Type} {r : Rd α} {f : α → Rd β} {b : β} (h : r >>= f = .ok b) : ∃ a, r = .ok a ∧ f a = .ok b := by
  cases r with
  | error e => cases h
  | ok a => exact ⟨a, rfl, h⟩
theorem first_ok {ws : List Str} {x : Node} {h : Str} (e : firstIn ws x = .ok h) : h ∈ ws ∧ ∃ j r i, x = .form (.word h j :: r) i := by
  cases x with
  | word w i => cases e
  | form ps i =>
    cases ps with
    | nil => cases e
    | cons y r =>
      cases y with
      | form qs j => cases e
      | word g j =>
        simp only [firstIn] at e
        split at e
        · rename_i m; cases e; exact ⟨m, j, r, i, rfl⟩
        · cases e
theorem parts_ok {lo hi : Nat} {x : Node} {ps : List Node} (e : partsIn lo hi x = .ok ps) : ∃ i, x = .form ps i := by
  cases x with
  | word w i => cases e
  | form qs i =>
    simp only [partsIn] at e
    split at e
    · cases e; exact ⟨i, rfl⟩
    · cases e
theorem nameOf_ok {x : Node} {n : Str} (e : nameOf x = .ok n) : Gd 8 0 (.str n) := by
  cases x with
  | form _ i => cases e
  | word w i =>
    simp only [nameOf] at e
    split at e
    · rename_i h; cases e; exact name_ok h
    · cases e
theorem numOf_ok {lo hi n : Int} {x : Node} (h0 : 0 ≤ lo) (h1 : hi ≤ 2147483647) (e : numOf lo hi x = .ok n) : Gd 31 0 (.int n) := by
  cases x with
  | form _ i => cases e
  | word w i =>
    simp only [numOf] at e
    split at e
    · rename_i h; cases e; exact num_ok h0 h1 h
    · cases e
theorem rdAll_ok {c : Nat} {f : Node → Rd PyData} (hf : GR c f) : ∀ {ps : List Node} {ds : List PyData}, goods ps → rdAll f ps = .ok ds → Gds (100 * wts ps) (4 * depths ps + c) ds
  | [], ds, _, e => by cases e; exact Gds.nil.le (Nat.zero_le _) (Nat.zero_le _)
  | n :: r, ds, g, e => by
    rw [rdAll] at e
    rw [goods] at g
    cases e1 : f n with
    | error j => rw [e1] at e; cases e
    | ok d =>
      rw [e1] at e
      cases e2 : rdAll f r with
      | error j => rw [e2] at e; cases e
      | ok es =>
        rw [e2] at e
        cases e
        have a := hf n d g.1 e1
        have b := rdAll_ok hf g.2 e2
        have := wt_pos g.1
        refine (Gds.cons a b).le ?_ ?_
        · rw [wts]; omega
        · rw [depths]; omega
theorem good_form {ps : List Node} {i : Int} (g : (Node.form ps i).good) : goods ps := by rw [Node.good] at g; exact g.1
theorem wt_form (ps : List Node) (i : Int) : (Node.form ps i).wt = 1 + wts ps := by rw [Node.wt]
theorem dep_form (ps : List Node) (i : Int) : (Node.form ps i).depth = 1 + depths ps := by rw [Node.depth]
theorem body_gd {c : Nat} {f : Node → Rd PyData} (hf : GR c f) {x : Node} {d : PyData} (g : x.good) (e : body f x = .ok d) : Gd (100 * x.wt - 100) (4 * x.depth + c - 3) d := by
  unfold body at e
  obtain ⟨l, e1, e⟩ := bind_ok e
  obtain ⟨xs, e2, e⟩ := bind_ok e
  cases e
  obtain ⟨i, rfl⟩ := parts_ok e1
  refine (rdAll_ok hf (good_form g) e2).tup.le ?_ ?_
  · rw [wt_form]; omega
  · rw [dep_form]; omega
theorem two {a b : Node} (h : Str) (j i : Int) (r : List Node) (e : r = [a, b]) : (Node.form (.word h j :: r) i).wt = 1 + (h.length + (a.wt + (b.wt + 0))) ∧ (Node.form (.word h j :: r) i).depth = 1 + max 0 (max a.depth (max b.depth 0)) := by
  subst e
  refine ⟨?_, ?_⟩
  · rw [wt_form, wts, wts, wts, wts, Node.wt]
  · rw [dep_form, depths, depths, depths, depths, Node.depth]
theorem idx_ok {rc : Node → Rd PyData} (hr : GR 1 rc) : GR 1 (idxStep rc) := by
  intro x d g e
  have pos := wt_pos g
  cases x with
  | word w i =>
    simp only [idxStep] at e
    split at e
    · cases e
      exact (Gds.cons (kw_ok (by decide +kernel)) .nil).tup.le (by omega) (by omega)
    · split at e
      · rename_i n h
        cases e
        exact (Gds.cons (kw_ok (by decide +kernel)) (.cons (num_ok (by decide) (by decide) h) .nil)).tup.le (by omega) (by omega)
      · split at e
        · rename_i h
          cases e
          exact (Gds.cons (kw_ok (by decide +kernel)) (.cons (name_ok h) .nil)).tup.le (by omega) (by omega)
        · cases e
  | form ps i =>
    rw [idxStep] at e
    obtain ⟨h, e1, e⟩ := bind_ok e
    obtain ⟨qs, e2, e⟩ := bind_ok e
    obtain ⟨hm, j, r, i', ex⟩ := first_ok e1
    obtain ⟨i2, e3⟩ := parts_ok e2
    have hk := kws_ok (l := wIndex) (by decide +kernel) hm
    cases ex
    cases e3
    have gs := good_form g
    match r, e with
    | [a, b], e =>
      rw [goods, goods, goods] at gs
      obtain ⟨w2, d2⟩ := two (a := a) (b := b) h j i _ rfl
      have pa := wt_pos gs.2.1
      have pb := wt_pos gs.2.2.1
      have e : (if h = S "rem" then (do
        let x ← rc a
        let n ← numOf 1 1000 b
        (.ok (.tuple [.str h, x, .int n]) : Rd PyData))
      else (do
        let x ← rc a
        let y ← rc b
        .ok (.tuple [.str h, x, y]))) = .ok d := e
      split at e
      · obtain ⟨x, e4, e⟩ := bind_ok e
        obtain ⟨n, e5, e⟩ := bind_ok e
        cases e
        refine (Gds.cons hk (.cons (hr a x gs.2.1 e4) (.cons (numOf_ok (by decide) (by decide) e5) .nil))).tup.le ?_ ?_
        · rw [w2]; omega
        · rw [d2]; omega
      · obtain ⟨x, e4, e⟩ := bind_ok e
        obtain ⟨y, e5, e⟩ := bind_ok e
        cases e
        refine (Gds.cons hk (.cons (hr a x gs.2.1 e4) (.cons (hr b y gs.2.2.1 e5) .nil))).tup.le ?_ ?_
        · rw [w2]; omega
        · rw [d2]; omega
theorem rdIdx_ok : ∀ n, GR 1 (rdIdx n)
  | 0 => fun x d _ e => nomatch e
  | n + 1 => idx_ok (rdIdx_ok n)
/-- a place -/
def GP (f : Node → Rd (Str × PyData)) : Prop := ∀ x p, x.good → f x = .ok p → Gd 8 0 (.str p.1) ∧ Gd (100 * x.wt - 60) (4 * x.depth + 1) p.2
theorem plc_ok {idx : Node → Rd PyData} (hi : GR 1 idx) : GP (plcStep idx) := by
  intro x p g e
  have pos := wt_pos g
  cases x with
  | word w i =>
    simp only [plcStep] at e
    split at e
    · rename_i h
      cases e
      exact ⟨name_ok h, Gd.none.le (Nat.zero_le _) (Nat.zero_le _)⟩
    · cases e
  | form ps i =>
    rw [plcStep] at e
    obtain ⟨h, e1, e⟩ := bind_ok e
    obtain ⟨qs, e2, e⟩ := bind_ok e
    obtain ⟨hm, j, r, i', ex⟩ := first_ok e1
    obtain ⟨i2, e3⟩ := parts_ok e2
    cases ex
    cases e3
    have gs := good_form g
    match r, e with
    | [a, b], e =>
      rw [goods, goods, goods] at gs
      obtain ⟨w2, d2⟩ := two (a := a) (b := b) h j i _ rfl
      have pa := wt_pos gs.2.1
      have pb := wt_pos gs.2.2.1
      obtain ⟨n, e4, e⟩ := bind_ok e
      obtain ⟨y, e5, e⟩ := bind_ok e
      cases e
      refine ⟨nameOf_ok e4, (hi b y gs.2.2.1 e5).le ?_ ?_⟩
      · rw [w2]; omega
      · rw [d2]; omega
theorem expr_ok {idx rc : Node → Rd PyData} (hi : GR 1 idx) (hr : GR 2 rc) : GR 2 (exprStep idx rc) := by
  intro x d g e
  have pos := wt_pos g
  cases x with
  | word w i =>
    simp only [exprStep] at e
    split at e
    · rename_i n h
      cases e
      exact (Gds.cons (kw_ok (by decide +kernel)) (.cons (num_ok (by decide) (by decide) h) .nil)).tup.le (by omega) (by omega)
    · split at e
      · rename_i h
        cases e
        exact (Gds.cons (kw_ok (by decide +kernel)) (.cons (name_ok h) (.cons .none .nil))).tup.le (by omega) (by omega)
      · cases e
  | form ps i =>
    rw [exprStep] at e
    obtain ⟨h, e1, e⟩ := bind_ok e
    obtain ⟨hm, j, r, i', ex⟩ := first_ok e1
    have hk := kws_ok (l := wExpr) (by decide +kernel) hm
    split at e
    · obtain ⟨p, e4, e⟩ := bind_ok e
      cases e
      obtain ⟨g1, g2⟩ := plc_ok hi _ p g e4
      exact (Gds.cons (kw_ok (by decide +kernel)) (.cons g1 (.cons g2 .nil))).tup.le (by omega) (by omega)
    · obtain ⟨qs, e2, e⟩ := bind_ok e
      obtain ⟨i2, e3⟩ := parts_ok e2
      cases ex
      cases e3
      have gs := good_form g
      match r, e with
      | [a, b], e =>
        rw [goods, goods, goods] at gs
        obtain ⟨w2, d2⟩ := two (a := a) (b := b) h j i _ rfl
        have pa := wt_pos gs.2.1
        have pb := wt_pos gs.2.2.1
        obtain ⟨x, e4, e⟩ := bind_ok e
        obtain ⟨y, e5, e⟩ := bind_ok e
        cases e
        refine (Gds.cons hk (.cons (hr a x gs.2.1 e4) (.cons (hr b y gs.2.2.1 e5) .nil))).tup.le ?_ ?_
        · rw [w2]; omega
        · rw [d2]; omega
theorem rdExpr_ok : ∀ n, GR 2 (rdExpr n)
  | 0 => fun x d _ e => nomatch e
  | n + 1 => expr_ok (rdIdx_ok (n + 1)) (rdExpr_ok n)
theorem one (a : Node) (h : Str) (j i : Int) : (Node.form [.word h j, a] i).wt = 1 + (h.length + (a.wt + 0)) ∧ (Node.form [.word h j, a] i).depth = 1 + max 0 (max a.depth 0) := by
  refine ⟨?_, ?_⟩
  · rw [wt_form, wts, wts, wts, Node.wt]
  · rw [dep_form, depths, depths, depths, Node.depth]
theorem three (a b c : Node) (h : Str) (j i : Int) : (Node.form [.word h j, a, b, c] i).wt = 1 + (h.length + (a.wt + (b.wt + (c.wt + 0)))) ∧ (Node.form [.word h j, a, b, c] i).depth = 1 + max 0 (max a.depth (max b.depth (max c.depth 0))) := by
  refine ⟨?_, ?_⟩
  · rw [wt_form, wts, wts, wts, wts, wts, Node.wt]
  · rw [dep_form, depths, depths, depths, depths, depths, Node.depth]
theorem more (a b : Node) (r : List Node) (h : Str) (j i : Int) : (Node.form (.word h j :: a :: b :: r) i).wt = 1 + (h.length + (a.wt + (b.wt + wts r))) ∧ (Node.form (.word h j :: a :: b :: r) i).depth = 1 + max 0 (max a.depth (max b.depth (depths r))) := by
  refine ⟨?_, ?_⟩
  · rw [wt_form, wts, wts, wts, Node.wt]
  · rw [dep_form, depths, depths, depths, Node.depth]
theorem test_ok {idx expr rc : Node → Rd PyData} (hi : GR 1 idx) (he : GR 2 expr) (hr : GR 3 rc) : GR 3 (testStep idx expr rc) := by
  intro x d g e
  rw [testStep] at e
  obtain ⟨h, e1, e⟩ := bind_ok e
  obtain ⟨hm, j, r, i, ex⟩ := first_ok e1
  have hk := kws_ok (l := wTest) (by decide +kernel) hm
  cases ex
  have gs := good_form g
  split at e
  · obtain ⟨qs, e2, e⟩ := bind_ok e
    obtain ⟨i2, e3⟩ := parts_ok e2
    cases e3
    match r, e with
    | [a, b], e =>
      rw [goods, goods, goods] at gs
      obtain ⟨w2, d2⟩ := two (a := a) (b := b) h j i _ rfl
      have pa := wt_pos gs.2.1
      have pb := wt_pos gs.2.2.1
      obtain ⟨x, e4, e⟩ := bind_ok e
      obtain ⟨y, e5, e⟩ := bind_ok e
      cases e
      refine (Gds.cons hk (.cons (hi a x gs.2.1 e4) (.cons (hi b y gs.2.2.1 e5) .nil))).tup.le ?_ ?_
      · rw [w2]; omega
      · rw [d2]; omega
  · obtain ⟨qs, e2, e⟩ := bind_ok e
    obtain ⟨i2, e3⟩ := parts_ok e2
    cases e3
    match r, e with
    | [a], e =>
      rw [goods, goods] at gs
      obtain ⟨w2, d2⟩ := one a h j i
      have pa := wt_pos gs.2.1
      obtain ⟨x, e4, e⟩ := bind_ok e
      cases e
      have gx : Gd (100 * a.wt - 1) (4 * a.depth + 3) x := by
        split at e4
        · exact (he a x gs.2.1 e4).le (Nat.le_refl _) (by omega)
        · exact hr a x gs.2.1 e4
      refine (Gds.cons hk (.cons gx .nil)).tup.le ?_ ?_
      · rw [w2]; omega
      · rw [d2]; omega
theorem rdTest_ok : ∀ n, GR 3 (rdTest n)
  | 0 => fun x d _ e => nomatch e
  | n + 1 => test_ok (rdIdx_ok (n + 1)) (rdExpr_ok (n + 1)) (rdTest_ok n)
theorem nameD_ok : GR 0 nameD := by
  intro x d g e
  have pos := wt_pos g
  unfold nameD at e
  cases e1 : nameOf x with
  | error j => rw [e1] at e; cases e
  | ok n =>
    rw [e1] at e
    cases e
    exact (nameOf_ok e1).le (by omega) (Nat.zero_le _)
theorem stmt_ok {idx expr test rc : Node → Rd PyData} (hi : GR 1 idx) (he : GR 2 expr) (ht : GR 3 test) (hr : GR 4 rc) : GR 4 (stmtStep idx expr test rc) := by
  intro x d g e
  rw [stmtStep] at e
  obtain ⟨h, e1, e⟩ := bind_ok e
  obtain ⟨qs, e2, e⟩ := bind_ok e
  obtain ⟨hm, j, r, i, ex⟩ := first_ok e1
  obtain ⟨i2, e3⟩ := parts_ok e2
  have hk := kws_ok (l := wStmt) (by decide +kernel) hm
  cases ex
  cases e3
  have gs := good_form g
  split at e
  · match r, e with
    | [a, b], e =>
      rw [goods, goods, goods] at gs
      obtain ⟨w2, d2⟩ := two (a := a) (b := b) h j i _ rfl
      have pa := wt_pos gs.2.1
      have pb := wt_pos gs.2.2.1
      obtain ⟨p, e4, e⟩ := bind_ok e
      obtain ⟨y, e5, e⟩ := bind_ok e
      cases e
      obtain ⟨g1, g2⟩ := plc_ok hi a p gs.2.1 e4
      refine (Gds.cons hk (.cons (Gds.cons g1 (.cons g2 .nil)).tup (.cons (he b y gs.2.2.1 e5) .nil))).tup.le ?_ ?_
      · rw [w2]; omega
      · rw [d2]; omega
  · split at e
    · match r, e with
      | [t, a, b], e =>
        rw [goods, goods, goods, goods] at gs
        obtain ⟨w2, d2⟩ := three t a b h j i
        have pt := wt_pos gs.2.1
        have pa := wt_pos gs.2.2.1
        have pb := wt_pos gs.2.2.2.1
        obtain ⟨z, e4, e⟩ := bind_ok e
        obtain ⟨x, e5, e⟩ := bind_ok e
        obtain ⟨y, e6, e⟩ := bind_ok e
        cases e
        refine (Gds.cons hk (.cons (ht t z gs.2.1 e4) (.cons (body_gd hr gs.2.2.1 e5) (.cons (body_gd hr gs.2.2.2.1 e6) .nil)))).tup.le ?_ ?_
        · rw [w2]; omega
        · rw [d2]; omega
    · split at e
      · match r, e with
        | [n, a, b], e =>
          rw [goods, goods, goods, goods] at gs
          obtain ⟨w2, d2⟩ := three n a b h j i
          have pt := wt_pos gs.2.1
          have pa := wt_pos gs.2.2.1
          have pb := wt_pos gs.2.2.2.1
          obtain ⟨z, e4, e⟩ := bind_ok e
          obtain ⟨x, e5, e⟩ := bind_ok e
          obtain ⟨y, e6, e⟩ := bind_ok e
          cases e
          refine (Gds.cons hk (.cons (nameOf_ok e4) (.cons (body_gd hi gs.2.2.1 e5) (.cons (body_gd nameD_ok gs.2.2.2.1 e6) .nil)))).tup.le ?_ ?_
          · rw [w2]; omega
          · rw [d2]; omega
      · match r, e with
        | n :: c :: r, e =>
          rw [goods, goods, goods] at gs
          obtain ⟨w2, d2⟩ := more n c r h j i
          have pt := wt_pos gs.2.1
          have pa := wt_pos gs.2.2.1
          obtain ⟨z, e4, e⟩ := bind_ok e
          obtain ⟨x, e5, e⟩ := bind_ok e
          obtain ⟨y, e6, e⟩ := bind_ok e
          cases e
          have gx : Gd (100 * c.wt - 1) (4 * c.depth + 2) x := by
            split at e5
            · exact (hi c x gs.2.2.1 e5).le (Nat.le_refl _) (by omega)
            · exact he c x gs.2.2.1 e5
          refine (Gds.cons hk (.cons (nameOf_ok e4) (.cons gx (.cons (rdAll_ok hr gs.2.2.2 e6).tup .nil)))).tup.le ?_ ?_
          · rw [w2]; omega
          · rw [d2]; omega
theorem rdStmt_ok : ∀ n, GR 4 (rdStmt n)
  | 0 => fun x d _ e => nomatch e
  | n + 1 => stmt_ok (rdIdx_ok (n + 1)) (rdExpr_ok (n + 1)) (rdTest_ok (n + 1)) (rdStmt_ok n)
theorem var_ok {ps : List Node} {d : PyData} (g : goods ps) (e : varOf ps = .ok d) : Gd (100 * wts ps - 1) 4 d := by
  match ps, e with
  | [a], e =>
    rw [goods] at g
    have pa := wt_pos g.1
    rw [varOf] at e
    obtain ⟨n, e1, e⟩ := bind_ok e
    cases e
    refine (Gds.cons (nameOf_ok e1) (.cons (Gd.int (i := 0) (by decide) (by decide)) .nil)).tup.le ?_ (by omega)
    rw [wts]; omega
  | a :: b :: r, e =>
    rw [goods] at g
    have pa := wt_pos g.1
    rw [varOf] at e
    obtain ⟨n, e1, e⟩ := bind_ok e
    obtain ⟨k, e2, e⟩ := bind_ok e
    cases e
    refine (Gds.cons (nameOf_ok e1) (.cons (numOf_ok (by decide) (by decide) e2) .nil)).tup.le ?_ (by omega)
    rw [wts]; omega
theorem ref_ok : GR 4 refOf := by
  intro x d g e
  unfold refOf at e
  obtain ⟨ps, e1, e2⟩ := bind_ok e
  obtain ⟨i, e3⟩ := parts_ok e1
  clear e
  subst e3
  refine (var_ok (good_form g) e2).le ?_ (by omega)
  rw [wt_form]; omega
theorem proc_ok {stmt : Node → Rd PyData} (hs : GR 4 stmt) : ∀ {h : Str} {j : Int} {r : List Node} {i : Int} {d : PyData}, (Node.form (.word h j :: r) i).good → procOf stmt (.form (.word h j :: r) i) = .ok d → Gd (100 * (Node.form (.word h j :: r) i).wt - 1) (4 * (Node.form (.word h j :: r) i).depth + 8) d := by
  intro h j r i d g e
  unfold procOf at e
  obtain ⟨qs, e2, e⟩ := bind_ok e
  obtain ⟨i2, e3⟩ := parts_ok e2
  cases e3
  have gs := good_form g
  match r, e with
  | n :: a :: b :: r, e =>
    rw [goods, goods, goods, goods] at gs
    obtain ⟨w2, d2⟩ := more n a (b :: r) h j i
    have pt := wt_pos gs.2.1
    have pa := wt_pos gs.2.2.1
    have pb := wt_pos gs.2.2.2.1
    have ew : wts (b :: r) = b.wt + wts r := by rw [wts]
    have ed : depths (b :: r) = max b.depth (depths r) := by rw [depths]
    obtain ⟨z, e4, e⟩ := bind_ok e
    obtain ⟨x, e5, e⟩ := bind_ok e
    obtain ⟨y, e6, e⟩ := bind_ok e
    obtain ⟨v, e7, e⟩ := bind_ok e
    cases e
    refine (Gds.cons (nameOf_ok e4) (.cons (body_gd nameD_ok gs.2.2.1 e5) (.cons (body_gd ref_ok gs.2.2.2.1 e6) (.cons (rdAll_ok hs gs.2.2.2.2 e7).tup .nil)))).tup.le ?_ ?_
    · rw [w2, ew]; omega
    · rw [d2, ed]; omega
theorem decl_ok {stmt : Node → Rd PyData} (hs : GR 4 stmt) {st k : Nat} {x : Node} {d : PyData} (g : x.good) (e : declOf stmt st x = .ok (k, d)) : Gd (100 * x.wt - 1) (4 * x.depth + 8) d := by
  unfold declOf at e
  obtain ⟨h, e1, e⟩ := bind_ok e
  obtain ⟨hm, j, r, i, ex⟩ := first_ok e1
  cases ex
  have gs := good_form g
  rw [goods] at gs
  split at e
  · obtain ⟨y, e2, e⟩ := bind_ok (α := List PyData) e
    cases e
    refine (rdAll_ok hs gs.2 e2).tup.le ?_ ?_
    · rw [wt_form, wts]; omega
    · rw [dep_form, depths]; omega
  · split at e
    · obtain ⟨y, e2, e⟩ := bind_ok e
      cases e
      exact proc_ok hs g e2
    · obtain ⟨ps, e2, e⟩ := bind_ok e
      obtain ⟨y, e3, e⟩ := bind_ok e
      cases e
      obtain ⟨i2, e4⟩ := parts_ok e2
      cases e4
      refine (var_ok gs.2 e3).le ?_ (by omega)
      rw [wt_form, wts]; omega
/-- the groups -/
structure GG (w p : Nat) (g : Gr) : Prop where
  ex : ∃ a b c d, Gds a p g.a ∧ Gds b p g.b ∧ Gds c p g.c ∧ Gds d p g.d ∧ a + b + c + d ≤ w
theorem GG.put {w p w' : Nat} {g : Gr} {k : Nat} {x : PyData} (h : GG w p g) (hx : Gd w' p x) : GG (w + (w' + 1)) p (g.put k x) := by
  obtain ⟨a, b, c, d, ha, hb, hc, hd, hw⟩ := h.ex
  have one := Gds.cons hx .nil
  match k with
  | 0 => exact ⟨_, b, c, d, (ha.append one).le (Nat.le_refl _) (by omega), hb, hc, hd, by omega⟩
  | 1 => exact ⟨a, _, c, d, ha, (hb.append one).le (Nat.le_refl _) (by omega), hc, hd, by omega⟩
  | 2 => exact ⟨a, b, _, d, ha, hb, (hc.append one).le (Nat.le_refl _) (by omega), hd, by omega⟩
  | k + 3 => exact ⟨a, b, c, _, ha, hb, hc, (hd.append one).le (Nat.le_refl _) (by omega), by omega⟩
theorem decls_ok {stmt : Node → Rd PyData} (hs : GR 4 stmt) : ∀ {ns : List Node} {st w p : Nat} {g g' : Gr}, goods ns → GG w p g → 4 * depths ns + 8 ≤ p → declsOf stmt st g ns = .ok g' → GG (w + 100 * wts ns) p g'
  | [], st, w, p, g, g', _, h, _, e => by
    rw [declsOf] at e; cases e
    rw [wts]; exact h
  | n :: r, st, w, p, g, g', gs, h, hp, e => by
    rw [goods] at gs
    rw [declsOf] at e
    rw [depths] at hp
    have pos := wt_pos gs.1
    cases e1 : declOf stmt st n with
    | error j => rw [e1] at e; cases e
    | ok kx =>
      obtain ⟨k, x⟩ := kx
      rw [e1] at e
      have gx := (decl_ok hs gs.1 e1).le (Nat.le_refl _) (show 4 * n.depth + 8 ≤ p by omega)
      have q := decls_ok hs gs.2 (h.put (k := k) gx) (by omega) e
      obtain ⟨a, b, c, d, ha, hb, hc, hd, hw⟩ := q.ex
      refine ⟨a, b, c, d, ha, hb, hc, hd, ?_⟩
      rw [wts]; omega
theorem tree_ok {cs : List Nat} {d : PyData} (hl : cs.length ≤ 6000) (e : readText cs = .ok d) : ∃ ds, d = .tuple ds ∧ Gd 600100 100 d := by
  unfold readText at e
  cases e1 : formsOf cs with
  | error j => rw [e1] at e; cases e
  | ok ns =>
    rw [e1] at e
    obtain ⟨g, wt, dp⟩ := forms_ok e1 hl
    unfold readNodes at e
    cases e2 : declsOf (rdStmt fuel) 0 {} ns with
    | error j => simp only [e2] at e; cases e
    | ok gr =>
      simp only [e2] at e
      have q := decls_ok (rdStmt_ok fuel) g (w := 0) (p := 88) ⟨0, 0, 0, 0, Gds.nil.le (Nat.zero_le _) (Nat.zero_le _), Gds.nil.le (Nat.zero_le _) (Nat.zero_le _), Gds.nil.le (Nat.zero_le _) (Nat.zero_le _), Gds.nil.le (Nat.zero_le _) (Nat.zero_le _), Nat.le_refl _⟩ (by omega) e2
      obtain ⟨a, b, c, f, ha, hb, hc, hd, hw⟩ := q.ex
      unfold treeOf at e
      split at e
      · cases e
      · rename_i x r hx
        cases e
        rw [hx] at hd
        have gx : Gd f 88 x := by
          have l := hd.lay; have i := hd.sml; have s := hd.show_; have w1 := hd.wt; have p1 := hd.dep
          simp only [PyData.canLayAll0, Bool.and_eq_true] at l
          simp only [PyData.intsShortAll, Bool.and_eq_true] at i
          simp only [PyData.showableAll, Bool.and_eq_true] at s
          simp only [PyData.weightAll] at w1
          simp only [PyData.depthAll] at p1
          exact ⟨l.1, i.1, s.1, by omega, by omega⟩
        refine ⟨_, rfl, (Gds.cons ha.tup (.cons hb.tup (.cons hc.tup (.cons gx .nil)))).tup.le (by omega) (by omega)⟩
/-- what is needed to show it -/
theorem Gd.shows {d : PyData} (g : Gd 600100 100 d) : d.showable = true ∧ d.hasDict = false ∧ d.depth ≤ 100 ∧ d.shown.length ≤ sizeLine := by
  refine ⟨g.show_, PyData.hasDict_of_canLay d g.lay, g.dep, PyData.shown_fits (B := 13) (by decide) (by decide) (PyData.leavesShort_of_canLay0 13 d g.lay g.sml) ?_⟩
  have := g.wt
  have : (2 : Nat) ^ 20 = 1048576 := by decide
  omega
end K10
set_option maxHeartbeats 16000000
/-! K10End: the law itself. Printed by expand.py from K10End.tpl. -/
namespace K10
open PySem PySem.Spec PyProof.Rows L2
/-! ### the program's answer to a text -/
theorem text_long {cs : List Nat} (h : 6000 < cs.length) : textOf cs = .error 0 := by
  unfold textOf formsT splitOf
  rw [if_pos h]
theorem text_bad {cs : List Nat} {k : Nat} (h : ¬ 6000 < cs.length) (e : badAt 0 cs = some k) : textOf cs = .error (k : Int) := by
  unfold textOf formsT splitOf
  rw [if_neg h, e]
theorem text_good {cs : List Nat} (h : ¬ 6000 < cs.length) (e : badAt 0 cs = none) : textOf cs = readText cs := by
  unfold textOf formsT splitOf readText formsOf
  rw [if_neg h, e] <;> rfl
/-! ### isinstance of the caught error, calls in a try -/
def rIsTX (K : PySem.W.Frag) (D a : Addr) (cls : Value) (d : Option Addr) : List V → Hp → VK → Prop := fun xs H Q => cls = .ref D ∧ ∃ dd, d = some dd ∧ rIsT K D a dd xs H Q
theorem call_isTX {X : Cx} {a D : Addr} {cls : Value} {d : Option Addr} {oe : Obj} {pn : List (Addr × Obj)} (C : ExcC X.K D) (hz : Zc cls d oe) (hf : ∃ vs, oe.data = .fields vs) : CallR (X.suite a ((a, oe) :: pn)) (.builtin "isinstance") (rIsTX X.K D a cls d) := by
  intro pins s σ H xs us Q I r h
  obtain ⟨rfl, dd, rfl, h⟩ := h
  exact call_isT C hz hf pins s σ H xs us Q I r h
theorem pe_callHS {X : Cx} {CX : CXT} {j k : Nat} {x : Str} {ps : List Str} {sp : Sp} {E : L2.St → XK} {p pos : Pos} {e : Expr} {es : List Expr} {t : TA} (h : Has X.prog X.w X.K X.mg X.base CX j x ps sp) (hr : Room k X.A) (l : j ≤ k) (hg : Gl X x) (hx : ∀ σ, PassesAt CX X σ (E σ)) (ha : PA X (e :: es) t) (hd : (x == ("__debug__" : Str)) = false := by decide)
    (he : starEach (e :: es) X.env = (false, eval e X.env) :: starEach es X.env := by rfl) (hpl : (backTo pos (starEach es X.env)).any (·.1) = false := by rfl) : PE X (.Call (.Name x p) (e :: es) [] pos) (tCallS sp E t) := by
  obtain ⟨f, fd, a, b, c, d⟩ := h.ex
  exact pe_callS d (hr.mono l) hg a b c hx ha hd he hpl
section
variable {P : Program} {w : World} {K : PySem.W.Frag} {mg : Str → Option Value} {base : Heap}
theorem Facts.noN (F : Facts w K mg) : PySem.W.findIn K (.ref (tC K)) "at" = some none := of_decide_eq_true (F.ex_ 13)
def nLaw : List Str := ["_law_script", "_law_draws_here", "_law_at", "_law_words_here", "_law_row", "_law_text_here", "_law_tab", "_law_m", "_law_due", "_law_actual", "e"]
def pLaw : List Str := ["_law_script"]
theorem scLaw : FnScope nLaw pLaw (defScope sLaw) := ⟨rfl, rfl, rfl, by decide +kernel, rfl, by decide +kernel, by decide +kernel⟩
theorem bLaw : BindsBy "law" sLaw pLaw := fun _ _ _ _ _ _ us hl => match us, hl with | [_], _ => rfl
/-- the call in the try -/
def tTryB (K : PySem.W.Frag) : WX → TS := fun W => tAsg (tCallS (spTree (tC K)) (WE W) (tCons (tVar 5) tNil)) (gName 9)
abbrev tBadG : TE := tDGet (tVar 7) (L2.tC (.str "bad"))
/-- the suite -/
def tSuite (K : PySem.W.Frag) : Addr → Value → Option Addr → TS := fun a cls d =>
  tSeq (tIfS (tOr (tNot (tB (tCB (rIsTX K (tC K) a cls d) (tCons (tVar 10) (tCons (L2.tC (.ref (He.ga K "TextError"))) tNil))))) (tOr (tNot (tB (tCB (rIsTX K (tC K) a cls d) (tCons (tVar 10) (tCons (L2.tC (.ty "ValueError")) tNil))))) (tB (tCB (rIsTX K (tC K) a cls d) (tCons (tVar 10) (tCons (L2.tC (.ref (He.ga K "TreeError"))) tNil)))))) (tRet (L2.tC (.bl false))) tNext)
    (tRet (tAndV (tOp (rI0 fun i j => .bl (decide (j ≤ i))) tBadG (L2.tC (.int 0))) (tAndV (tOp rEq (tXf a cls d (tC K) "at" (tVar 10)) tBadG) (tNotV (tCB (rIsi K) (tCons (tXf a cls d (tC K) "at" (tVar 10)) (tCons (L2.tC (.ty "bool")) tNil)))))))
abbrev rRep (X : Cx) : List V → Hp → VK → Prop := fun xs H Q => ∃ a ds, xs = [.ref a] ∧ Dp X.K H (.ref a) (.tuple ds) ∧ (PyData.tuple ds).showable = true ∧ (PyData.tuple ds).hasDict = false ∧
    X.A.units + ((PyData.tuple ds).depth + 1) < cLine ∧ (PyData.tuple ds).shown.length ≤ sizeLine ∧ Q (.str (PyData.tuple ds).shown) H
/-- what is left when the law's own reader has answered -/
def tLast (X : Cx) : TS := tSeq (fun D σ H => tTryB X.K (wAs X.K (.ref (He.ga X.K "CountermarchError")) 10 (tSuite X.K) (fun _ _ _ _ => False) D) D σ H)
  (tRet (tAndV (tOp (rI0 fun i j => .bl (decide (i < j))) tBadG (L2.tC (.int 0))) (tOp rEq (tCB (rRep X) (tCons (tVar 9) tNil)) (tCB (rRep X) (tCons (tVar 8) tNil)))))
/-- the two answers agree -/
def Agree (H : Hp) (m : Addr) (due : V) (r : Rd PyData) : Prop := Bad H m (err r) ∧ ∀ d, r = .ok d → Tv H due d
theorem law_last {X : Cx} (F : Facts w X.K mg) {H : Hp} {m : Addr} {due : V} {t : Str} {z0 z1 z2 z3 z4 z6 : Option V} {Q : VK} (hun : X.A.units + 200 < cLine) (ht : t.length ≤ sizeLine)
    (ag : Agree H m due (textOf t.cps.toList)) (sh : ∀ d, textOf t.cps.toList = .ok d → ∃ ds, d = .tuple ds ∧ Gd 600100 100 d) (q : ∀ H', Q (.bl true) H') :
    tLast X { nx := fun _ H' => Q .non H', rt := Q } [z0, z1, z2, z3, z4, some (.str t), z6, some (.ref m), some due, none, none] H := by
  obtain ⟨hb, hv⟩ := ag
  refine ⟨_, rfl, t, rfl, ht, ?_⟩
  cases e : textOf t.cps.toList with
  | ok d =>
    rw [e] at hb
    obtain ⟨ds, rfl, gd⟩ := sh d e
    obtain ⟨b, hm, hbb⟩ := hb
    have hbn : b < 0 := hbb
    obtain ⟨h1, h2, h3, h4⟩ := gd.shows
    intro v' H' s tv
    have tv2 := Tv.fr (frS s) _ _ (hv _ e)
    have hm' := s _ _ hm
    refine ⟨_, rfl, m, _, rfl, bad_get hm', _, _, rfl, rfl, _, rfl, ?_⟩
    rw [decide_eq_true hbn]
    obtain ⟨p1, rfl⟩ : ∃ p, v' = .ref p := by cases tv with | tup _ _ => exact ⟨_, rfl⟩
    obtain ⟨p2, rfl⟩ : ∃ p, due = .ref p := by cases tv2 with | tup _ _ => exact ⟨_, rfl⟩
    refine iteT ⟨_, rfl, p1, ds, rfl, Tv.dp _ _ tv, h1, h2, by omega, h4, _, rfl, p2, ds, rfl, Tv.dp _ _ tv2, h1, h2, by omega, h4, rfl, ?_⟩
    rw [decide_eq_true rfl]
    exact q _
  | error er =>
    rw [e] at hb
    obtain ⟨b, hm, hb⟩ := hb
    obtain ⟨rfl, hb0⟩ : b = er ∧ 0 ≤ er := hb
    intro d H' s hx
    have hm' := s _ _ hm
    refine ⟨true, of_decide_eq_true (F.ex_ 20), fun _ a ha => ?_, fun z => nomatch z⟩
    refine ⟨_, rfl, rfl, d, rfl, _, _, true, _, rfl, hx, fun u h => h, of_decide_eq_true (F.ex_ 25), _, rfl, iteF ?_⟩
    refine ⟨_, rfl, rfl, d, rfl, _, _, true, _, rfl, hx, fun u h => h, of_decide_eq_true (F.ex_ 26), _, rfl, iteF ?_⟩
    refine ⟨_, rfl, rfl, d, rfl, _, _, false, _, rfl, hx, fun u h => h, of_decide_eq_true (F.ex_ 27), _, rfl, iteF ?_⟩
    refine ⟨_, rfl, m, _, rfl, bad_get hm', _, _, rfl, rfl, _, rfl, ?_⟩
    rw [decide_eq_true hb0]
    refine iteT ⟨_, rfl, rfl, rfl, d, _, _, rfl, hx, rfl, _, rfl, m, _, rfl, bad_get hm', rfl, _, rfl, ?_⟩
    rw [decide_eq_true rfl]
    exact iteT ⟨_, rfl, rfl, rfl, d, _, _, rfl, hx, rfl, _, _, _, _, false, rfl, .ty _, .base (.int _), kit_ty (by decide +kernel), _, rfl, q _⟩
theorem wl_hid {D A p : Addr} {H : Hp} {n : Nat} (d : Dr D A H) (h : WL H n p) : ∃ ws : List Str, hid A H p = some (.lst (ws.map V.str)) ∧ ws.length ≤ n ∧ gws ws := by
  obtain ⟨ws, h1, h2, h3⟩ := h
  refine ⟨ws, ?_, h2, h3⟩
  have ne : p ≠ A := fun z => by
    obtain ⟨k, hk⟩ := d.at_
    rw [z, hk] at h1
    injection h1 with h1
    injection h1 with h1
    cases ws with
    | nil => cases h1
    | cons a r => injection h1 with h1; cases h1
  rw [hid_ne ne]; exact h1
theorem hid_ft {A : Addr} {H : Hp} : Ft (hid A H) H := fun b xs h => (hid_of h).1
theorem dict_one {H : Hp} {m : Addr} {v : V} : upd (upd H m (.dK [])) m (.dK (mergeK [] [(Sum.inr ("bad" : Str), v)])) = upd H m (.dK [(Sum.inr ("bad" : Str), v)]) := by
  rw [upd_upd]
  have e : mergeK [] [((Sum.inr ("bad" : Str) : Key), v)] = [(Sum.inr ("bad" : Str), v)] := by simp [mergeK, putK]
  rw [e]
theorem law_reads (F : Facts w K mg) (PT : ProgT P) {cdv : Value} {A0 : Around} {outer : List Env} {s : Shared} {H : Hp} {E : XK} (hr : Room 61 (A0.deeper (envOfC "law" (defScope sLaw) s.heap.objs.size (He.ga K "law") cdv)))
    (hgd : (A0.deeper (envOfC "law" (defScope sLaw) s.heap.objs.size (He.ga K "law") cdv)).guards = some []) {l : Addr} {zs : List Int} (hS : SqL K H l (zs.map V.int)) {Q : VK} (q : ∀ H', Q (.bl true) H') :
    ∃ t, PSs (cxOf CX0 P w K mg base nLaw "law" (defScope sLaw) (He.ga K "law") cdv A0 outer s H E).nox (defBody sLaw) t ∧ t { nx := fun _ H' => Q .non H', rt := Q } (start nLaw [.ref l]) H := by
  have h__law_draws := has__law_draws (P := P) (base := base) F
  have h__law_tree := has__law_tree (P := P) (base := base) F
  have h__law_words := has__law_words (P := P) (base := base) F
  have h__law_changed := has__law_changed (P := P) (base := base) F
  have h__law_text := has__law_text (P := P) (base := base) F
  have h__law_read := has__law_read (P := P) (base := base) F
  have h_read_program := has_read_program (base := base) F PT
  have hu := hu_of hr
  have hun : (A0.deeper (envOfC "law" (defScope sLaw) s.heap.objs.size (He.ga K "law") cdv)).units + 200 < cLine := by have := hr.un; omega
  refine ⟨_, (pss_cons (ps_set (i := 1) scLaw.nd rfl (Or.inl rfl) (pe_callH h__law_draws hr (by omega) rfl pass0 (pa_cons (pv 0) pa_nil)))
    (pss_cons (ps_set (i := 2) scLaw.nd rfl (Or.inl rfl) (pe_lst (pa_cons pe_int pa_nil)))
    (pss_cons (ps_set (i := 3) scLaw.nd rfl (Or.inl rfl) (pe_lst pa_nil))
    (pss_cons (ps_for PassesOwn.never rfl (pi_list (pe_callH h__law_words hr (by omega) rfl pass0 (pa_cons (pe_callH h__law_tree hr (by omega) rfl pass0 (pa_cons (pv 1) (pa_cons (pv 2) pa_nil))) pa_nil))) (pg_name (i := 4) scLaw.nd rfl (Or.inl rfl))
      (pss_one (ps_set (i := 3) scLaw.nd rfl (Or.inl rfl) (pe_op op_cat (pv 3) (pv 4)))))
    (pss_cons (ps_asg (pe_callH h__law_text hr (by omega) rfl pass0 (pa_cons (pe_callH h__law_changed hr (by omega) rfl pass0 (pa_cons (pv 3) (pa_cons (pv 1) (pa_cons (pv 2) pa_nil)))) (pa_cons (pv 1) (pa_cons (pv 2) pa_nil)))) (pg_tup rfl (pgs_cons (pg_name (i := 5) scLaw.nd rfl (Or.inl rfl)) (pgs_cons (pg_name (i := 6) scLaw.nd rfl (Or.inl rfl)) pgs_nil))))
    (pss_cons (ps_set (i := 7) scLaw.nd rfl (Or.inl rfl) (pe_disp (pps_cons pe_str (pe_un un_neg pe_int) pps_nil) rfl rfl (fun z => nomatch z) (by decide)))
    (pss_cons (ps_set (i := 8) scLaw.nd rfl (Or.inl rfl) pe_non)
    (pss_cons (ps_if (pt_cmpR op_gt (pe_callB call_len_str (by rfl) F.z_len (by decide +kernel) (pa_cons (pv 5) pa_nil)) pe_int (nomark _)) (pss_one (ps_dput hu (pv 7) pe_str pe_int rfl))
      (pss_one (ps_if (pt_cmpR op_ge (pv 6) pe_int (nomark _)) (pss_one (ps_dput hu (pv 7) pe_str (pv 6) rfl))
        (pss_one (ps_set (i := 8) scLaw.nd rfl (Or.inl rfl) (pe_callH h__law_read hr (by omega) rfl pass0 (pa_cons (pv 5) (pa_cons (pv 7) pa_nil))))))))
    (pss_cons (ps_try_as (i := 10) (tb := tTryB K) (ts := tSuite K) (Wout := fun _ _ _ _ => False) rfl rfl scLaw.nd rfl rfl ⟨rfl, by decide, Or.inl F.g_CountermarchError⟩ takes0
      (fun W pn xe tk _ => (pss_one (ps_set (i := 9) scLaw.nd rfl (Or.inl rfl) (pe_callHS h_read_program hr (by omega) rfl (fun σ => passAt tk σ) (pa_cons (pv 5) pa_nil)))))
      (fun a oe cls d pn hz hf => (pss_cons (ps_if (PW.pt (pw_or (pt_not (pt_val (pe_callB (call_isTX F.xc hz hf) (by rfl) F.z_isinstance (by decide +kernel) (pa_cons (pv 10) (pa_cons (pe_glob (v := .ref (He.ga K "TextError")) rfl F.g_TextError rfl) pa_nil))))) (pw_or (pt_not (pt_val (pe_callB (call_isTX F.xc hz hf) (by rfl) F.z_isinstance (by decide +kernel) (pa_cons (pv 10) (pa_cons (pe_bltn (v := .ty "ValueError") (by rfl) F.z_ValueError (by decide +kernel) rfl) pa_nil))))) (pw_or1 (pt_val (pe_callB (call_isTX F.xc hz hf) (by rfl) F.z_isinstance (by decide +kernel) (pa_cons (pv 10) (pa_cons (pe_glob (v := .ref (He.ga K "TreeError")) rfl F.g_TreeError rfl) pa_nil)))))))) (pss_one (ps_ret pe_bl))
        pss_nil)
      (pss_one (ps_ret (pe_and (pe_cmpR op_ge (pe_dget hu (pv 7) pe_str (fun _ _ => rfl)) pe_int (nomark _)) (pe_and (pe_cmpR op_eq (pe_xf F.xf F.noN hz hf (pv 10)) (pe_dget hu (pv 7) pe_str (fun _ _ => rfl)) (nomark _)) (pe_one (pe_not (pe_callB call_isi (by rfl) F.z_isinstance (by decide +kernel) (pa_cons (pe_xf F.xf F.noN hz hf (pv 10)) (pa_cons (pe_bltn (v := .ty "bool") (by rfl) F.z_bool (by decide +kernel) rfl) pa_nil))))))))))))
    (pss_one (ps_ret (pe_and (pe_cmpR op_lt (pe_dget hu (pv 7) pe_str (fun _ _ => rfl)) pe_int (nomark _)) (pe_one (pe_cmpR op_eq (pe_callB (call_reprD hgd) (by rfl) F.z_repr (by decide +kernel) (pa_cons (pv 9) pa_nil)) (pe_callB (call_reprD hgd) (by rfl) F.z_repr (by decide +kernel) (pa_cons (pv 8) pa_nil)) (nomark _))))))))))))))), ?_⟩
  refine ⟨_, rfl, l, zs, rfl, hS, fun D H1 s1 n1 hD => ⟨lb rfl, fun A nA => ⟨lb rfl, fun W nW => ?_⟩⟩⟩
  obtain ⟨ds, hD⟩ := hD
  have DA : D ≠ A := fun z => by rw [z, nA] at hD; cases hD
  have hA2 : upd H1 A (.lst [.int ((0 : Nat) : Int)]) A = some (.lst [.int ((0 : Nat) : Int)]) := upd_same
  have d2 : Dr D A (upd H1 A (.lst [.int ((0 : Nat) : Int)])) := ⟨⟨ds, by rw [hid_ne DA, upd_ne DA]; exact hD⟩, 0, hA2⟩
  have d3 := d2.new (o := .lst (([] : List Str).map V.str)) nW
  have hW := d2.at_new (o := .lst (([] : List Str).map V.str)) nW
  refine ⟨_, rfl, _, rfl, D, A, rfl, d3, fun v H4 s4 d4 ht => ?_⟩
  have hW4 := s4 _ _ hW
  refine ⟨v, rfl, ht.ft hid_ft, fun p H5 s5 rl ex => ?_⟩
  have hD5 := s5 _ _ (hid_of (d4.ds.choose_spec)).1
  have d5 : Dr D A H5 := by
    obtain ⟨es, he⟩ := d4.ds
    obtain ⟨k, hk⟩ := d4.at_
    exact ⟨⟨es, by rw [hid_ne (hid_of he).2]; exact s5 _ _ (hid_of he).1⟩, k, s5 _ _ hk⟩
  have hW5 : hid A H5 W = some (.lst (([] : List Str).map V.str)) := by rw [hid_ne (hid_of hW4).2]; exact s5 _ _ (hid_of hW4).1
  obtain ⟨us, h1, h2, h3⟩ := rl
  obtain ⟨us0, lq, hex, hne⟩ := ex
  have eus : us = us0 ++ [.ref lq] := by rw [h1] at hex; injection hex with hex; injection hex
  have p5 : hid A H5 p = some (.lst us) := by
    have ne : p ≠ A := fun z => by
      obtain ⟨k, hk⟩ := d5.at_
      rw [z, hk] at h1
      injection h1 with h1
      injection h1 with h1
      cases us with
      | nil => cases h1
      | cons a r =>
        injection h1 with h1
        obtain ⟨_, e, _⟩ := h3 a (List.mem_cons_self ..)
        rw [← h1] at e; cases e
    rw [hid_ne ne]; exact h1
  refine ⟨p, rfl, ⟨us, SqL.of h1⟩, ?_⟩
  refine for_list (xs := us) (fun k σ H6 => ∃ W6 z4, ∃ ws : List Str, σ = [some (.ref l), some (.ref D), some (.ref A), some (.ref W6), z4, none, none, none, none, none, none] ∧ Sm A H5 H6 ∧ Dr D A H6 ∧ hid A H6 W6 = some (.lst (ws.map V.str)) ∧ ws.length ≤ 107727 * k ∧ gws ws ∧ (k = us.length → ws ≠ []))
    ⟨W, none, [], rfl, Same.refl _, d5, hW5, Nat.zero_le _, (fun _ h => nomatch h), fun z => by rw [eus] at z; simp at z⟩ (fun k σ H6 _ h => ?_) (fun k x σ H6 hx h => ?_) (fun σ H6 h => ?_)
  · obtain ⟨_, _, _, _, s6, _⟩ := h
    exact SqL.of (hid_of (s6 _ _ p5)).1
  · obtain ⟨W6, z4, ws, rfl, s6, d6, hW6, wl, wg, _⟩ := h
    obtain ⟨px, rfl, _, hpx⟩ := h3 x (List.mem_of_getElem? hx)
    have hk : k < us.length := (List.getElem?_eq_some_iff.mp hx).1
    obtain ⟨xs, hxs, xl, xg⟩ := wl_hid d5 hpx
    refine ⟨_, rfl, _, rfl, catD d6 hW6 (s6 _ _ hxs) (by omega) (fun W7 H7 s7 d7 h7 => ?_)⟩
    refine ⟨W7, _, ws ++ xs, rfl, s6.trans s7, d7, h7, by rw [List.length_append]; omega, wg.app xg, fun z => ?_⟩
    have e0 : us[k]? = some (.ref lq) := by
      have : k = us0.length := by rw [eus] at z; simp at z; omega
      rw [eus, this]; simp
    rw [hx] at e0
    cases e0
    obtain ⟨v0, vr, e1⟩ := hne
    have e2 := (hid_of hxs).1
    rw [e1] at e2
    cases xs with
    | nil => cases e2
    | cons a r => simp
  · obtain ⟨W6, z4, ws, rfl, s6, d6, hW6, wl, wg, wne⟩ := h
    refine ⟨_, rfl, _, rfl, _, rfl, W6, D, A, ws, rfl, d6, hW6, wne rfl, by omega, wg, fun p7 H7 us7 s7 d7 h7 l7 g7 => ?_⟩
    refine ⟨_, rfl, _, rfl, p7, D, A, us7, rfl, d7, h7, by omega, g7, fun p8 H8 t tab s8 d8 h8 tl tc => ?_⟩
    refine ⟨p8, _, rfl, SqT.of (hid_of h8).1, rfl, _, _, rfl, _, _, rfl, rfl, ?_⟩
    intro m hm
    refine ⟨_, rfl, upd_same, [(Sum.inr ("bad" : Str), .int (-1))], rfl, by decide, ?_⟩
    rw [dict_one]
    have b9 : Bad (upd H8 m (.dK [(Sum.inr ("bad" : Str), .int (-1))])) m none := ⟨-1, upd_same, by decide⟩
    have e9 : (upd H8 m (.dK [(Sum.inr ("bad" : Str), .int (-1))])) m = some (.dK [(Sum.inr ("bad" : Str), .int (-1))]) := upd_same
    generalize upd H8 m (.dK [(Sum.inr ("bad" : Str), .int (-1))]) = H9 at *
    have tl2 : t.length ≤ sizeLine := by rw [line_eq]; omega
    have eL : t.cps.toList.length = t.length := Array.length_toList
    refine ⟨_, rfl, t, rfl, tl2, _, _, rfl, rfl, _, rfl, ite2 (fun c => ?_) (fun c => ?_)⟩
    · have c := of_decide_eq_true c
      refine ⟨_, rfl, m, _, rfl, bad_put e9, ?_⟩
      have tx := text_long (cs := t.cps.toList) (by omega)
      refine law_last (X := (cxOf CX0 P w K mg base nLaw "law" (defScope sLaw) (He.ga K "law") cdv A0 outer s H E).nox) F hun tl2 ⟨?_, fun d e => ?_⟩ (fun d e => ?_) q
      · rw [tx]; exact ⟨0, upd_same, rfl, Int.le_refl _⟩
      · rw [tx] at e; cases e
      · rw [tx] at e; cases e
    · have c : ¬ (6000 : Int) < (t.length : Nat) := fun z => c (decide_eq_true z)
      have c' : ¬ 6000 < t.cps.toList.length := by omega
      refine ⟨_, rfl, _, _, rfl, rfl, _, rfl, ite2 (fun c2 => ?_) (fun c2 => ?_)⟩
      · have c2 := of_decide_eq_true c2
        rcases tc with ⟨rfl, _⟩ | ⟨k, rfl, hk⟩
        · exact absurd c2 (by decide)
        · refine ⟨_, rfl, _, rfl, m, _, rfl, bad_put e9, ?_⟩
          have tx := text_bad c' hk
          refine law_last (X := (cxOf CX0 P w K mg base nLaw "law" (defScope sLaw) (He.ga K "law") cdv A0 outer s H E).nox) F hun tl2 ⟨?_, fun d e => ?_⟩ (fun d e => ?_) q
          · rw [tx]; exact ⟨k, upd_same, rfl, Int.natCast_nonneg k⟩
          · rw [tx] at e; cases e
          · rw [tx] at e; cases e
      · have c2 : ¬ (0 : Int) ≤ tab := fun z => c2 (decide_eq_true z)
        rcases tc with ⟨rfl, hk⟩ | ⟨k, rfl, hk⟩
        · have tx := text_good c' hk
          refine ⟨_, rfl, _, rfl, t, m, rfl, by omega, b9, fun v' HA fA bA tA => ?_⟩
          refine law_last (X := (cxOf CX0 P w K mg base nLaw "law" (defScope sLaw) (He.ga K "law") cdv A0 outer s H E).nox) F hun tl2 ⟨by rw [tx]; exact bA, fun d e => tA d (by rw [← tx]; exact e)⟩ (fun d e => tree_ok (cs := t.cps.toList) (by omega) (by rw [← tx]; exact e)) q
        · exact absurd (Int.natCast_nonneg k) c2
end
end K10
set_option maxHeartbeats 4000000
/-! K10Last: the law's call at the caller's own around (its guards are told there: repr needs them), the theorem. -/
namespace K10
open PySem PySem.Spec PyProof.Rows L2
section
variable {P : Program} {w : World} {K : PySem.W.Frag} {mg : Str → Option Value} {base : Heap}
/-- the call of law, its script tracked -/
theorem law_code (F : Facts w K mg) (PT : ProgT P) {s : Shared} {H : Hp} {a : Addr} {zs : List Int} (e0 : Env0 P w K mg base callerA [] s H) (hS : SqL K H a (zs.map V.int)) :
    codeAny (model P w) callerA (.call (.ref (He.ga K "law")) ⟨[.ref a], []⟩) (fun r s' => ∃ H', r = .ok (.ret (.bool true)) ∧ s'.os = s.os ∧ AllBare s'.gens ∧ Un (frs []) [] H H' s.heap s'.heap ∧ HOk P w H' s'.heap) s := by
  obtain ⟨fd, F1⟩ := F.f_law
  have F2 := He5.fun_of F1
  have bind := F2.binds bLaw
  obtain ⟨oc, od, kV, doc, pm, an, cdv, ct, osl, rfl, lk, hcd⟩ := F2.ex
  have room : Room 62 callerA := ⟨rfl, by decide, by decide⟩
  have KX : K.In s.heap := e0.mod.kin.keeps fun b o e => (e0.bs b o e).1
  have lim : s.heap.NoLimit := e0.mod.nolimit.keeps fun b o e => (e0.bs b o e).1
  have bd := bind s [.ref a] KX rfl
  refine codeAny_call_function room.depth (KX _ _ lk) rfl scLaw.co scLaw.gen rfl (PySem.W.codeRec_of KX hcd) (bd _ _ _ _ ?_)
  refine wpAny_newFunctionEnv_cells scLaw.kind (fun y hy => ?_) fun env he s1 x => ?_
  · have hy : y ∈ [(("_law_script" : Str), Value.ref a)] := hy
    rw [List.mem_singleton.mp hy]
    exact .inl (show (defScope sLaw).names.lookup ("_law_script" : Str) = some NameKind.local by decide +kernel)
  subst he
  refine ⟨lim.keeps x.toInCall.keep, codeAny_func ?_⟩
  obtain ⟨t, ht, hq⟩ := law_reads (base := base) (cdv := cdv) (A0 := callerA) (outer := []) (s := s) (E := fun _ _ _ => False) F PT (room.deeper _) rfl hS (Q := fun v _ => v = V.bl true) fun _ => rfl
  have r : Vals [V.ref a] [Value.ref a] := .cons rfl .nil
  have I : Inv (cxOf CX0 P w K mg base nLaw "law" (defScope sLaw) (He.ga K "law") cdv callerA [] s H (fun _ _ _ => False)) [] (start nLaw [.ref a]) H s1 := inv_start scLaw rfl e0 rfl r x
  refine wpAny_mono (ht.run [] s1 (start nLaw [.ref a]) H _ (I.wish _) hq) (fun fl s' hs => ?_) fun e s' hs => False.elim (show False from hs)
  cases fl with
  | ret u =>
    obtain ⟨v, σ', H', J, rv, q⟩ := hs
    have q : v = V.bl true := q
    subst q
    obtain rfl : u = Value.bool true := rv
    exact ⟨H', rfl, J.os, J.bare, J.base, J.hok⟩
  | next =>
    obtain ⟨σ', H', J, q⟩ := hs
    exact absurd q (fun z => nomatch z)
  | brk =>
    obtain ⟨_, _, _, q⟩ := hs
    exact q.elim
  | cont =>
    obtain ⟨_, _, _, q⟩ := hs
    exact q.elim
/-- the tracked part: nothing, or the script alone, known to the object -/
def scr (a : Addr) (o : Obj) (zs : List Int) : Hp := fun b => if b = a then some (.frz o (.lst (zs.map V.int))) else none
theorem scr_at {a b : Addr} {o : Obj} {zs : List Int} {u : HO} (h : scr a o zs b = some u) : b = a ∧ u = .frz o (.lst (zs.map V.int)) := by
  unfold scr at h
  by_cases e : b = a
  · rw [if_pos e] at h; exact ⟨e, (Option.some.inj h).symm⟩
  · rw [if_neg e] at h; cases h
/-- behind the top, from a tracked part that holds frozen lists alone -/
theorem law_from (F : Facts w K mg) (PT : ProgT P) {mb : Str → Option Value} {s : Shared} {a : Addr} {zs : List Int} {H : Hp}
    (KX : K.In s.heap) (hns : s.heap.Ns mainGlobals mg) (hb : s.heap.Ns builtinsNs mb) (hbb : ∀ x : Str, x ≠ "__name__" → mb x = bootBuiltins x) (hlim : s.heap.NoLimit) (hg : s.gens = #[])
    (hS : SqL K H a (zs.map V.int)) (hok : HOk P w H s.heap) (fz : ∀ b u, H b = some u → (∃ o xs, u = .frz o (.lst xs)) ∧ K.lookup b = none ∧ ∀ o, s.heap.get? b = some o → ∀ es ep, o.data ≠ .dict es ep) :
    codeAny (model P w) callerA (.call (.ref (He.ga K "law")) ⟨[.ref a], []⟩) (fun r s' => r = .ok (.ret (.bool true)) ∧ PySem.OldK s.heap s'.heap ∧ s'.os = s.os ∧ AllBare s'.gens) s := by
  have free : ∀ {b : Addr} {o : Obj}, K.lookup b = some o → H b = none := fun {b o} e => by
    cases q : H b with
    | none => rfl
    | some u => rw [(fz b u q).2.1] at e; cases e
  have notDict : ∀ {b : Addr} {o : Obj} {es : Array DictEntry} {ep : Nat}, s.heap.get? b = some o → o.data = .dict es ep → H b = none := fun {b o es ep} e d => by
    cases q : H b with
    | none => rfl
    | some u => exact absurd d ((fz b u q).2.2 o e es ep)
  have ns : ∀ {b : Addr} {m : Str → Option Value}, s.heap.Ns b m → (hidT s.heap H).Ns b m := fun {b m} ⟨o, es, ep, e, d, r⟩ => ⟨o, es, ep, hidT_get e (notDict e d), d, r⟩
  have KB : K.In (hidT s.heap H) := fun b o e => hidT_get (KX b o e) (free e)
  have M : Mod K mg (hidT s.heap H) := ⟨KB, ns hns, ⟨mb, ns hb, hbb⟩, let ⟨mc, h1, h2⟩ := hlim; ⟨mc, ns h1, h2⟩⟩
  have e0 : Env0 P w K mg (hidT s.heap H) callerA [] s H := ⟨rfl, M, fun b o e => of_hidT e, Nat.le_of_eq (hidT_size _ _), trivial, fun b z => absurd (show b ∈ ([] : List Addr) from z) (by simp), hok, .of_eq hg⟩
  refine codeAny_mono (law_code F PT e0 hS) fun r s' ⟨H', hr, os, bare, un, hok'⟩ => ⟨hr, PySem.OldK.of_keep fun b o e => ?_, os, bare⟩
  cases q : H b with
  | none => exact un.keep b o e q (fun z => absurd (show b ∈ ([] : List Addr) from z) (by simp)) (by simp)
  | some u =>
    obtain ⟨⟨ob, xs, rfl⟩, _⟩ := fz b u q
    obtain ⟨e1, _⟩ := hok b _ q
    obtain ⟨e2, _⟩ := hok' b _ (un.frzs b ob _ q)
    rw [e] at e1
    cases e1
    exact e2
theorem law_end (F : Facts w K mg) (PT : ProgT P) {mb : Str → Option Value} {s : Shared} {a : Addr} {vs : List Value} {zs : List Int}
    (KX : K.In s.heap) (hns : s.heap.Ns mainGlobals mg) (hb : s.heap.Ns builtinsNs mb) (hbb : ∀ x : Str, x ≠ "__name__" → mb x = bootBuiltins x) (hlim : s.heap.NoLimit) (hg : s.gens = #[])
    (ha : s.heap.get? a = some { cls := .type "list", data := .seq vs.toArray }) (hi : IntsAre vs zs) (hl : zs.length ≤ sizeLine) :
    codeAny (model P w) callerA (.call (.ref (He.ga K "law")) ⟨[.ref a], []⟩) (fun r s' => r = .ok (.ret (.bool true)) ∧ PySem.OldK s.heap s'.heap ∧ s'.os = s.os ∧ AllBare s'.gens) s := by
  have rv := vals_ints hi
  cases hk : K.lookup a with
  | some o =>
    have e := KX a o hk
    rw [ha] at e
    cases e
    refine law_from (H := fun _ => none) F PT KX hns hb hbb hlim hg (.inr ⟨_, vs.toArray, _, hk, rfl, rfl, rfl, by rw [List.size_toArray, hi.length]; exact hl, by simpa using rv⟩) (fun b u z => nomatch (show (none : Option HO) = some u from z)) (fun b u z => nomatch (show (none : Option HO) = some u from z))
  | none =>
    refine law_from (H := scr a { cls := .type "list", data := .seq vs.toArray } zs) F PT KX hns hb hbb hlim hg (.inl (.inr ⟨_, if_pos rfl⟩)) (fun b u z => ?_) (fun b u z => ?_)
    · obtain ⟨rfl, rfl⟩ := scr_at z
      exact ⟨ha, by rw [List.length_map]; exact hl, vs, _, rv, ha⟩
    · obtain ⟨rfl, rfl⟩ := scr_at z
      refine ⟨⟨_, _, rfl⟩, hk, fun o e es ep d => ?_⟩
      rw [ha] at e
      cases e
      cases d
end
theorem progT : ProgT (PySem.Challenge.rw_countermarch_k10_whole_any_text_is_judge).prog := ⟨by kernel_rfl, by kernel_rfl⟩
theorem law_name : (HandSHeadRun.topDef R.prog 86).name = ("law" : Str) := by kernel_rfl
end K10
open PySem PySem.W PySem.Calls PyProof.Rows
theorem PySem.Challenge.cw_countermarch_k10_whole_any_text_is_judge_holds : PySem.Challenge.rw_countermarch_k10_whole_any_text_is_judge.Holds := by
  w_on; o_law
  refine HandSHeadRun.head_any (r := K10.R) (q := view K10.R.prog [86]) (H := K10.hk) (ob := K10.ob) (M := 6000) (loose := K10.names) (d := HandSHeadRun.topDef K10.R.prog 86) (kwd := []) K10.ob_eq
    (by kernel_rfl) (fun s => by kernel_rfl) K10.run (by kernel_rfl) (by kernel_rfl) (by kernel_rfl) (by rfl) (by first | assumption | decide +kernel) (by decide +kernel) ⟨rfl, rfl, rfl, rfl, rfl, by decide +kernel⟩ ?hw ?hc
  case hw => w_witness2
  case hc =>
    refine Att.attach_call (n := 63) rfl (by kernel_rfl) fun w s₀ s₁ mg mb fa o pm cd doc a vs ns G Y ho hd hcd hmg hobj hints hlen hg => ?_
    obtain ⟨K, KX, c⟩ := Y
    have F : K10.Facts w K mg := ⟨c, s₁.heap, KX, G.T.g⟩
    rw [K10.law_name] at hmg
    have e : fa = He.ga K "law" := Value.ref.inj (Option.some.inj (hmg.symm.trans F.g_law))
    subst e
    exact K10.law_end F K10.progT KX G.T.g G.T.b G.T.builtins G.T.nolimit hg hobj hints (Nat.le_trans hlen (by decide))
