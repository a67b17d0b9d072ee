import PyProof.Rows.All
import Wide.All
import OpenK.AllK
import Wide.FinOn
import KE.KStateDown
import Lean
import HandS.Codes
import HandS.ForMost
import HandS.Exc
import HandS.TryOnly
import HandS.ExcOwn
import HandS.WordsExc
import HandS.Defaults
import HandS.Lambda
import HandS.EndTab
import HandS.HeadWalk
import HandS.Head2
import HandS.HeadHook4
import HandS.Flow
import HandS.Style
import HandS.Zip
import HandS.RaiseMore
import HandS.CallLocal
import HandS.WrittenGet
import HandS.Evl
import HandS.IsInst
import HandS.Steps
import HandS.Star
import HandS.Walk
import HandS.WideBits
import HandS.Wide
import HandS.ReplaceLit
import HandS.ReplaceList
import KE.KWords
import KE.LtData
import PySem.Challenge.RW_anypasses_k06_whole_texts_read_back
set_option Elab.async false
set_option linter.all false
set_option maxRecDepth 100000
set_option maxHeartbeats 0
/-! K6A: the plain data, their tokens, their texts; texts laid out of tokens. No program here. -/
namespace K6
open PySem L2
abbrev Tx := List Nat
/-! ### signs -/
def figL : Tx := [48, 49, 50, 51, 52, 53, 54, 55, 56, 57]
def letL : Tx := [97, 98, 99, 100, 101, 102, 103, 104, 105, 106, 107, 108, 109, 110, 111, 112, 113, 114, 115, 116, 117, 118, 119, 120, 121, 122,
  65, 66, 67, 68, 69, 70, 71, 72, 73, 74, 75, 76, 77, 78, 79, 80, 81, 82, 83, 84, 85, 86, 87, 88, 89, 90, 95]
def sgnL : Tx := [40, 41, 91, 93, 123, 125, 44, 58, 61]
def isF (c : Nat) : Bool := decide (c ∈ figL)
def isWd (c : Nat) : Bool := decide (c ∈ letL) || decide (c ∈ figL)
def isSg (c : Nat) : Bool := decide (c ∈ sgnL)
def isBl (c : Nat) : Bool := decide (c ∈ [32, 10])
theorem mem_wd {c : Nat} : isWd c = true ↔ c ∈ letL ++ figL := by
  unfold isWd
  rw [Bool.or_eq_true, decide_eq_true_eq, decide_eq_true_eq, List.mem_append]
theorem wd_all {P : Nat → Bool} (h : (letL ++ figL).all P = true) {c : Nat} (hc : isWd c = true) : P c = true := List.all_eq_true.mp h c (mem_wd.mp hc)
theorem wd_not_sg {c : Nat} (hc : isWd c = true) : isSg c = false := by
  have h := wd_all (P := fun c => !isSg c) (by decide) hc
  simpa using h
theorem wd_not_bl {c : Nat} (hc : isWd c = true) : isBl c = false := by
  have h := wd_all (P := fun c => !isBl c) (by decide) hc
  simpa using h
theorem wd_not_mk {c : Nat} (hc : isWd c = true) : decide (c ∈ [36, 64]) = false := by
  have h := wd_all (P := fun c => !decide (c ∈ [36, 64])) (by decide) hc
  simpa using h
theorem mem_fig {c : Nat} : c ∈ figL ↔ 48 ≤ c ∧ c ≤ 57 := by
  unfold figL
  simp only [List.mem_cons, List.not_mem_nil, or_false]
  omega
theorem isF_iff {c : Nat} : isF c = true ↔ 48 ≤ c ∧ c ≤ 57 := by
  unfold isF
  rw [decide_eq_true_eq, mem_fig]
theorem wd_of_fig {c : Nat} (h : isF c = true) : isWd c = true := by
  unfold isWd
  unfold isF at h
  rw [h, Bool.or_true]
/-! ### the data -/
inductive Ty | w (n : Nat) | ptr
  deriving DecidableEq
inductive Opd | v (n : Nat) | n (n : Nat) | g (x : Tx)
  deriving DecidableEq
structure Tgt where
  lab : Nat
  args : List Opd
inductive Op
  | bin (x : Nat) (op : Tx) (w : Nat) (a b : Opd)
  | cmp (x : Nat) (pr : Tx) (w : Nat) (a b : Opd)
  | sel (x : Nat) (t : Ty) (c a b : Opd)
  | cast (x : Nat) (kd : Tx) (v w : Nat) (a : Opd)
  | alloca (x w size : Nat)
  | mem (x : Option Nat) (kd : Tx) (w : Nat) (args : List Opd)
  | call (x : Option Nat) (name : Tx) (args : List Opd)
inductive End
  | jump (t : Tgt)
  | branch (c : Opd) (s t : Tgt)
  | ret (o : Option Opd)
  | stop
structure Blk where
  lab : Nat
  pars : List (Nat × Ty)
  ops : List Op
  en : End
structure Fn where
  name : Tx
  pars : List Ty
  res : Option Nat
  blks : List Blk
structure Gb where
  name : Tx
  w : Nat
  cells : List Nat
structure Md where
  gs : List Gb
  fs : List Fn
/-! ### which are such -/
def WdOk (n : Nat) : Prop := n ∈ [1, 8, 16, 32, 64]
def NumOk (n : Nat) : Prop := n < 2 ^ 64
structure NameOk (x : Tx) : Prop where
  ne : x ≠ []
  len : x.length ≤ 4
  wd : ∀ c ∈ x, isWd c = true
  hd : ∀ c r, x = c :: r → isF c = false
def opsL : List Tx := [[97, 100, 100], [115, 117, 98], [109, 117, 108], [117, 100, 105, 118], [115, 100, 105, 118], [117, 114, 101, 109], [115, 114, 101, 109], [97, 110, 100], [111, 114], [120, 111, 114], [115, 104, 108], [108, 115, 104, 114], [97, 115, 104, 114]]
def predL : List Tx := [[101, 113], [110, 101], [117, 108, 116], [117, 108, 101], [115, 108, 116], [115, 108, 101]]
def castL : List Tx := [[122, 101, 120, 116], [115, 101, 120, 116], [116, 114, 117, 110, 99]]
def kAt : Tx := [97, 116]
def kLoad : Tx := [108, 111, 97, 100]
def kStore : Tx := [115, 116, 111, 114, 101]
def kPrint : Tx := [112, 114, 105, 110, 116]
def kInput : Tx := [105, 110, 112, 117, 116]
def kCmp : Tx := [99, 109, 112]
def kSel : Tx := [115, 101, 108, 101, 99, 116]
def kAlloca : Tx := [97, 108, 108, 111, 99, 97]
def kCall : Tx := [99, 97, 108, 108]
def kBin : Tx := [98, 105, 110]
def kCast : Tx := [99, 97, 115, 116]
def kTo : Tx := [116, 111]
def kJump : Tx := [106, 117, 109, 112]
def kBranch : Tx := [98, 114, 97, 110, 99, 104]
def kRet : Tx := [114, 101, 116, 117, 114, 110]
def kStop : Tx := [115, 116, 111, 112]
def kPtr : Tx := [112, 116, 114]
def kVoid : Tx := [118, 111, 105, 100]
def kGlobal : Tx := [103, 108, 111, 98, 97, 108]
def kDefine : Tx := [100, 101, 102, 105, 110, 101]
def TyOk : Ty → Prop
  | .w n => WdOk n
  | .ptr => True
def OpdOk : Opd → Prop
  | .v i => NumOk i
  | .n i => NumOk i
  | .g x => NameOk x
def ArgsOk (k : Nat) (l : List Opd) : Prop := l.length ≤ k ∧ ∀ o ∈ l, OpdOk o
structure TgtOk (t : Tgt) : Prop where
  lab : NumOk t.lab
  args : ArgsOk 2 t.args
def OptOk : Option Nat → Prop
  | some n => NumOk n
  | none => True
/-- the ops of one width: their kind, whether they give a value, how many args -/
def memL : List (Tx × Bool × Nat) := [(kAt, true, 2), (kLoad, true, 1), (kStore, false, 2), (kPrint, false, 1), (kInput, true, 0)]
def OpOk : Op → Prop
  | .bin x op w a b => NumOk x ∧ op ∈ opsL ∧ WdOk w ∧ OpdOk a ∧ OpdOk b
  | .cmp x pr w a b => NumOk x ∧ pr ∈ predL ∧ WdOk w ∧ OpdOk a ∧ OpdOk b
  | .sel x t c a b => NumOk x ∧ TyOk t ∧ OpdOk c ∧ OpdOk a ∧ OpdOk b
  | .cast x kd v w a => NumOk x ∧ kd ∈ castL ∧ WdOk v ∧ WdOk w ∧ OpdOk a
  | .alloca x w size => NumOk x ∧ WdOk w ∧ NumOk size
  | .mem x kd w args => OptOk x ∧ (kd, x.isSome, args.length) ∈ memL ∧ WdOk w ∧ ∀ o ∈ args, OpdOk o
  | .call x name args => OptOk x ∧ NameOk name ∧ ArgsOk 3 args
def EndOk : End → Prop
  | .jump t => TgtOk t
  | .branch c s t => OpdOk c ∧ TgtOk s ∧ TgtOk t
  | .ret none => True
  | .ret (some o) => OpdOk o
  | .stop => True
structure BlkOk' (b : Blk) : Prop where
  lab : NumOk b.lab
  plen : b.pars.length ≤ 2
  pars : ∀ p ∈ b.pars, NumOk p.1 ∧ TyOk p.2
  olen : b.ops.length ≤ 4
  ops : ∀ o ∈ b.ops, OpOk o
  en : EndOk b.en
def ResOk : Option Nat → Prop
  | some n => WdOk n
  | none => True
structure FnOk' (f : Fn) : Prop where
  name : NameOk f.name
  plen : f.pars.length ≤ 2
  pars : ∀ t ∈ f.pars, TyOk t
  res : ResOk f.res
  bne : f.blks ≠ []
  blen : f.blks.length ≤ 3
  blks : ∀ b ∈ f.blks, BlkOk' b
structure GbOk (g : Gb) : Prop where
  name : NameOk g.name
  w : WdOk g.w
  clen : g.cells.length ≤ 3
  cells : ∀ c ∈ g.cells, c < 2 ^ g.w
/-- each less than the next one -/
def Asc : List Tx → Prop
  | [] => True
  | [_] => True
  | a :: b :: r => a < b ∧ Asc (b :: r)
structure MdOk (m : Md) : Prop where
  glen : m.gs.length ≤ 2
  gs : ∀ g ∈ m.gs, GbOk g
  flen : m.fs.length ≤ 3
  fs : ∀ f ∈ m.fs, FnOk' f
  gasc : Asc (m.gs.map (·.name))
  fasc : Asc (m.fs.map (·.name))
  apart : ∀ f ∈ m.fs, ∀ g ∈ m.gs, f.name ≠ g.name
/-! ### the same as Python's data -/
abbrev tx (l : Tx) : PyData := .str (SX.S l)
abbrev nt (n : Nat) : PyData := .int (n : Int)
def Ty.py : Ty → PyData
  | .w n => nt n
  | .ptr => tx kPtr
def Opd.py : Opd → PyData
  | .v i => .tuple [tx [118], nt i]
  | .n i => .tuple [tx [110], nt i]
  | .g x => .tuple [tx [103], tx x]
def argsPy (l : List Opd) : PyData := .tuple (l.map Opd.py)
def Tgt.py (t : Tgt) : PyData := .tuple [nt t.lab, argsPy t.args]
def optPy : Option Nat → PyData
  | some n => nt n
  | none => .none
def Op.made : Op → Option Nat
  | .bin x _ _ _ _ => some x
  | .cmp x _ _ _ _ => some x
  | .sel x _ _ _ _ => some x
  | .cast x _ _ _ _ => some x
  | .alloca x _ _ => some x
  | .mem x _ _ _ => x
  | .call x _ _ => x
def Op.kind : Op → Tx
  | .bin _ _ _ _ _ => kBin
  | .cmp _ _ _ _ _ => kCmp
  | .sel _ _ _ _ _ => kSel
  | .cast _ _ _ _ _ => kCast
  | .alloca _ _ _ => kAlloca
  | .mem _ kd _ _ => kd
  | .call _ _ _ => kCall
def Op.info : Op → List PyData
  | .bin _ op w _ _ => [tx op, nt w]
  | .cmp _ pr w _ _ => [tx pr, nt w]
  | .sel _ t _ _ _ => [t.py]
  | .cast _ kd v w _ => [tx kd, nt v, nt w]
  | .alloca _ w size => [nt w, nt size]
  | .mem _ _ w _ => [nt w]
  | .call _ name _ => [tx name]
def Op.args : Op → List Opd
  | .bin _ _ _ a b => [a, b]
  | .cmp _ _ _ a b => [a, b]
  | .sel _ _ c a b => [c, a, b]
  | .cast _ _ _ _ a => [a]
  | .alloca _ _ _ => []
  | .mem _ _ _ args => args
  | .call _ _ args => args
def Op.py (o : Op) : PyData := .tuple [optPy o.made, tx o.kind, .tuple o.info, argsPy o.args]
def End.py : End → PyData
  | .jump t => .tuple [tx kJump, t.py]
  | .branch c s t => .tuple [tx kBranch, c.py, s.py, t.py]
  | .ret none => .tuple [tx kRet, .none]
  | .ret (some o) => .tuple [tx kRet, o.py]
  | .stop => .tuple [tx kStop]
def parPy (p : Nat × Ty) : PyData := .tuple [nt p.1, p.2.py]
def Blk.py (b : Blk) : PyData := .tuple [nt b.lab, .tuple (b.pars.map parPy), .tuple (b.ops.map Op.py), b.en.py]
def Fn.py (f : Fn) : PyData := .tuple [tx f.name, .tuple (f.pars.map Ty.py), optPy f.res, .tuple (f.blks.map Blk.py)]
def Gb.py (g : Gb) : PyData := .tuple [tx g.name, nt g.w, nt g.cells.length, .tuple (g.cells.map nt)]
def Md.py (m : Md) : PyData := .tuple [.tuple (m.gs.map Gb.py), .tuple (m.fs.map Fn.py)]
/-! ### the texts -/
abbrev num (n : Nat) : Tx := TL.numL n
def Ty.txt : Ty → Tx
  | .w n => 105 :: num n
  | .ptr => kPtr
def Opd.txt : Opd → Tx
  | .v i => 36 :: num i
  | .n i => num i
  | .g x => 64 :: x
/-- joined by a comma and a blank -/
abbrev cj (l : List Tx) : Tx := TL.joinL [44, 32] l
def argsTxt (l : List Opd) : Tx := cj (l.map Opd.txt)
def Tgt.txt (t : Tgt) : Tx := 98 :: num t.lab ++ 40 :: argsTxt t.args ++ [41]
def headTxt (o : Op) : Tx := match o with
  | .bin _ op w _ _ => op ++ 32 :: Ty.txt (.w w)
  | .cast _ kd v _ _ => kd ++ 32 :: Ty.txt (.w v)
  | .cmp _ pr w _ _ => kCmp ++ 32 :: pr ++ 32 :: Ty.txt (.w w)
  | .sel _ t _ _ _ => kSel ++ 32 :: t.txt
  | .alloca _ w _ => kAlloca ++ 32 :: Ty.txt (.w w)
  | .mem _ kd w _ => kd ++ 32 :: Ty.txt (.w w)
  | .call _ _ _ => []
def deedTxt (o : Op) : Tx := match o with
  | .call _ name args => kCall ++ [32, 64] ++ name ++ 40 :: argsTxt args ++ [41]
  | .alloca _ _ size => headTxt o ++ [44, 32] ++ num size
  | .cast _ _ _ w a => headTxt o ++ 32 :: argsTxt [a] ++ 32 :: kTo ++ 32 :: Ty.txt (.w w)
  | o => if o.args = [] then headTxt o else headTxt o ++ 32 :: argsTxt o.args
def Op.txt (o : Op) : Tx := match o.made with
  | none => deedTxt o
  | some x => 36 :: num x ++ [32, 61, 32] ++ deedTxt o
def End.txt : End → Tx
  | .jump t => kJump ++ 32 :: t.txt
  | .branch c s t => kBranch ++ 32 :: c.txt ++ [44, 32] ++ s.txt ++ [44, 32] ++ t.txt
  | .ret none => kRet
  | .ret (some o) => kRet ++ 32 :: o.txt
  | .stop => kStop
def Gb.txt (g : Gb) : Tx := 64 :: g.name ++ [32, 61, 32] ++ kGlobal ++ 32 :: Ty.txt (.w g.w) ++ [32, 91] ++ cj (g.cells.map num) ++ [93]
def parTxt (p : Nat × Ty) : Tx := p.2.txt ++ [32, 36] ++ num p.1
def Blk.lines (b : Blk) : List Tx := (98 :: num b.lab ++ 40 :: cj (b.pars.map parTxt) ++ [41, 58]) :: (b.ops.map fun o => 32 :: 32 :: o.txt) ++ [32 :: 32 :: b.en.txt]
def resTxt : Option Nat → Tx
  | none => kVoid
  | some n => Ty.txt (.w n)
def Fn.lines (f : Fn) : List Tx := (kDefine ++ 32 :: resTxt f.res ++ [32, 64] ++ f.name ++ 40 :: cj (f.pars.map Ty.txt) ++ [41, 32, 123]) :: f.blks.flatMap Blk.lines ++ [[125]]
def Md.lines (m : Md) : List Tx := m.gs.map Gb.txt ++ m.fs.flatMap Fn.lines
def Md.txt (m : Md) : Tx := TL.joinL [10] m.lines
/-! ### the tokens -/
def Ty.tk (t : Ty) : Tx := t.txt
def Opd.tk (o : Opd) : Tx := o.txt
/-- behind the first of a list -/
def tail {α : Type} (f : α → List Tx) (cl : Tx) : List α → List Tx
  | [] => [cl]
  | a :: r => [44] :: f a ++ tail f cl r
def lst {α : Type} (f : α → List Tx) (op cl : Tx) : List α → List Tx
  | [] => [op, cl]
  | a :: r => op :: f a ++ tail f cl r
/-- so many with commas between -/
def com : List Opd → List Tx
  | [] => []
  | a :: r => a.tk :: r.flatMap fun b => [[44], b.tk]
def argsTk (l : List Opd) : List Tx := lst (fun o => [o.tk]) [40] [41] l
def labTk (n : Nat) : Tx := 98 :: num n
def valTk (n : Nat) : Tx := 36 :: num n
def Tgt.tks (t : Tgt) : List Tx := labTk t.lab :: argsTk t.args
def deedTks : Op → List Tx
  | .bin _ op w a b => op :: Ty.tk (.w w) :: com [a, b]
  | .cmp _ pr w a b => kCmp :: pr :: Ty.tk (.w w) :: com [a, b]
  | .sel _ t c a b => kSel :: t.tk :: com [c, a, b]
  | .cast _ kd v w a => kd :: Ty.tk (.w v) :: a.tk :: kTo :: [Ty.tk (.w w)]
  | .alloca _ w size => [kAlloca, Ty.tk (.w w), [44], num size]
  | .mem _ kd w args => kd :: Ty.tk (.w w) :: com args
  | .call _ name args => kCall :: (64 :: name) :: argsTk args
def Op.tks (o : Op) : List Tx := match o.made with
  | none => deedTks o
  | some x => valTk x :: [61] :: deedTks o
def End.tks : End → List Tx
  | .jump t => kJump :: t.tks
  | .branch c s t => kBranch :: c.tk :: [44] :: s.tks ++ [44] :: t.tks
  | .ret none => [kRet]
  | .ret (some o) => [kRet, o.tk]
  | .stop => [kStop]
def parTks (p : Nat × Ty) : List Tx := [p.2.tk, valTk p.1]
def Blk.tks (b : Blk) : List Tx := labTk b.lab :: lst parTks [40] [41] b.pars ++ [58] :: (b.ops.flatMap Op.tks ++ b.en.tks)
def resTk (o : Option Nat) : Tx := resTxt o
def Fn.tks (f : Fn) : List Tx := kDefine :: resTk f.res :: (64 :: f.name) :: lst (fun t => [Ty.tk t]) [40] [41] f.pars ++ [123] :: (f.blks.flatMap Blk.tks ++ [[125]])
def Gb.tks (g : Gb) : List Tx := (64 :: g.name) :: [61] :: kGlobal :: Ty.tk (.w g.w) :: lst (fun c => [num c]) [91] [93] g.cells
def Md.tks (m : Md) : List Tx := m.gs.flatMap Gb.tks ++ m.fs.flatMap Fn.tks
end K6
/-! K6B: texts that are laid out of tokens. -/
namespace K6
open PySem L2
/-- a token that is a sign -/
def sgT (t : Tx) : Bool := match t with
  | [c] => isSg c
  | _ => false
/-- a token that may follow anything: a sign, or one that begins with a mark -/
def frT (t : Tx) : Bool := match t with
  | c :: _ => isSg c || decide (c ∈ [36, 64])
  | [] => false
inductive TkOk : Tx → Prop
  | sg {c : Nat} : isSg c = true → TkOk [c]
  | wd {c : Nat} {r : Tx} : isWd c = true → (∀ d ∈ r, isWd d = true) → TkOk (c :: r)
  | mk {m c : Nat} {r : Tx} : m ∈ [36, 64] → isWd c = true → (∀ d ∈ r, isWd d = true) → TkOk (m :: c :: r)
def Bls (s : Tx) : Prop := ∀ c ∈ s, isBl c = true
/-- the text is the tokens with blanks between; near t: t may follow directly where it stands behind no sign -/
inductive Lay (near : Tx → Bool) : Bool → List Tx → Tx → Prop
  | nil {g : Bool} {s : Tx} : Bls s → Lay near g [] s
  | cons {g : Bool} {s t r x : Tx} {ts : List Tx} : Bls s → (s = [] → g = true ∨ near t = true) → TkOk t → Lay near (sgT t) ts r → x = s ++ (t ++ r) → Lay near g (t :: ts) x
section
variable {near : Tx → Bool} {g : Bool} {ts us : List Tx} {x y s t : Tx}
theorem Lay.free (h : Lay near g ts x) : Lay near true ts x := by
  cases h with
  | nil hs => exact .nil hs
  | cons hs _ ht hr e => exact .cons hs (fun _ => .inl rfl) ht hr e
theorem Lay.toG (h : Lay near false ts x) : Lay near g ts x := by
  cases g with
  | true => exact h.free
  | false => exact h
theorem Lay.blank {c : Nat} (hc : isBl c = true) (h : Lay near true ts x) : Lay near g ts (c :: x) := by
  cases h with
  | nil hs =>
    refine .nil fun d hd => ?_
    rcases List.mem_cons.mp hd with e | e
    · rw [e]
      exact hc
    · exact hs d e
  | @cons _ s t r _ ts hs hn ht hr e =>
    subst e
    refine .cons (s := c :: s) (fun d hd => ?_) (fun e => by cases e) ht hr rfl
    rcases List.mem_cons.mp hd with e | e
    · rw [e]
      exact hc
    · exact hs d e
theorem Lay.blanks : ∀ {s : Tx} {g : Bool}, Bls s → Lay near g ts x → Lay near g ts (s ++ x)
  | [], _, _, h => h
  | c :: r, _, hs, h => Lay.blank (hs c List.mem_cons_self) (Lay.blanks (s := r) (fun d hd => hs d (List.mem_cons_of_mem _ hd)) h.free)
/-- the flag behind some tokens -/
def gOf (g : Bool) : List Tx → Bool
  | [] => g
  | t :: ts => gOf (sgT t) ts
theorem Lay.app : ∀ {ts : List Tx} {g : Bool} {x : Tx}, Lay near g ts x → Lay near (gOf g ts) us y → Lay near g (ts ++ us) (x ++ y)
  | [], g, x, h, k => by
    cases h with
    | nil hs => exact Lay.blanks hs k
  | t :: ts, g, x, h, k => by
    cases h with
    | @cons _ s _ r _ _ hs hn ht hr e =>
      subst e
      exact .cons hs hn ht (Lay.app hr k) (by rw [List.append_assoc, List.append_assoc])
theorem gOf_app : ∀ (ts us : List Tx) (g : Bool), gOf g (ts ++ us) = gOf (gOf g ts) us
  | [], _, _ => rfl
  | t :: ts, us, _ => gOf_app ts us (sgT t)
/-- one token -/
theorem Lay.one (ht : TkOk t) : Lay near true [t] t := .cons (s := []) (r := []) (fun _ h => absurd h (by simp)) (fun _ => .inl rfl) ht (.nil fun _ h => absurd h (by simp)) (by simp)
/-- a token ahead -/
theorem Lay.tok (ht : TkOk t) (h : Lay near (sgT t) ts x) : Lay near true (t :: ts) (t ++ x) := .cons (s := []) (fun _ h => absurd h (by simp)) (fun _ => .inl rfl) ht h rfl
/-- a sign ahead -/
theorem Lay.sign {c : Nat} (hc : isSg c = true) (hn : near [c] = true) (h : Lay near true ts x) : Lay near g ([c] :: ts) (c :: x) :=
  .cons (s := []) (t := [c]) (fun _ h => absurd h (by simp)) (fun _ => .inr hn) (.sg hc) (by
    have e : sgT [c] = true := hc
    rw [e]
    exact h) rfl
theorem Lay.imp {near' : Tx → Bool} (hi : ∀ t, near t = true → near' t = true) : ∀ {ts : List Tx} {g : Bool} {x : Tx}, Lay near g ts x → Lay near' g ts x
  | [], _, _, h => by
    cases h with
    | nil hs => exact .nil hs
  | _ :: _, _, _, h => by
    cases h with
    | cons hs hn ht hr e => exact .cons hs (fun e => (hn e).imp id (hi _)) ht (Lay.imp hi hr) e
theorem Lay.toks : ∀ {ts : List Tx} {g : Bool} {x : Tx}, Lay near g ts x → ∀ t ∈ ts, TkOk t
  | [], _, _, _ => fun t h => absurd h (by simp)
  | _ :: _, _, _, h => by
    cases h with
    | cons hs hn ht hr e =>
      intro t hm
      rcases List.mem_cons.mp hm with e | e
      · rw [e]
        exact ht
      · exact Lay.toks hr t e
end
/-- only signs may follow directly; signs and marks -/
abbrev LayS := Lay sgT
abbrev LayF := Lay frT
theorem sg_fr (t : Tx) (h : sgT t = true) : frT t = true := by
  match t, h with
  | [c], h =>
    show (isSg c || _) = true
    rw [show isSg c = true from h, Bool.true_or]
theorem Lay.weak {g : Bool} {ts : List Tx} {x : Tx} (h : LayS g ts x) : LayF g ts x := h.imp sg_fr
/-! ### one text, one row of tokens -/
theorem TkOk.ne {t : Tx} (h : TkOk t) : t ≠ [] := by
  cases h <;> simp
theorem bl_cases {c : Nat} (h : isBl c = true) : c = 32 ∨ c = 10 := by
  unfold isBl at h
  rw [decide_eq_true_eq] at h
  simpa using h
theorem TkOk.hd {c : Nat} {r : Tx} (h : TkOk (c :: r)) : isBl c = false := by
  cases h with
  | sg h =>
    cases e : isBl c with
    | false => rfl
    | true =>
      rcases bl_cases e with e | e <;> (rw [e] at h; revert h; decide)
  | wd h _ => exact wd_not_bl h
  | mk h _ _ =>
    have h' : c = 36 ∨ c = 64 := by simpa using h
    rcases h' with e | e <;> rw [e] <;> decide
/-- what ends a word -/
def Brk : Tx → Prop
  | [] => True
  | c :: _ => isWd c = false
theorem fr_hd {c : Nat} {r : Tx} (h : frT (c :: r) = true) : isWd c = false := by
  have h' : (isSg c || decide (c ∈ [36, 64])) = true := h
  cases e : isWd c with
  | false => rfl
  | true =>
    rw [wd_not_sg e, wd_not_mk e] at h'
    cases h'
theorem bl_wd {c : Nat} (h : isBl c = true) : isWd c = false := by
  cases e : isWd c with
  | false => rfl
  | true =>
    rw [wd_not_bl e] at h
    cases h
theorem Lay.brk {ts : List Tx} {x : Tx} (h : LayF false ts x) : Brk x := by
  cases h with
  | nil hs =>
    cases x with
    | nil => trivial
    | cons c r => exact bl_wd (hs c List.mem_cons_self)
  | @cons _ s t r _ ts hs hn ht hr e =>
    subst e
    cases s with
    | cons c q => exact bl_wd (hs c List.mem_cons_self)
    | nil =>
      rcases hn rfl with z | z
      · cases z
      · cases t with
        | nil => exact absurd rfl ht.ne
        | cons c q => exact fr_hd z
theorem run_eq : ∀ {a b x y : Tx}, (∀ c ∈ a, isWd c = true) → (∀ c ∈ b, isWd c = true) → Brk x → Brk y → a ++ x = b ++ y → a = b ∧ x = y
  | [], [], _, _, _, _, _, _, e => ⟨rfl, e⟩
  | [], c :: b, x, y, _, hb, hx, _, e => by
    have e' : x = c :: (b ++ y) := e
    rw [e'] at hx
    have := hb c List.mem_cons_self
    rw [show isWd c = false from hx] at this
    cases this
  | c :: a, [], x, y, ha, _, _, hy, e => by
    have e' : c :: (a ++ x) = y := e
    rw [← e'] at hy
    have := ha c List.mem_cons_self
    rw [show isWd c = false from hy] at this
    cases this
  | c :: a, d :: b, x, y, ha, hb, hx, hy, e => by
    have e' : c :: (a ++ x) = d :: (b ++ y) := e
    injection e' with e1 e2
    obtain ⟨h1, h2⟩ := run_eq (fun z hz => ha z (List.mem_cons_of_mem _ hz)) (fun z hz => hb z (List.mem_cons_of_mem _ hz)) hx hy e2
    exact ⟨by rw [e1, h1], h2⟩
theorem sg_not_wd {c : Nat} (h : isSg c = true) : isWd c = false := by
  cases e : isWd c with
  | false => rfl
  | true =>
    rw [wd_not_sg e] at h
    cases h
theorem mk_cases {m : Nat} (h : m ∈ [36, 64]) : isWd m = false ∧ isSg m = false := by
  have h' : m = 36 ∨ m = 64 := by simpa using h
  rcases h' with e | e <;> rw [e] <;> decide
theorem tok_eq {t u x y : Tx} (ht : TkOk t) (hu : TkOk u) (hx : sgT t = true ∨ Brk x) (hy : sgT u = true ∨ Brk y) (e : t ++ x = u ++ y) : t = u ∧ x = y := by
  have sg1 : ∀ {c : Nat} {r : Tx}, sgT (c :: r) = true → isSg c = true := fun {c r} h => by
    cases r with
    | nil => exact h
    | cons _ _ => cases h
  cases ht with
  | @sg c hc =>
    cases hu with
    | @sg d hd =>
      injection e with e1 e2
      exact ⟨by rw [e1], e2⟩
    | @wd d r hd hr =>
      injection e with e1 e2
      rw [e1, wd_not_sg hd] at hc
      cases hc
    | @mk m d r hm hd hr =>
      injection e with e1 e2
      rw [e1, (mk_cases hm).2] at hc
      cases hc
  | @wd c r hc hr =>
    have bx : Brk x := hx.elim (fun z => by
      have := sg1 z
      rw [wd_not_sg hc] at this
      cases this) id
    cases hu with
    | @sg d hd =>
      injection e with e1 e2
      rw [← e1, wd_not_sg hc] at hd
      cases hd
    | @wd d q hd hq =>
      have hy' : Brk y := hy.elim (fun z => by
        have := sg1 z
        rw [wd_not_sg hd] at this
        cases this) id
      refine run_eq (fun z hz => ?_) (fun z hz => ?_) bx hy' e
      · rcases List.mem_cons.mp hz with e | e
        · rw [e]; exact hc
        · exact hr z e
      · rcases List.mem_cons.mp hz with e | e
        · rw [e]; exact hd
        · exact hq z e
    | @mk m d q hm hd hq =>
      injection e with e1 e2
      rw [e1, (mk_cases hm).1] at hc
      cases hc
  | @mk m c r hm hc hr =>
    have bx : Brk x := hx.elim (fun z => by
      have := sg1 z
      rw [(mk_cases hm).2] at this
      cases this) id
    cases hu with
    | @sg d hd =>
      injection e with e1 e2
      rw [← e1, (mk_cases hm).2] at hd
      cases hd
    | @wd d q hd hq =>
      injection e with e1 e2
      rw [← e1, (mk_cases hm).1] at hd
      cases hd
    | @mk m' d q hm' hd hq =>
      have hy' : Brk y := hy.elim (fun z => by
        have := sg1 z
        rw [(mk_cases hm').2] at this
        cases this) id
      injection e with e1 e2
      have q := run_eq (a := c :: r) (b := d :: q) (fun z hz => ?_) (fun z hz => ?_) bx hy' e2
      · exact ⟨by rw [e1, q.1], q.2⟩
      · rcases List.mem_cons.mp hz with e | e
        · rw [e]; exact hc
        · exact hr z e
      · rcases List.mem_cons.mp hz with e | e
        · rw [e]; exact hd
        · exact hq z e
theorem bls_eq : ∀ {a b x y : Tx}, Bls a → Bls b → (∀ c r, x = c :: r → isBl c = false) → (∀ c r, y = c :: r → isBl c = false) → a ++ x = b ++ y → a = b ∧ x = y
  | [], [], _, _, _, _, _, _, e => ⟨rfl, e⟩
  | [], c :: b, x, y, _, hb, hx, _, e => by
    have := hx c (b ++ y) e
    rw [hb c List.mem_cons_self] at this
    cases this
  | c :: a, [], x, y, ha, _, _, hy, e => by
    have := hy c (a ++ x) e.symm
    rw [ha c List.mem_cons_self] at this
    cases this
  | c :: a, d :: b, x, y, ha, hb, hx, hy, e => by
    have e' : c :: (a ++ x) = d :: (b ++ y) := e
    injection e' with e1 e2
    obtain ⟨h1, h2⟩ := bls_eq (fun z hz => ha z (List.mem_cons_of_mem _ hz)) (fun z hz => hb z (List.mem_cons_of_mem _ hz)) hx hy e2
    exact ⟨by rw [e1, h1], h2⟩
theorem tok_hd {t r : Tx} (ht : TkOk t) : ∀ c q, t ++ r = c :: q → isBl c = false := fun c q e => by
  cases t with
  | nil => exact absurd rfl ht.ne
  | cons d p =>
    have e' : d :: (p ++ r) = c :: q := e
    injection e' with e1 _
    rw [← e1]
    exact ht.hd
theorem bls_self : ∀ {s t r : Tx}, Bls (s ++ (t ++ r)) → TkOk t → False := fun {s t r} h ht => by
  cases t with
  | nil => exact ht.ne rfl
  | cons c p =>
    have := h c (List.mem_append_right _ (List.mem_append_left _ List.mem_cons_self))
    rw [ht.hd] at this
    cases this
/-- a text has one row of tokens -/
theorem Lay.one_row : ∀ {ts us : List Tx} {g g' : Bool} {x : Tx}, LayF g ts x → LayF g' us x → ts = us
  | [], us, _, _, x, h, k => by
    cases h with
    | nil hs =>
      cases k with
      | nil _ => rfl
      | cons _ _ ht _ e =>
        rw [e] at hs
        exact (bls_self hs ht).elim
  | t :: ts, us, _, _, x, h, k => by
    cases h with
    | @cons _ s _ r _ _ hs hn ht hr e =>
      cases k with
      | nil hs' =>
        rw [e] at hs'
        exact (bls_self hs' ht).elim
      | @cons _ s' u r' _ us hs' hn' ht' hr' e' =>
        rw [e] at e'
        obtain ⟨_, e2⟩ := bls_eq hs hs' (tok_hd ht) (tok_hd ht') e'
        have b1 : sgT t = true ∨ Brk r := by
          cases q : sgT t with
          | true => exact .inl rfl
          | false =>
            rw [q] at hr
            exact .inr hr.brk
        have b2 : sgT u = true ∨ Brk r' := by
          cases q : sgT u with
          | true => exact .inl rfl
          | false =>
            rw [q] at hr'
            exact .inr hr'.brk
        obtain ⟨h1, h2⟩ := tok_eq ht ht' b1 b2 e2
        subst h1 h2
        rw [Lay.one_row hr hr']
end K6
/-! K6C: the texts of the data are laid out of their tokens; how long they are. -/
namespace K6
open PySem L2
theorem num_fig (n : Nat) : ∀ c ∈ num n, isF c = true := fun c hc => isF_iff.mpr (TL.numL_digits n c hc)
theorem num_wd (n : Nat) : ∀ c ∈ num n, isWd c = true := fun c hc => wd_of_fig (num_fig n c hc)
theorem tk_wd {t : Tx} (hn : t ≠ []) (h : ∀ c ∈ t, isWd c = true) : TkOk t := by
  cases t with
  | nil => exact absurd rfl hn
  | cons c r => exact .wd (h c List.mem_cons_self) fun d hd => h d (List.mem_cons_of_mem _ hd)
theorem tk_mk {m : Nat} {t : Tx} (hm : m ∈ [36, 64]) (hn : t ≠ []) (h : ∀ c ∈ t, isWd c = true) : TkOk (m :: t) := by
  cases t with
  | nil => exact absurd rfl hn
  | cons c r => exact .mk hm (h c List.mem_cons_self) fun d hd => h d (List.mem_cons_of_mem _ hd)
theorem tk_num (n : Nat) : TkOk (num n) := tk_wd (TL.numL_ne n) (num_wd n)
theorem tk_pre {c : Nat} (hc : isWd c = true) (n : Nat) : TkOk (c :: num n) := .wd hc (num_wd n)
theorem tk_val (n : Nat) : TkOk (valTk n) := tk_mk (by decide) (TL.numL_ne n) (num_wd n)
theorem tk_lab (n : Nat) : TkOk (labTk n) := tk_pre (by decide) n
theorem tk_name {x : Tx} (h : NameOk x) : TkOk (64 :: x) := tk_mk (by decide) h.ne h.wd
theorem tk_ty (t : Ty) : TkOk t.tk := by
  cases t with
  | w n => exact tk_pre (by decide) n
  | ptr => exact tk_wd (by decide) (by decide)
theorem tk_opd {o : Opd} (h : OpdOk o) : TkOk o.tk := by
  cases o with
  | v i => exact tk_val i
  | n i => exact tk_num i
  | g x => exact tk_name h
theorem tk_res (o : Option Nat) : TkOk (resTk o) := by
  cases o with
  | none => exact tk_wd (by decide) (by decide)
  | some n => exact tk_ty (.w n)
/-- a written word -/
def wdB (t : Tx) : Bool := !t.isEmpty && t.all isWd
theorem tk_by {t : Tx} (h : wdB t = true) : TkOk t := by
  unfold wdB at h
  rw [Bool.and_eq_true, List.all_eq_true] at h
  refine tk_wd (fun e => ?_) h.2
  rw [e] at h
  simp at h
theorem tk_in {t : Tx} {l : List Tx} (h : t ∈ l) (hl : l.all wdB = true) : TkOk t := tk_by (List.all_eq_true.mp hl t h)
/-! ### the texts are laid so -/
theorem Lay.to {near : Tx → Bool} {g : Bool} {ts us : List Tx} {x y : Tx} (h : Lay near g ts x) (e : ts = us) (e2 : x = y) : Lay near g us y := by
  rw [← e, ← e2]
  exact h
/-- what stands behind the first of a list -/
def tailTxt {α : Type} (tx : α → Tx) (l : List α) : Tx := l.flatMap fun a => 44 :: 32 :: tx a
theorem cj_cons {α : Type} (tx : α → Tx) : ∀ (a : α) (l : List α), cj ((a :: l).map tx) = tx a ++ tailTxt tx l
  | a, [] => by
    show tx a = tx a ++ []
    rw [List.append_nil]
  | a, b :: l => by
    show tx a ++ ([44, 32] ++ cj ((b :: l).map tx)) = _
    rw [cj_cons tx b l]
    rfl
theorem lay_tail {α : Type} {f : α → List Tx} {tx : α → Tx} {cl : Nat} {us : List Tx} {y : Tx} (hcl : isSg cl = true) (hu : LayS true us y) : ∀ (l : List α) (g : Bool), (∀ a ∈ l, LayS true (f a) (tx a)) → LayS g (tail f [cl] l ++ us) (tailTxt tx l ++ cl :: y)
  | [], g, _ => Lay.sign hcl hcl hu
  | a :: l, g, h => by
    have ih := fun g => lay_tail (f := f) (tx := tx) hcl hu l g fun b hb => h b (List.mem_cons_of_mem _ hb)
    have h1 := Lay.app (h a List.mem_cons_self) (ih _)
    exact (Lay.sign (g := g) (c := 44) (by decide) (by decide) (Lay.blank (c := 32) (by decide) h1)).to (by simp [tail]) (by simp [tailTxt])
theorem lay_lst {α : Type} {f : α → List Tx} {tx : α → Tx} {op cl : Nat} {us : List Tx} {y : Tx} {g : Bool} (hop : isSg op = true) (hcl : isSg cl = true) (l : List α) (h : ∀ a ∈ l, LayS true (f a) (tx a)) (hu : LayS true us y) :
    LayS g (lst f [op] [cl] l ++ us) (op :: (cj (l.map tx) ++ cl :: y)) := by
  cases l with
  | nil => exact Lay.sign hop hop (Lay.sign hcl hcl hu)
  | cons a l =>
    rw [cj_cons, List.append_assoc]
    have h1 := Lay.app (h a List.mem_cons_self) (lay_tail (f := f) (tx := tx) hcl hu l _ fun b hb => h b (List.mem_cons_of_mem _ hb))
    exact (Lay.sign (g := g) hop hop h1).to (by simp [lst]) rfl
theorem lay_nil {near : Tx → Bool} {g : Bool} : Lay near g [] [] := .nil fun _ h => absurd h (by simp)
theorem lay_opd {o : Opd} (h : OpdOk o) : LayS true [o.tk] o.txt := Lay.one (tk_opd h)
theorem lay_args {l : List Opd} {us : List Tx} {y : Tx} {g : Bool} (h : ∀ o ∈ l, OpdOk o) (hu : LayS true us y) : LayS g (argsTk l ++ us) (40 :: (argsTxt l ++ 41 :: y)) :=
  lay_lst (by decide) (by decide) l (fun o ho => lay_opd (h o ho)) hu
theorem lay_com {us : List Tx} {y : Tx} (hu : ∀ g, LayS g us y) : ∀ {l : List Opd}, (∀ o ∈ l, OpdOk o) → LayS true (com l ++ us) (argsTxt l ++ y)
  | [], _ => hu _
  | a :: l, h => by
    have rest : ∀ (l : List Opd) (g : Bool), (∀ o ∈ l, OpdOk o) → LayS g ((l.flatMap fun b => [[44], b.tk]) ++ us) (tailTxt Opd.txt l ++ y) := by
      intro l
      induction l with
      | nil => intro g _; exact hu g
      | cons b l ih =>
        intro g hb
        have h1 := Lay.tok (near := sgT) (tk_opd (hb b List.mem_cons_self)) (ih _ fun o ho => hb o (List.mem_cons_of_mem _ ho))
        exact (Lay.sign (g := g) (c := 44) (by decide) (by decide) (Lay.blank (c := 32) (by decide) h1)).to (by simp) (by
          have e : b.tk = b.txt := rfl
          simp [tailTxt, e])
    have h1 := Lay.tok (near := sgT) (tk_opd (h a List.mem_cons_self)) (rest l _ fun o ho => h o (List.mem_cons_of_mem _ ho))
    exact h1.to (by simp [com]) (by
      have e : a.tk = a.txt := rfl
      rw [show argsTxt (a :: l) = a.txt ++ tailTxt Opd.txt l from cj_cons Opd.txt a l, e, List.append_assoc])
theorem lay_com0 {l : List Opd} (h : ∀ o ∈ l, OpdOk o) : LayS true (com l) (argsTxt l) := (lay_com (us := []) (y := []) (fun _ => lay_nil) h).to (List.append_nil _) (List.append_nil _)
theorem lay_tgt {t : Tgt} {us : List Tx} {y : Tx} (h : TgtOk t) (hu : LayS true us y) : LayS true (t.tks ++ us) (t.txt ++ y) :=
  (Lay.tok (near := sgT) (tk_lab t.lab) (lay_args h.args.2 hu)).to rfl (by simp [Tgt.txt, labTk])
/-- a word, a blank, what follows -/
theorem lay_wb {near : Tx → Bool} {t : Tx} {us : List Tx} {y : Tx} (ht : TkOk t) (hu : Lay near true us y) : Lay near true (t :: us) (t ++ 32 :: y) := Lay.tok ht (Lay.blank (by decide) hu)
theorem lay_deed {o : Op} (h : OpOk o) : LayS true (deedTks o) (deedTxt o) := by
  cases o with
  | bin x op w a b =>
    obtain ⟨_, h1, _, h3, h4⟩ := h
    refine (lay_wb (tk_in h1 (by decide)) (lay_wb (tk_ty (.w w)) (lay_com0 (l := [a, b]) fun o ho => ?_))).to rfl (by simp [deedTxt, headTxt, Op.args, Ty.tk])
    rcases List.mem_cons.mp ho with e | e
    · rw [e]; exact h3
    · rw [List.mem_singleton.mp e]; exact h4
  | cmp x pr w a b =>
    obtain ⟨_, h1, _, h3, h4⟩ := h
    refine (lay_wb (tk_by (t := kCmp) (by decide)) (lay_wb (tk_in h1 (by decide)) (lay_wb (tk_ty (.w w)) (lay_com0 (l := [a, b]) fun o ho => ?_)))).to rfl (by simp [deedTxt, headTxt, Op.args, Ty.tk])
    rcases List.mem_cons.mp ho with e | e
    · rw [e]; exact h3
    · rw [List.mem_singleton.mp e]; exact h4
  | sel x t c a b =>
    obtain ⟨_, _, h2, h3, h4⟩ := h
    refine (lay_wb (tk_by (t := kSel) (by decide)) (lay_wb (tk_ty t) (lay_com0 (l := [c, a, b]) fun o ho => ?_))).to rfl (by simp [deedTxt, headTxt, Op.args, Ty.tk])
    rcases List.mem_cons.mp ho with e | e
    · rw [e]; exact h2
    · rcases List.mem_cons.mp e with e | e
      · rw [e]; exact h3
      · rw [List.mem_singleton.mp e]; exact h4
  | cast x kd v w a =>
    obtain ⟨_, h1, _, _, h3⟩ := h
    have h5 : LayS true [a.tk, kTo, Ty.tk (.w w)] (a.txt ++ 32 :: (kTo ++ 32 :: Ty.txt (.w w))) := lay_wb (tk_opd h3) (lay_wb (tk_by (t := kTo) (by decide)) (Lay.one (tk_ty (.w w))))
    exact (lay_wb (tk_in h1 (by decide)) (lay_wb (tk_ty (.w v)) h5)).to rfl (by simp [deedTxt, headTxt, argsTxt, TL.joinL, Ty.tk])
  | alloca x w size =>
    have h5 : LayS (sgT (Ty.tk (.w w))) [[44], num size] (44 :: 32 :: num size) := Lay.sign (by decide) (by decide) (Lay.blank (by decide) (Lay.one (tk_num size)))
    exact (lay_wb (tk_by (t := kAlloca) (by decide)) (Lay.tok (near := sgT) (tk_ty (.w w)) h5)).to rfl (by simp [deedTxt, headTxt, Ty.tk])
  | mem x kd w args =>
    obtain ⟨_, h1, _, h3⟩ := h
    have hk : TkOk kd := by
      refine tk_in (l := memL.map (·.1)) ?_ (by decide)
      exact List.mem_map.mpr ⟨_, h1, rfl⟩
    cases args with
    | nil =>
      exact (lay_wb (near := sgT) hk (Lay.one (tk_ty (.w w)))).to rfl (by simp [deedTxt, headTxt, Op.args, Ty.tk])
    | cons a l =>
      exact (lay_wb hk (lay_wb (tk_ty (.w w)) (lay_com0 h3))).to rfl (by simp [deedTxt, headTxt, Op.args, Ty.tk])
  | call x name args =>
    obtain ⟨_, h1, h2⟩ := h
    have h5 := Lay.tok (near := sgT) (tk_name h1) (lay_args (us := []) (y := []) h2.2 lay_nil)
    exact (lay_wb (tk_by (t := kCall) (by decide)) h5).to (by simp [deedTks]) (by simp [deedTxt])
theorem lay_op {o : Op} (h : OpOk o) : LayS true o.tks o.txt := by
  have hd := lay_deed h
  unfold Op.tks Op.txt
  cases o.made with
  | none => exact hd
  | some x => exact (lay_wb (near := sgT) (tk_val x) (Lay.sign (g := true) (c := 61) (by decide) (by decide) (Lay.blank (c := 32) (by decide) hd))).to rfl (by simp [valTk])
theorem lay_end {e : End} (h : EndOk e) : LayS true e.tks e.txt := by
  cases e with
  | jump t => exact (lay_wb (tk_by (t := kJump) (by decide)) (lay_tgt (us := []) (y := []) h lay_nil)).to (by simp [End.tks]) (by simp [End.txt])
  | branch c s t =>
    obtain ⟨h1, h2, h3⟩ := h
    have h4 := lay_tgt (us := []) (y := []) h3 lay_nil
    have h5 := lay_tgt h2 (Lay.sign (g := true) (c := 44) (by decide) (by decide) (Lay.blank (c := 32) (by decide) h4))
    have h6 := Lay.tok (near := sgT) (tk_opd h1) (Lay.sign (c := 44) (by decide) (by decide) (Lay.blank (c := 32) (by decide) h5))
    exact (lay_wb (tk_by (t := kBranch) (by decide)) h6).to (by simp [End.tks]) (by
      have e : c.tk = c.txt := rfl
      simp [End.txt, e])
  | ret o =>
    cases o with
    | none => exact Lay.one (tk_by (t := kRet) (by decide))
    | some o => exact (lay_wb (tk_by (t := kRet) (by decide)) (lay_opd h)).to rfl rfl
  | stop => exact Lay.one (tk_by (t := kStop) (by decide))
/-! ### lines -/
inductive LL : List (List Tx) → List Tx → Prop
  | nil : LL [] []
  | cons {t : List Tx} {x : Tx} {ts : List (List Tx)} {l : List Tx} : LayS true t x → LL ts l → LL (t :: ts) (x :: l)
theorem LL.app : ∀ {ts us : List (List Tx)} {l m : List Tx}, LL ts l → LL us m → LL (ts ++ us) (l ++ m)
  | _, _, _, _, .nil, k => k
  | _, _, _, _, .cons h t, k => .cons h (LL.app t k)
theorem LL.map {α : Type} {f : α → List Tx} {tx : α → Tx} : ∀ {l : List α}, (∀ a ∈ l, LayS true (f a) (tx a)) → LL (l.map f) (l.map tx)
  | [], _ => .nil
  | a :: _, h => .cons (h a List.mem_cons_self) (LL.map fun b hb => h b (List.mem_cons_of_mem _ hb))
theorem LL.flat {α : Type} {f : α → List (List Tx)} {tx : α → List Tx} : ∀ {l : List α}, (∀ a ∈ l, LL (f a) (tx a)) → LL (l.flatMap f) (l.flatMap tx)
  | [], _ => .nil
  | a :: _, h => by
    rw [List.flatMap_cons, List.flatMap_cons]
    exact LL.app (h a List.mem_cons_self) (LL.flat fun b hb => h b (List.mem_cons_of_mem _ hb))
theorem LL.join : ∀ {ts : List (List Tx)} {l : List Tx}, LL ts l → LayS true ts.flatten (TL.joinL [10] l)
  | _, _, .nil => lay_nil
  | _, _, .cons (ts := []) h .nil => h.to (by simp) rfl
  | _, _, .cons (t := t) (x := x) h (.cons (t := u) (x := y) (ts := ts) (l := l) k r) => by
    have ih := LL.join (.cons k r)
    show LayS true (t ++ (u :: ts).flatten) (x ++ ([10] ++ TL.joinL [10] (y :: l)))
    exact Lay.app h (Lay.blank (c := 10) (by decide) ih)
theorem lay_gb {g : Gb} (h : GbOk g) : LayS true g.tks g.txt := by
  have h1 := lay_lst (f := fun c => [num c]) (tx := num) (op := 91) (cl := 93) (us := []) (y := []) (g := true) (by decide) (by decide) g.cells (fun c _ => Lay.one (tk_num c)) lay_nil
  have h2 := lay_wb (tk_ty (.w g.w)) h1
  have h3 := lay_wb (tk_by (t := kGlobal) (by decide)) h2
  have h4 := lay_wb (tk_name h.name) (Lay.sign (g := true) (c := 61) (by decide) (by decide) (Lay.blank (c := 32) (by decide) h3))
  exact h4.to (by simp [Gb.tks]) (by simp [Gb.txt, Ty.tk])
def Blk.lt (b : Blk) : List (List Tx) := (labTk b.lab :: lst parTks [40] [41] b.pars ++ [[58]]) :: b.ops.map Op.tks ++ [b.en.tks]
theorem blk_lt (b : Blk) : b.lt.flatten = b.tks := by simp [Blk.lt, Blk.tks, List.flatMap]
theorem lay_par {p : Nat × Ty} (h : TyOk p.2) : LayS true (parTks p) (parTxt p) := (lay_wb (near := sgT) (tk_ty p.2) (Lay.one (tk_val p.1))).to rfl (by simp [parTxt, valTk, Ty.tk])
theorem lay_blk {b : Blk} (h : BlkOk' b) : LL b.lt b.lines := by
  have h1 := lay_lst (f := parTks) (tx := parTxt) (op := 40) (cl := 41) (us := [[58]]) (y := [58]) (g := sgT (labTk b.lab)) (by decide) (by decide) b.pars (fun p hp => lay_par (h.pars p hp).2) (Lay.sign (by decide) (by decide) lay_nil)
  have h2 := Lay.tok (near := sgT) (tk_lab b.lab) h1
  refine .cons (h2.to (by simp) (by simp [labTk])) (LL.app (LL.map fun o ho => Lay.blank (by decide) (Lay.blank (by decide) (lay_op (h.ops o ho)))) (.cons (Lay.blank (by decide) (Lay.blank (by decide) (lay_end h.en))) .nil))
def Fn.lt (f : Fn) : List (List Tx) := (kDefine :: resTk f.res :: (64 :: f.name) :: lst (fun t => [Ty.tk t]) [40] [41] f.pars ++ [[123]]) :: f.blks.flatMap Blk.lt ++ [[[125]]]
theorem flat_flat {α : Type} (f : α → List (List Tx)) (l : List α) : (l.flatMap f).flatten = l.flatMap fun a => (f a).flatten := by
  induction l with
  | nil => rfl
  | cons a l ih => simp [List.flatMap_cons, ih]
theorem fn_lt (f : Fn) : f.lt.flatten = f.tks := by
  have e : (f.blks.flatMap Blk.lt).flatten = f.blks.flatMap Blk.tks := by
    rw [flat_flat]
    exact congrArg (fun g => List.flatMap g f.blks) (funext blk_lt)
  simp [Fn.lt, Fn.tks, e]
theorem lay_fn {f : Fn} (h : FnOk' f) : LL f.lt f.lines := by
  have h1 := lay_lst (f := fun t => [Ty.tk t]) (tx := Ty.txt) (op := 40) (cl := 41) (us := [[123]]) (y := [32, 123]) (g := sgT (64 :: f.name)) (by decide) (by decide) f.pars (fun t _ => Lay.one (tk_ty t)) (Lay.blank (by decide) (Lay.sign (by decide) (by decide) lay_nil))
  have h2 := lay_wb (tk_by (t := kDefine) (by decide)) (lay_wb (tk_res f.res) (Lay.tok (near := sgT) (tk_name h.name) h1))
  refine .cons (h2.to (by simp) (by simp [resTk])) (LL.app (LL.flat fun b hb => lay_blk (h.blks b hb)) (.cons (Lay.sign (by decide) (by decide) lay_nil) .nil))
theorem lay_md {m : Md} (h : MdOk m) : LayS true m.tks m.txt := by
  have h1 : LL (m.gs.map Gb.tks ++ m.fs.flatMap Fn.lt) m.lines := LL.app (LL.map fun g hg => lay_gb (h.gs g hg)) (LL.flat fun f hf => lay_fn (h.fs f hf))
  have e : (m.fs.flatMap Fn.lt).flatten = m.fs.flatMap Fn.tks := by
    rw [flat_flat]
    exact congrArg (fun g => List.flatMap g m.fs) (funext fn_lt)
  exact h1.join.to (by rw [List.flatten_append, e]; rfl) rfl
end K6
/-! K6T: the text by places. -/
namespace K6
open PySem L2
def top (i : Nat) : Stmt := PySem.Challenge.pw_anypasses_k06_whole_texts_read_back.main.body.getD i (.Pass ⟨0, 0, 0, 0⟩)
end K6
/-! K6H: the facts that the top leaves, by names (printed by gen_head.py). -/
namespace K6
open PySem PySem.Spec PyProof.Rows L2
abbrev s_is_name : Stmt := top 10
abbrev s_run_end : Stmt := top 13
abbrev s_token_end : Stmt := top 14
abbrev s_scanned : Stmt := top 15
abbrev s_number_of : Stmt := top 22
abbrev s_Reader_init : Stmt := inClass (top 23) 0
abbrev s_Reader_word : Stmt := inClass (top 23) 1
abbrev s_Reader_need : Stmt := inClass (top 23) 3
abbrev s_Reader_one_of : Stmt := inClass (top 23) 4
abbrev s_Reader_number : Stmt := inClass (top 23) 5
abbrev s_Reader_name : Stmt := inClass (top 23) 6
abbrev s_Reader_close : Stmt := inClass (top 23) 7
abbrev s_read_operand : Stmt := top 24
abbrev s_read_list : Stmt := top 25
abbrev s_read_args : Stmt := top 26
abbrev s_read_target : Stmt := top 27
abbrev s_read_call : Stmt := top 28
abbrev s_read_cast : Stmt := top 29
abbrev s_read_alloca : Stmt := top 30
abbrev s_read_deed : Stmt := top 31
abbrev s_read_any_op : Stmt := top 32
abbrev s_read_ending : Stmt := top 33
abbrev s_read_param : Stmt := top 34
abbrev s_read_type : Stmt := top 35
abbrev s_read_block : Stmt := top 36
abbrev s_read_new_name : Stmt := top 37
abbrev s_read_global : Stmt := top 38
abbrev s_read_function : Stmt := top 39
abbrev s_read_op : Stmt := top 40
abbrev s_read_module : Stmt := top 41
abbrev s_type_text : Stmt := top 43
abbrev s_operand_text : Stmt := top 44
abbrev s_args_text : Stmt := top 45
abbrev s_target_text : Stmt := top 46
abbrev s_head_text : Stmt := top 47
abbrev s_deed_text : Stmt := top 48
abbrev s_op_text : Stmt := top 49
abbrev s_ending_text : Stmt := top 50
abbrev s_global_line : Stmt := top 51
abbrev s_block_lines : Stmt := top 52
abbrev s_function_lines : Stmt := top 53
abbrev s_module_text : Stmt := top 54
abbrev s__law_draw : Stmt := top 56
abbrev s__law_any : Stmt := top 57
abbrev s__law_of : Stmt := top 58
abbrev s__law_power : Stmt := top 59
abbrev s__law_number : Stmt := top 60
abbrev s__law_small : Stmt := top 61
abbrev s__law_names : Stmt := top 62
abbrev s__law_width : Stmt := top 63
abbrev s__law_type : Stmt := top 64
abbrev s__law_operand : Stmt := top 65
abbrev s__law_args : Stmt := top 66
abbrev s__law_target : Stmt := top 67
abbrev s__law_op : Stmt := top 68
abbrev s__law_ending : Stmt := top 69
abbrev s__law_function : Stmt := top 70
abbrev s__law_module : Stmt := top 71
abbrev s__law_mark : Stmt := top 72
abbrev s__law_listed : Stmt := top 73
abbrev s__law_goal : Stmt := top 74
abbrev s__law_kind : Stmt := top 75
abbrev s__law_op_text : Stmt := top 76
abbrev s__law_ending_text : Stmt := top 77
abbrev s__law_text : Stmt := top 78
abbrev s__law_words : Stmt := top 79
abbrev s__law_spread : Stmt := top 80
abbrev s__law_refusal : Stmt := top 81
abbrev s_law : Stmt := top 82
def d_is_name : He.DefD := ⟨("is_name", none), "is_name", "is_name", defArgs s_is_name, defBody s_is_name, defScope s_is_name, [], []⟩
def d_run_end : He.DefD := ⟨("run_end", none), "run_end", "run_end", defArgs s_run_end, defBody s_run_end, defScope s_run_end, [], []⟩
def d_token_end : He.DefD := ⟨("token_end", none), "token_end", "token_end", defArgs s_token_end, defBody s_token_end, defScope s_token_end, [], []⟩
def d_scanned : He.DefD := ⟨("scanned", none), "scanned", "scanned", defArgs s_scanned, defBody s_scanned, defScope s_scanned, [], []⟩
def d_number_of : He.DefD := ⟨("number_of", none), "number_of", "number_of", defArgs s_number_of, defBody s_number_of, defScope s_number_of, [], []⟩
def d_Reader_init : He.DefD := ⟨("Reader", some "__init__"), "__init__", "Reader.__init__", defArgs s_Reader_init, defBody s_Reader_init, defScope s_Reader_init, [], []⟩
def d_Reader_word : He.DefD := ⟨("Reader", some "word"), "word", "Reader.word", defArgs s_Reader_word, defBody s_Reader_word, defScope s_Reader_word, [], []⟩
def d_Reader_need : He.DefD := ⟨("Reader", some "need"), "need", "Reader.need", defArgs s_Reader_need, defBody s_Reader_need, defScope s_Reader_need, [], []⟩
def d_Reader_one_of : He.DefD := ⟨("Reader", some "one_of"), "one_of", "Reader.one_of", defArgs s_Reader_one_of, defBody s_Reader_one_of, defScope s_Reader_one_of, [], []⟩
def d_Reader_number : He.DefD := ⟨("Reader", some "number"), "number", "Reader.number", defArgs s_Reader_number, defBody s_Reader_number, defScope s_Reader_number, [], []⟩
def d_Reader_name : He.DefD := ⟨("Reader", some "name"), "name", "Reader.name", defArgs s_Reader_name, defBody s_Reader_name, defScope s_Reader_name, [], []⟩
def d_Reader_close : He.DefD := ⟨("Reader", some "close"), "close", "Reader.close", defArgs s_Reader_close, defBody s_Reader_close, defScope s_Reader_close, [], []⟩
def d_read_operand : He.DefD := ⟨("read_operand", none), "read_operand", "read_operand", defArgs s_read_operand, defBody s_read_operand, defScope s_read_operand, [], []⟩
def d_read_list : He.DefD := ⟨("read_list", none), "read_list", "read_list", defArgs s_read_list, defBody s_read_list, defScope s_read_list, [], []⟩
def d_read_args : He.DefD := ⟨("read_args", none), "read_args", "read_args", defArgs s_read_args, defBody s_read_args, defScope s_read_args, [], []⟩
def d_read_target : He.DefD := ⟨("read_target", none), "read_target", "read_target", defArgs s_read_target, defBody s_read_target, defScope s_read_target, [], []⟩
def d_read_call : He.DefD := ⟨("read_call", none), "read_call", "read_call", defArgs s_read_call, defBody s_read_call, defScope s_read_call, [], []⟩
def d_read_cast : He.DefD := ⟨("read_cast", none), "read_cast", "read_cast", defArgs s_read_cast, defBody s_read_cast, defScope s_read_cast, [], []⟩
def d_read_alloca : He.DefD := ⟨("read_alloca", none), "read_alloca", "read_alloca", defArgs s_read_alloca, defBody s_read_alloca, defScope s_read_alloca, [], []⟩
def d_read_deed : He.DefD := ⟨("read_deed", none), "read_deed", "read_deed", defArgs s_read_deed, defBody s_read_deed, defScope s_read_deed, [], []⟩
def d_read_any_op : He.DefD := ⟨("read_any_op", none), "read_any_op", "read_any_op", defArgs s_read_any_op, defBody s_read_any_op, defScope s_read_any_op, [], []⟩
def d_read_ending : He.DefD := ⟨("read_ending", none), "read_ending", "read_ending", defArgs s_read_ending, defBody s_read_ending, defScope s_read_ending, [], []⟩
def d_read_param : He.DefD := ⟨("read_param", none), "read_param", "read_param", defArgs s_read_param, defBody s_read_param, defScope s_read_param, [], []⟩
def d_read_type : He.DefD := ⟨("read_type", none), "read_type", "read_type", defArgs s_read_type, defBody s_read_type, defScope s_read_type, [], []⟩
def d_read_block : He.DefD := ⟨("read_block", none), "read_block", "read_block", defArgs s_read_block, defBody s_read_block, defScope s_read_block, [], []⟩
def d_read_new_name : He.DefD := ⟨("read_new_name", none), "read_new_name", "read_new_name", defArgs s_read_new_name, defBody s_read_new_name, defScope s_read_new_name, [], []⟩
def d_read_global : He.DefD := ⟨("read_global", none), "read_global", "read_global", defArgs s_read_global, defBody s_read_global, defScope s_read_global, [], []⟩
def d_read_function : He.DefD := ⟨("read_function", none), "read_function", "read_function", defArgs s_read_function, defBody s_read_function, defScope s_read_function, [], []⟩
def d_read_op : He.DefD := ⟨("read_op", none), "read_op", "read_op", defArgs s_read_op, defBody s_read_op, defScope s_read_op, [], []⟩
def d_read_module : He.DefD := ⟨("read_module", none), "read_module", "read_module", defArgs s_read_module, defBody s_read_module, defScope s_read_module, [], []⟩
def d_type_text : He.DefD := ⟨("type_text", none), "type_text", "type_text", defArgs s_type_text, defBody s_type_text, defScope s_type_text, [], []⟩
def d_operand_text : He.DefD := ⟨("operand_text", none), "operand_text", "operand_text", defArgs s_operand_text, defBody s_operand_text, defScope s_operand_text, [], []⟩
def d_args_text : He.DefD := ⟨("args_text", none), "args_text", "args_text", defArgs s_args_text, defBody s_args_text, defScope s_args_text, [], []⟩
def d_target_text : He.DefD := ⟨("target_text", none), "target_text", "target_text", defArgs s_target_text, defBody s_target_text, defScope s_target_text, [], []⟩
def d_head_text : He.DefD := ⟨("head_text", none), "head_text", "head_text", defArgs s_head_text, defBody s_head_text, defScope s_head_text, [], []⟩
def d_deed_text : He.DefD := ⟨("deed_text", none), "deed_text", "deed_text", defArgs s_deed_text, defBody s_deed_text, defScope s_deed_text, [], []⟩
def d_op_text : He.DefD := ⟨("op_text", none), "op_text", "op_text", defArgs s_op_text, defBody s_op_text, defScope s_op_text, [], []⟩
def d_ending_text : He.DefD := ⟨("ending_text", none), "ending_text", "ending_text", defArgs s_ending_text, defBody s_ending_text, defScope s_ending_text, [], []⟩
def d_global_line : He.DefD := ⟨("global_line", none), "global_line", "global_line", defArgs s_global_line, defBody s_global_line, defScope s_global_line, [], []⟩
def d_block_lines : He.DefD := ⟨("block_lines", none), "block_lines", "block_lines", defArgs s_block_lines, defBody s_block_lines, defScope s_block_lines, [], []⟩
def d_function_lines : He.DefD := ⟨("function_lines", none), "function_lines", "function_lines", defArgs s_function_lines, defBody s_function_lines, defScope s_function_lines, [], []⟩
def d_module_text : He.DefD := ⟨("module_text", none), "module_text", "module_text", defArgs s_module_text, defBody s_module_text, defScope s_module_text, [], []⟩
def d__law_draw : He.DefD := ⟨("_law_draw", none), "_law_draw", "_law_draw", defArgs s__law_draw, defBody s__law_draw, defScope s__law_draw, [], []⟩
def d__law_any : He.DefD := ⟨("_law_any", none), "_law_any", "_law_any", defArgs s__law_any, defBody s__law_any, defScope s__law_any, [], []⟩
def d__law_of : He.DefD := ⟨("_law_of", none), "_law_of", "_law_of", defArgs s__law_of, defBody s__law_of, defScope s__law_of, [], []⟩
def d__law_power : He.DefD := ⟨("_law_power", none), "_law_power", "_law_power", defArgs s__law_power, defBody s__law_power, defScope s__law_power, [], []⟩
def d__law_number : He.DefD := ⟨("_law_number", none), "_law_number", "_law_number", defArgs s__law_number, defBody s__law_number, defScope s__law_number, [], []⟩
def d__law_small : He.DefD := ⟨("_law_small", none), "_law_small", "_law_small", defArgs s__law_small, defBody s__law_small, defScope s__law_small, [], []⟩
def d__law_names : He.DefD := ⟨("_law_names", none), "_law_names", "_law_names", defArgs s__law_names, defBody s__law_names, defScope s__law_names, [], []⟩
def d__law_width : He.DefD := ⟨("_law_width", none), "_law_width", "_law_width", defArgs s__law_width, defBody s__law_width, defScope s__law_width, [], []⟩
def d__law_type : He.DefD := ⟨("_law_type", none), "_law_type", "_law_type", defArgs s__law_type, defBody s__law_type, defScope s__law_type, [], []⟩
def d__law_operand : He.DefD := ⟨("_law_operand", none), "_law_operand", "_law_operand", defArgs s__law_operand, defBody s__law_operand, defScope s__law_operand, [], []⟩
def d__law_args : He.DefD := ⟨("_law_args", none), "_law_args", "_law_args", defArgs s__law_args, defBody s__law_args, defScope s__law_args, [], []⟩
def d__law_target : He.DefD := ⟨("_law_target", none), "_law_target", "_law_target", defArgs s__law_target, defBody s__law_target, defScope s__law_target, [], []⟩
def d__law_op : He.DefD := ⟨("_law_op", none), "_law_op", "_law_op", defArgs s__law_op, defBody s__law_op, defScope s__law_op, [], []⟩
def d__law_ending : He.DefD := ⟨("_law_ending", none), "_law_ending", "_law_ending", defArgs s__law_ending, defBody s__law_ending, defScope s__law_ending, [], []⟩
def d__law_function : He.DefD := ⟨("_law_function", none), "_law_function", "_law_function", defArgs s__law_function, defBody s__law_function, defScope s__law_function, [], []⟩
def d__law_module : He.DefD := ⟨("_law_module", none), "_law_module", "_law_module", defArgs s__law_module, defBody s__law_module, defScope s__law_module, [], []⟩
def d__law_mark : He.DefD := ⟨("_law_mark", none), "_law_mark", "_law_mark", defArgs s__law_mark, defBody s__law_mark, defScope s__law_mark, [], []⟩
def d__law_listed : He.DefD := ⟨("_law_listed", none), "_law_listed", "_law_listed", defArgs s__law_listed, defBody s__law_listed, defScope s__law_listed, [], []⟩
def d__law_goal : He.DefD := ⟨("_law_goal", none), "_law_goal", "_law_goal", defArgs s__law_goal, defBody s__law_goal, defScope s__law_goal, [], []⟩
def d__law_kind : He.DefD := ⟨("_law_kind", none), "_law_kind", "_law_kind", defArgs s__law_kind, defBody s__law_kind, defScope s__law_kind, [], []⟩
def d__law_op_text : He.DefD := ⟨("_law_op_text", none), "_law_op_text", "_law_op_text", defArgs s__law_op_text, defBody s__law_op_text, defScope s__law_op_text, [], []⟩
def d__law_ending_text : He.DefD := ⟨("_law_ending_text", none), "_law_ending_text", "_law_ending_text", defArgs s__law_ending_text, defBody s__law_ending_text, defScope s__law_ending_text, [], []⟩
def d__law_text : He.DefD := ⟨("_law_text", none), "_law_text", "_law_text", defArgs s__law_text, defBody s__law_text, defScope s__law_text, [], []⟩
def d__law_words : He.DefD := ⟨("_law_words", none), "_law_words", "_law_words", defArgs s__law_words, defBody s__law_words, defScope s__law_words, [], []⟩
def d__law_spread : He.DefD := ⟨("_law_spread", none), "_law_spread", "_law_spread", defArgs s__law_spread, defBody s__law_spread, defScope s__law_spread, [], []⟩
def d__law_refusal : He.DefD := ⟨("_law_refusal", none), "_law_refusal", "_law_refusal", defArgs s__law_refusal, defBody s__law_refusal, defScope s__law_refusal, [], []⟩
def d_law : He.DefD := ⟨("law", none), "law", "law", defArgs s_law, defBody s_law, defScope s_law, [], []⟩
def fn0 : List He.DefD := [d_is_name, d_run_end, d_token_end, d_scanned, d_number_of, d_Reader_init, d_Reader_word, d_Reader_need, d_Reader_one_of, d_Reader_number, d_Reader_name, d_Reader_close, d_read_operand, d_read_list, d_read_args, d_read_target, d_read_call, d_read_cast, d_read_alloca, d_read_deed, d_read_any_op, d_read_ending, d_read_param, d_read_type, d_read_block, d_read_new_name, d_read_global, d_read_function, d_read_op, d_read_module]
def fn1 : List He.DefD := [d_type_text, d_operand_text, d_args_text, d_target_text, d_head_text, d_deed_text, d_op_text, d_ending_text, d_global_line, d_block_lines, d_function_lines, d_module_text, d__law_draw, d__law_any, d__law_of, d__law_power, d__law_number, d__law_small, d__law_names, d__law_width, d__law_type, d__law_operand, d__law_args, d__law_target, d__law_op, d__law_ending, d__law_function, d__law_module, d__law_mark, d__law_listed]
def fn2 : List He.DefD := [d__law_goal, d__law_kind, d__law_op_text, d__law_ending_text, d__law_text, d__law_words, d__law_spread, d__law_refusal, d_law]
def fnL : List He.DefD := fn0 ++ (fn1 ++ (fn2))
def fa0 : List He.Fa := [.glo "InvalidText", .glo "OPS", .glo "CASTS", .glo "ARG_COUNTS", .glo "is_name", .glo "run_end", .glo "token_end", .glo "scanned", .glo "WIDTHS_TOLD", .glo "TYPES_TOLD", .glo "RESULTS_TOLD", .glo "PREDS_TOLD", .glo "ENDINGS_TOLD", .glo "number_of", .glo "Reader", .glo "read_operand", .glo "read_list", .glo "read_args", .glo "read_target", .glo "read_call", .glo "read_cast", .glo "read_alloca", .glo "read_deed", .glo "read_any_op", .glo "read_ending", .glo "read_param", .glo "read_type", .glo "read_block", .glo "read_new_name", .glo "read_global"]
def fa1 : List He.Fa := [.glo "read_function", .glo "read_op", .glo "read_module", .glo "type_text", .glo "operand_text", .glo "args_text", .glo "target_text", .glo "head_text", .glo "deed_text", .glo "op_text", .glo "ending_text", .glo "global_line", .glo "block_lines", .glo "function_lines", .glo "module_text", .glo "_law_draw", .glo "_law_any", .glo "_law_of", .glo "_law_power", .glo "_law_number", .glo "_law_small", .glo "_law_names", .glo "_law_width", .glo "_law_type", .glo "_law_operand", .glo "_law_args", .glo "_law_target", .glo "_law_op", .glo "_law_ending", .glo "_law_function"]
def fa2 : List He.Fa := [.glo "_law_module", .glo "_law_mark", .glo "_law_listed", .glo "_law_goal", .glo "_law_kind", .glo "_law_op_text", .glo "_law_ending_text", .glo "_law_text", .glo "_law_words", .glo "_law_spread", .glo "_law_refusal", .glo "law", .free "isinstance", .free "len", .free "all", .free "int", .free "any", .free "tuple", .free "str", .free "abs", .free "range", .free "sorted", .free "enumerate", .free "repr", .cls "Reader", .mkr "Reader", .noat "Reader" "found", .noat "Reader" "end", .noat "Reader" "is_whole", .noat "Reader" "at"]
def fa3 : List He.Fa := [.meth "Reader" "word", .meth "Reader" "need", .meth "Reader" "one_of", .meth "Reader" "number", .meth "Reader" "name", .meth "Reader" "close", .str "FIGURES" "0123456789", .str "LETTERS" "abcdefghijklmnopqrstuvwxyzABCDEFGHIJKLMNOPQRSTUVWXYZ_", .str "SIGNS" "()[]{},:=", .int "BOUND" 18446744073709551616]
def faL : List He.Fa := fa0 ++ (fa1 ++ (fa2 ++ (fa3)))
def nm0 : List Str := ["PassError", "InvalidText", "OPS", "CASTS", "FIGURES", "LETTERS", "BOUND", "ARG_COUNTS", "is_name", "SIGNS", "run_end", "token_end", "scanned", "WIDTHS_TOLD", "TYPES_TOLD", "RESULTS_TOLD", "PREDS_TOLD", "ENDINGS_TOLD", "number_of", "Reader", "read_operand", "read_list", "read_args", "read_target", "read_call", "read_cast", "read_alloca", "read_deed", "read_any_op", "read_ending"]
def nm1 : List Str := ["read_param", "read_type", "read_block", "read_new_name", "read_global", "read_function", "read_op", "read_module", "type_text", "operand_text", "args_text", "target_text", "head_text", "deed_text", "op_text", "ending_text", "global_line", "block_lines", "function_lines", "module_text", "_law_draw", "_law_any", "_law_of", "_law_power", "_law_number", "_law_small", "_law_names", "_law_width", "_law_type", "_law_operand"]
def nm2 : List Str := ["_law_args", "_law_target", "_law_op", "_law_ending", "_law_function", "_law_module", "_law_mark", "_law_listed", "_law_goal", "_law_kind", "_law_op_text", "_law_ending_text", "_law_text", "_law_words", "_law_spread", "_law_refusal"]
def nmL : List Str := nm0 ++ (nm1 ++ (nm2))
/-- the module's name x is a tuple of pairs, a text and a value each -/
def pairB (K : PySem.W.Frag) (p : Str × He.Dv) : Value → Bool
  | .ref b => (match K.lookup b with
    | some ⟨.type c, _, .seq its _, _⟩ => decide (c = "tuple") && (decide (its.size ≤ sizeLine) && He.relAll [.str p.1, p.2.v K] its.toList)
    | _ => false)
  | _ => false
def pairsB (K : PySem.W.Frag) : List (Str × He.Dv) → List Value → Bool
  | [], [] => true
  | p :: ps, u :: us => pairB K p u && pairsB K ps us
  | _, _ => false
def toldB (K : PySem.W.Frag) (x : Str) (ps : List (Str × He.Dv)) : Bool := match K.lookup (He.ga K x) with
  | some ⟨.type c, _, .seq its _, _⟩ => decide (c = "tuple") && (decide (its.size ≤ sizeLine) && pairsB K ps its.toList)
  | _ => false
def v_OPS : List He.Dv := [.str "add", .str "sub", .str "mul", .str "udiv", .str "sdiv", .str "urem", .str "srem", .str "and", .str "or", .str "xor", .str "shl", .str "lshr", .str "ashr"]
def v_CASTS : List He.Dv := [.str "zext", .str "sext", .str "trunc"]
def v_WIDTHS_TOLD : List (Str × He.Dv) := [("i1", .int 1), ("i8", .int 8), ("i16", .int 16), ("i32", .int 32), ("i64", .int 64)]
def v_TYPES_TOLD : List (Str × He.Dv) := [("i1", .int 1), ("i8", .int 8), ("i16", .int 16), ("i32", .int 32), ("i64", .int 64), ("ptr", .str "ptr")]
def v_RESULTS_TOLD : List (Str × He.Dv) := [("i1", .int 1), ("i8", .int 8), ("i16", .int 16), ("i32", .int 32), ("i64", .int 64), ("void", .non)]
def v_PREDS_TOLD : List (Str × He.Dv) := [("eq", .str "eq"), ("ne", .str "ne"), ("ult", .str "ult"), ("ule", .str "ule"), ("slt", .str "slt"), ("sle", .str "sle")]
def v_ENDINGS_TOLD : List (Str × He.Dv) := [("jump", .str "jump"), ("branch", .str "branch"), ("return", .str "return"), ("stop", .str "stop")]
def v_ARG_COUNTS : List (Str × He.Dv) := [("bin", .int 2), ("cmp", .int 2), ("select", .int 3), ("cast", .int 1), ("alloca", .int 0), ("at", .int 2), ("load", .int 1), ("store", .int 2), ("print", .int 1), ("input", .int 0)]
def ex (K : PySem.W.Frag) : Bool := He.tupB K "OPS" v_OPS && (He.tupB K "CASTS" v_CASTS && (toldB K "WIDTHS_TOLD" v_WIDTHS_TOLD && (toldB K "TYPES_TOLD" v_TYPES_TOLD && (toldB K "RESULTS_TOLD" v_RESULTS_TOLD && (toldB K "PREDS_TOLD" v_PREDS_TOLD && (toldB K "ENDINGS_TOLD" v_ENDINGS_TOLD && (He.valsB K (He.ga K "ARG_COUNTS") v_ARG_COUNTS && ((!((He.cT K ("read_global", none)).2 == (He.cT K ("law", none)).2))))))))))
def tsL : List He.Tab := [(fun K => He.ga K "ARG_COUNTS", v_ARG_COUNTS.map (·.1))]
def tfL : List He.Defn := [("read_global", none), ("law", none)]
abbrev RW : PySem.W.OpenRow := PySem.W.OpenLaw.row PySem.Challenge.rw_anypasses_k06_whole_texts_read_back
abbrev hk : PySem.W.Hook := He.hookX 5 faL fnL tsL tfL ex
def ob (s : PySem.W.SharedT) : He.AlX := He.obsX 5 faL fnL tsL tfL ex (HandSHeadRun.getT s)
theorem ob_eq (s : PySem.W.SharedT) : ob s = hk.obs s.abs := He.obsX_eq (HandSHeadRun.getT_eq s)
theorem run_f (w : World) : HandSHeadRun.RunEq RW (PySem.W.view RW.prog [82]) hk ob 4000 nmL (w.withFollow "special-get-raises" false) := by
  intro os
  kernel_rfl
theorem run_t (w : World) : HandSHeadRun.RunEq RW (PySem.W.view RW.prog [82]) hk ob 4000 nmL (w.withFollow "special-get-raises" true) := by
  intro os
  kernel_rfl
theorem run (w : World) : HandSHeadRun.RunEq RW (PySem.W.view RW.prog [82]) hk ob 4000 nmL w := PySem.W.byRow2 "special-get-raises" run_f run_t w
end K6
/-! K6G: where each fact stands in its list (printed by gen_head.py). -/
namespace K6
open PySem PySem.Spec PyProof.Rows L2
theorem m_glo_InvalidText : (He.Fa.glo "InvalidText") ∈ faL := List.mem_of_getElem? (i := 0) rfl
theorem m_glo_OPS : (He.Fa.glo "OPS") ∈ faL := List.mem_of_getElem? (i := 1) rfl
theorem m_glo_CASTS : (He.Fa.glo "CASTS") ∈ faL := List.mem_of_getElem? (i := 2) rfl
theorem m_glo_ARG_COUNTS : (He.Fa.glo "ARG_COUNTS") ∈ faL := List.mem_of_getElem? (i := 3) rfl
theorem m_glo_is_name : (He.Fa.glo "is_name") ∈ faL := List.mem_of_getElem? (i := 4) rfl
theorem m_glo_run_end : (He.Fa.glo "run_end") ∈ faL := List.mem_of_getElem? (i := 5) rfl
theorem m_glo_token_end : (He.Fa.glo "token_end") ∈ faL := List.mem_of_getElem? (i := 6) rfl
theorem m_glo_scanned : (He.Fa.glo "scanned") ∈ faL := List.mem_of_getElem? (i := 7) rfl
theorem m_glo_WIDTHS_TOLD : (He.Fa.glo "WIDTHS_TOLD") ∈ faL := List.mem_of_getElem? (i := 8) rfl
theorem m_glo_TYPES_TOLD : (He.Fa.glo "TYPES_TOLD") ∈ faL := List.mem_of_getElem? (i := 9) rfl
theorem m_glo_RESULTS_TOLD : (He.Fa.glo "RESULTS_TOLD") ∈ faL := List.mem_of_getElem? (i := 10) rfl
theorem m_glo_PREDS_TOLD : (He.Fa.glo "PREDS_TOLD") ∈ faL := List.mem_of_getElem? (i := 11) rfl
theorem m_glo_ENDINGS_TOLD : (He.Fa.glo "ENDINGS_TOLD") ∈ faL := List.mem_of_getElem? (i := 12) rfl
theorem m_glo_number_of : (He.Fa.glo "number_of") ∈ faL := List.mem_of_getElem? (i := 13) rfl
theorem m_glo_Reader : (He.Fa.glo "Reader") ∈ faL := List.mem_of_getElem? (i := 14) rfl
theorem m_glo_read_operand : (He.Fa.glo "read_operand") ∈ faL := List.mem_of_getElem? (i := 15) rfl
theorem m_glo_read_list : (He.Fa.glo "read_list") ∈ faL := List.mem_of_getElem? (i := 16) rfl
theorem m_glo_read_args : (He.Fa.glo "read_args") ∈ faL := List.mem_of_getElem? (i := 17) rfl
theorem m_glo_read_target : (He.Fa.glo "read_target") ∈ faL := List.mem_of_getElem? (i := 18) rfl
theorem m_glo_read_call : (He.Fa.glo "read_call") ∈ faL := List.mem_of_getElem? (i := 19) rfl
theorem m_glo_read_cast : (He.Fa.glo "read_cast") ∈ faL := List.mem_of_getElem? (i := 20) rfl
theorem m_glo_read_alloca : (He.Fa.glo "read_alloca") ∈ faL := List.mem_of_getElem? (i := 21) rfl
theorem m_glo_read_deed : (He.Fa.glo "read_deed") ∈ faL := List.mem_of_getElem? (i := 22) rfl
theorem m_glo_read_any_op : (He.Fa.glo "read_any_op") ∈ faL := List.mem_of_getElem? (i := 23) rfl
theorem m_glo_read_ending : (He.Fa.glo "read_ending") ∈ faL := List.mem_of_getElem? (i := 24) rfl
theorem m_glo_read_param : (He.Fa.glo "read_param") ∈ faL := List.mem_of_getElem? (i := 25) rfl
theorem m_glo_read_type : (He.Fa.glo "read_type") ∈ faL := List.mem_of_getElem? (i := 26) rfl
theorem m_glo_read_block : (He.Fa.glo "read_block") ∈ faL := List.mem_of_getElem? (i := 27) rfl
theorem m_glo_read_new_name : (He.Fa.glo "read_new_name") ∈ faL := List.mem_of_getElem? (i := 28) rfl
theorem m_glo_read_global : (He.Fa.glo "read_global") ∈ faL := List.mem_of_getElem? (i := 29) rfl
theorem m_glo_read_function : (He.Fa.glo "read_function") ∈ faL := List.mem_of_getElem? (i := 30) rfl
theorem m_glo_read_op : (He.Fa.glo "read_op") ∈ faL := List.mem_of_getElem? (i := 31) rfl
theorem m_glo_read_module : (He.Fa.glo "read_module") ∈ faL := List.mem_of_getElem? (i := 32) rfl
theorem m_glo_type_text : (He.Fa.glo "type_text") ∈ faL := List.mem_of_getElem? (i := 33) rfl
theorem m_glo_operand_text : (He.Fa.glo "operand_text") ∈ faL := List.mem_of_getElem? (i := 34) rfl
theorem m_glo_args_text : (He.Fa.glo "args_text") ∈ faL := List.mem_of_getElem? (i := 35) rfl
theorem m_glo_target_text : (He.Fa.glo "target_text") ∈ faL := List.mem_of_getElem? (i := 36) rfl
theorem m_glo_head_text : (He.Fa.glo "head_text") ∈ faL := List.mem_of_getElem? (i := 37) rfl
theorem m_glo_deed_text : (He.Fa.glo "deed_text") ∈ faL := List.mem_of_getElem? (i := 38) rfl
theorem m_glo_op_text : (He.Fa.glo "op_text") ∈ faL := List.mem_of_getElem? (i := 39) rfl
theorem m_glo_ending_text : (He.Fa.glo "ending_text") ∈ faL := List.mem_of_getElem? (i := 40) rfl
theorem m_glo_global_line : (He.Fa.glo "global_line") ∈ faL := List.mem_of_getElem? (i := 41) rfl
theorem m_glo_block_lines : (He.Fa.glo "block_lines") ∈ faL := List.mem_of_getElem? (i := 42) rfl
theorem m_glo_function_lines : (He.Fa.glo "function_lines") ∈ faL := List.mem_of_getElem? (i := 43) rfl
theorem m_glo_module_text : (He.Fa.glo "module_text") ∈ faL := List.mem_of_getElem? (i := 44) rfl
theorem m_glo__law_draw : (He.Fa.glo "_law_draw") ∈ faL := List.mem_of_getElem? (i := 45) rfl
theorem m_glo__law_any : (He.Fa.glo "_law_any") ∈ faL := List.mem_of_getElem? (i := 46) rfl
theorem m_glo__law_of : (He.Fa.glo "_law_of") ∈ faL := List.mem_of_getElem? (i := 47) rfl
theorem m_glo__law_power : (He.Fa.glo "_law_power") ∈ faL := List.mem_of_getElem? (i := 48) rfl
theorem m_glo__law_number : (He.Fa.glo "_law_number") ∈ faL := List.mem_of_getElem? (i := 49) rfl
theorem m_glo__law_small : (He.Fa.glo "_law_small") ∈ faL := List.mem_of_getElem? (i := 50) rfl
theorem m_glo__law_names : (He.Fa.glo "_law_names") ∈ faL := List.mem_of_getElem? (i := 51) rfl
theorem m_glo__law_width : (He.Fa.glo "_law_width") ∈ faL := List.mem_of_getElem? (i := 52) rfl
theorem m_glo__law_type : (He.Fa.glo "_law_type") ∈ faL := List.mem_of_getElem? (i := 53) rfl
theorem m_glo__law_operand : (He.Fa.glo "_law_operand") ∈ faL := List.mem_of_getElem? (i := 54) rfl
theorem m_glo__law_args : (He.Fa.glo "_law_args") ∈ faL := List.mem_of_getElem? (i := 55) rfl
theorem m_glo__law_target : (He.Fa.glo "_law_target") ∈ faL := List.mem_of_getElem? (i := 56) rfl
theorem m_glo__law_op : (He.Fa.glo "_law_op") ∈ faL := List.mem_of_getElem? (i := 57) rfl
theorem m_glo__law_ending : (He.Fa.glo "_law_ending") ∈ faL := List.mem_of_getElem? (i := 58) rfl
theorem m_glo__law_function : (He.Fa.glo "_law_function") ∈ faL := List.mem_of_getElem? (i := 59) rfl
theorem m_glo__law_module : (He.Fa.glo "_law_module") ∈ faL := List.mem_of_getElem? (i := 60) rfl
theorem m_glo__law_mark : (He.Fa.glo "_law_mark") ∈ faL := List.mem_of_getElem? (i := 61) rfl
theorem m_glo__law_listed : (He.Fa.glo "_law_listed") ∈ faL := List.mem_of_getElem? (i := 62) rfl
theorem m_glo__law_goal : (He.Fa.glo "_law_goal") ∈ faL := List.mem_of_getElem? (i := 63) rfl
theorem m_glo__law_kind : (He.Fa.glo "_law_kind") ∈ faL := List.mem_of_getElem? (i := 64) rfl
theorem m_glo__law_op_text : (He.Fa.glo "_law_op_text") ∈ faL := List.mem_of_getElem? (i := 65) rfl
theorem m_glo__law_ending_text : (He.Fa.glo "_law_ending_text") ∈ faL := List.mem_of_getElem? (i := 66) rfl
theorem m_glo__law_text : (He.Fa.glo "_law_text") ∈ faL := List.mem_of_getElem? (i := 67) rfl
theorem m_glo__law_words : (He.Fa.glo "_law_words") ∈ faL := List.mem_of_getElem? (i := 68) rfl
theorem m_glo__law_spread : (He.Fa.glo "_law_spread") ∈ faL := List.mem_of_getElem? (i := 69) rfl
theorem m_glo__law_refusal : (He.Fa.glo "_law_refusal") ∈ faL := List.mem_of_getElem? (i := 70) rfl
theorem m_glo_law : (He.Fa.glo "law") ∈ faL := List.mem_of_getElem? (i := 71) rfl
theorem m_free_isinstance : (He.Fa.free "isinstance") ∈ faL := List.mem_of_getElem? (i := 72) rfl
theorem m_free_len : (He.Fa.free "len") ∈ faL := List.mem_of_getElem? (i := 73) rfl
theorem m_free_all : (He.Fa.free "all") ∈ faL := List.mem_of_getElem? (i := 74) rfl
theorem m_free_int : (He.Fa.free "int") ∈ faL := List.mem_of_getElem? (i := 75) rfl
theorem m_free_any : (He.Fa.free "any") ∈ faL := List.mem_of_getElem? (i := 76) rfl
theorem m_free_tuple : (He.Fa.free "tuple") ∈ faL := List.mem_of_getElem? (i := 77) rfl
theorem m_free_str : (He.Fa.free "str") ∈ faL := List.mem_of_getElem? (i := 78) rfl
theorem m_free_abs : (He.Fa.free "abs") ∈ faL := List.mem_of_getElem? (i := 79) rfl
theorem m_free_range : (He.Fa.free "range") ∈ faL := List.mem_of_getElem? (i := 80) rfl
theorem m_free_sorted : (He.Fa.free "sorted") ∈ faL := List.mem_of_getElem? (i := 81) rfl
theorem m_free_enumerate : (He.Fa.free "enumerate") ∈ faL := List.mem_of_getElem? (i := 82) rfl
theorem m_free_repr : (He.Fa.free "repr") ∈ faL := List.mem_of_getElem? (i := 83) rfl
theorem m_cls_Reader : (He.Fa.cls "Reader") ∈ faL := List.mem_of_getElem? (i := 84) rfl
theorem m_mkr_Reader : (He.Fa.mkr "Reader") ∈ faL := List.mem_of_getElem? (i := 85) rfl
theorem m_noat_Reader_found : (He.Fa.noat "Reader" "found") ∈ faL := List.mem_of_getElem? (i := 86) rfl
theorem m_noat_Reader_end : (He.Fa.noat "Reader" "end") ∈ faL := List.mem_of_getElem? (i := 87) rfl
theorem m_noat_Reader_is_whole : (He.Fa.noat "Reader" "is_whole") ∈ faL := List.mem_of_getElem? (i := 88) rfl
theorem m_noat_Reader_at : (He.Fa.noat "Reader" "at") ∈ faL := List.mem_of_getElem? (i := 89) rfl
theorem m_meth_Reader_word : (He.Fa.meth "Reader" "word") ∈ faL := List.mem_of_getElem? (i := 90) rfl
theorem m_meth_Reader_need : (He.Fa.meth "Reader" "need") ∈ faL := List.mem_of_getElem? (i := 91) rfl
theorem m_meth_Reader_one_of : (He.Fa.meth "Reader" "one_of") ∈ faL := List.mem_of_getElem? (i := 92) rfl
theorem m_meth_Reader_number : (He.Fa.meth "Reader" "number") ∈ faL := List.mem_of_getElem? (i := 93) rfl
theorem m_meth_Reader_name : (He.Fa.meth "Reader" "name") ∈ faL := List.mem_of_getElem? (i := 94) rfl
theorem m_meth_Reader_close : (He.Fa.meth "Reader" "close") ∈ faL := List.mem_of_getElem? (i := 95) rfl
theorem m_str_FIGURES : (He.Fa.str "FIGURES" "0123456789") ∈ faL := List.mem_of_getElem? (i := 96) rfl
theorem m_str_LETTERS : (He.Fa.str "LETTERS" "abcdefghijklmnopqrstuvwxyzABCDEFGHIJKLMNOPQRSTUVWXYZ_") ∈ faL := List.mem_of_getElem? (i := 97) rfl
theorem m_str_SIGNS : (He.Fa.str "SIGNS" "()[]{},:=") ∈ faL := List.mem_of_getElem? (i := 98) rfl
theorem m_int_BOUND : (He.Fa.int "BOUND" 18446744073709551616) ∈ faL := List.mem_of_getElem? (i := 99) rfl
theorem m_def_is_name : (d_is_name : He.DefD) ∈ fnL := List.mem_of_getElem? (i := 0) rfl
theorem bi_is_name (kV doc pm : Value) (an : Option Addr) (cdv ct : Value) (us : List Value) (hl : us.length = 1) : bindArgs (PySem.W.fnOf "is_name" "is_name" (defArgs s_is_name) (defBody s_is_name) (defScope s_is_name) .none kV doc pm an cdv ct) ⟨us, []⟩ = pure ((["value"] : List Str).zip us) := match us, hl with | [_], _ => rfl
theorem m_def_run_end : (d_run_end : He.DefD) ∈ fnL := List.mem_of_getElem? (i := 1) rfl
theorem bi_run_end (kV doc pm : Value) (an : Option Addr) (cdv ct : Value) (us : List Value) (hl : us.length = 2) : bindArgs (PySem.W.fnOf "run_end" "run_end" (defArgs s_run_end) (defBody s_run_end) (defScope s_run_end) .none kV doc pm an cdv ct) ⟨us, []⟩ = pure ((["text", "at"] : List Str).zip us) := match us, hl with | [_, _], _ => rfl
theorem m_def_token_end : (d_token_end : He.DefD) ∈ fnL := List.mem_of_getElem? (i := 2) rfl
theorem bi_token_end (kV doc pm : Value) (an : Option Addr) (cdv ct : Value) (us : List Value) (hl : us.length = 2) : bindArgs (PySem.W.fnOf "token_end" "token_end" (defArgs s_token_end) (defBody s_token_end) (defScope s_token_end) .none kV doc pm an cdv ct) ⟨us, []⟩ = pure ((["text", "at"] : List Str).zip us) := match us, hl with | [_, _], _ => rfl
theorem m_def_scanned : (d_scanned : He.DefD) ∈ fnL := List.mem_of_getElem? (i := 3) rfl
theorem bi_scanned (kV doc pm : Value) (an : Option Addr) (cdv ct : Value) (us : List Value) (hl : us.length = 1) : bindArgs (PySem.W.fnOf "scanned" "scanned" (defArgs s_scanned) (defBody s_scanned) (defScope s_scanned) .none kV doc pm an cdv ct) ⟨us, []⟩ = pure ((["text"] : List Str).zip us) := match us, hl with | [_], _ => rfl
theorem m_def_number_of : (d_number_of : He.DefD) ∈ fnL := List.mem_of_getElem? (i := 4) rfl
theorem bi_number_of (kV doc pm : Value) (an : Option Addr) (cdv ct : Value) (us : List Value) (hl : us.length = 2) : bindArgs (PySem.W.fnOf "number_of" "number_of" (defArgs s_number_of) (defBody s_number_of) (defScope s_number_of) .none kV doc pm an cdv ct) ⟨us, []⟩ = pure ((["word", "bound"] : List Str).zip us) := match us, hl with | [_, _], _ => rfl
theorem m_def_Reader_init : (d_Reader_init : He.DefD) ∈ fnL := List.mem_of_getElem? (i := 5) rfl
theorem bi_Reader_init (kV doc pm : Value) (an : Option Addr) (cdv ct : Value) (us : List Value) (hl : us.length = 2) : bindArgs (PySem.W.fnOf "__init__" "Reader.__init__" (defArgs s_Reader_init) (defBody s_Reader_init) (defScope s_Reader_init) .none kV doc pm an cdv ct) ⟨us, []⟩ = pure ((["self", "text"] : List Str).zip us) := match us, hl with | [_, _], _ => rfl
theorem m_def_Reader_word : (d_Reader_word : He.DefD) ∈ fnL := List.mem_of_getElem? (i := 6) rfl
theorem bi_Reader_word (kV doc pm : Value) (an : Option Addr) (cdv ct : Value) (us : List Value) (hl : us.length = 1) : bindArgs (PySem.W.fnOf "word" "Reader.word" (defArgs s_Reader_word) (defBody s_Reader_word) (defScope s_Reader_word) .none kV doc pm an cdv ct) ⟨us, []⟩ = pure ((["self"] : List Str).zip us) := match us, hl with | [_], _ => rfl
theorem m_def_Reader_need : (d_Reader_need : He.DefD) ∈ fnL := List.mem_of_getElem? (i := 7) rfl
theorem bi_Reader_need (kV doc pm : Value) (an : Option Addr) (cdv ct : Value) (us : List Value) (hl : us.length = 2) : bindArgs (PySem.W.fnOf "need" "Reader.need" (defArgs s_Reader_need) (defBody s_Reader_need) (defScope s_Reader_need) .none kV doc pm an cdv ct) ⟨us, []⟩ = pure ((["self", "word"] : List Str).zip us) := match us, hl with | [_, _], _ => rfl
theorem m_def_Reader_one_of : (d_Reader_one_of : He.DefD) ∈ fnL := List.mem_of_getElem? (i := 8) rfl
theorem bi_Reader_one_of (kV doc pm : Value) (an : Option Addr) (cdv ct : Value) (us : List Value) (hl : us.length = 2) : bindArgs (PySem.W.fnOf "one_of" "Reader.one_of" (defArgs s_Reader_one_of) (defBody s_Reader_one_of) (defScope s_Reader_one_of) .none kV doc pm an cdv ct) ⟨us, []⟩ = pure ((["self", "pairs"] : List Str).zip us) := match us, hl with | [_, _], _ => rfl
theorem m_def_Reader_number : (d_Reader_number : He.DefD) ∈ fnL := List.mem_of_getElem? (i := 9) rfl
theorem bi_Reader_number (kV doc pm : Value) (an : Option Addr) (cdv ct : Value) (us : List Value) (hl : us.length = 3) : bindArgs (PySem.W.fnOf "number" "Reader.number" (defArgs s_Reader_number) (defBody s_Reader_number) (defScope s_Reader_number) .none kV doc pm an cdv ct) ⟨us, []⟩ = pure ((["self", "mark", "bound"] : List Str).zip us) := match us, hl with | [_, _, _], _ => rfl
theorem m_def_Reader_name : (d_Reader_name : He.DefD) ∈ fnL := List.mem_of_getElem? (i := 10) rfl
theorem bi_Reader_name (kV doc pm : Value) (an : Option Addr) (cdv ct : Value) (us : List Value) (hl : us.length = 1) : bindArgs (PySem.W.fnOf "name" "Reader.name" (defArgs s_Reader_name) (defBody s_Reader_name) (defScope s_Reader_name) .none kV doc pm an cdv ct) ⟨us, []⟩ = pure ((["self"] : List Str).zip us) := match us, hl with | [_], _ => rfl
theorem m_def_Reader_close : (d_Reader_close : He.DefD) ∈ fnL := List.mem_of_getElem? (i := 11) rfl
theorem bi_Reader_close (kV doc pm : Value) (an : Option Addr) (cdv ct : Value) (us : List Value) (hl : us.length = 1) : bindArgs (PySem.W.fnOf "close" "Reader.close" (defArgs s_Reader_close) (defBody s_Reader_close) (defScope s_Reader_close) .none kV doc pm an cdv ct) ⟨us, []⟩ = pure ((["self"] : List Str).zip us) := match us, hl with | [_], _ => rfl
theorem m_def_read_operand : (d_read_operand : He.DefD) ∈ fnL := List.mem_of_getElem? (i := 12) rfl
theorem bi_read_operand (kV doc pm : Value) (an : Option Addr) (cdv ct : Value) (us : List Value) (hl : us.length = 1) : bindArgs (PySem.W.fnOf "read_operand" "read_operand" (defArgs s_read_operand) (defBody s_read_operand) (defScope s_read_operand) .none kV doc pm an cdv ct) ⟨us, []⟩ = pure ((["reader"] : List Str).zip us) := match us, hl with | [_], _ => rfl
theorem m_def_read_list : (d_read_list : He.DefD) ∈ fnL := List.mem_of_getElem? (i := 13) rfl
theorem bi_read_list (kV doc pm : Value) (an : Option Addr) (cdv ct : Value) (us : List Value) (hl : us.length = 4) : bindArgs (PySem.W.fnOf "read_list" "read_list" (defArgs s_read_list) (defBody s_read_list) (defScope s_read_list) .none kV doc pm an cdv ct) ⟨us, []⟩ = pure ((["reader", "open_sign", "close_sign", "read_one"] : List Str).zip us) := match us, hl with | [_, _, _, _], _ => rfl
theorem m_def_read_args : (d_read_args : He.DefD) ∈ fnL := List.mem_of_getElem? (i := 14) rfl
theorem bi_read_args (kV doc pm : Value) (an : Option Addr) (cdv ct : Value) (us : List Value) (hl : us.length = 2) : bindArgs (PySem.W.fnOf "read_args" "read_args" (defArgs s_read_args) (defBody s_read_args) (defScope s_read_args) .none kV doc pm an cdv ct) ⟨us, []⟩ = pure ((["reader", "many"] : List Str).zip us) := match us, hl with | [_, _], _ => rfl
theorem m_def_read_target : (d_read_target : He.DefD) ∈ fnL := List.mem_of_getElem? (i := 15) rfl
theorem bi_read_target (kV doc pm : Value) (an : Option Addr) (cdv ct : Value) (us : List Value) (hl : us.length = 1) : bindArgs (PySem.W.fnOf "read_target" "read_target" (defArgs s_read_target) (defBody s_read_target) (defScope s_read_target) .none kV doc pm an cdv ct) ⟨us, []⟩ = pure ((["reader"] : List Str).zip us) := match us, hl with | [_], _ => rfl
theorem m_def_read_call : (d_read_call : He.DefD) ∈ fnL := List.mem_of_getElem? (i := 16) rfl
theorem bi_read_call (kV doc pm : Value) (an : Option Addr) (cdv ct : Value) (us : List Value) (hl : us.length = 2) : bindArgs (PySem.W.fnOf "read_call" "read_call" (defArgs s_read_call) (defBody s_read_call) (defScope s_read_call) .none kV doc pm an cdv ct) ⟨us, []⟩ = pure ((["reader", "made"] : List Str).zip us) := match us, hl with | [_, _], _ => rfl
theorem m_def_read_cast : (d_read_cast : He.DefD) ∈ fnL := List.mem_of_getElem? (i := 17) rfl
theorem bi_read_cast (kV doc pm : Value) (an : Option Addr) (cdv ct : Value) (us : List Value) (hl : us.length = 3) : bindArgs (PySem.W.fnOf "read_cast" "read_cast" (defArgs s_read_cast) (defBody s_read_cast) (defScope s_read_cast) .none kV doc pm an cdv ct) ⟨us, []⟩ = pure ((["reader", "made", "kind"] : List Str).zip us) := match us, hl with | [_, _, _], _ => rfl
theorem m_def_read_alloca : (d_read_alloca : He.DefD) ∈ fnL := List.mem_of_getElem? (i := 18) rfl
theorem bi_read_alloca (kV doc pm : Value) (an : Option Addr) (cdv ct : Value) (us : List Value) (hl : us.length = 2) : bindArgs (PySem.W.fnOf "read_alloca" "read_alloca" (defArgs s_read_alloca) (defBody s_read_alloca) (defScope s_read_alloca) .none kV doc pm an cdv ct) ⟨us, []⟩ = pure ((["reader", "made"] : List Str).zip us) := match us, hl with | [_, _], _ => rfl
theorem m_def_read_deed : (d_read_deed : He.DefD) ∈ fnL := List.mem_of_getElem? (i := 19) rfl
theorem bi_read_deed (kV doc pm : Value) (an : Option Addr) (cdv ct : Value) (us : List Value) (hl : us.length = 2) : bindArgs (PySem.W.fnOf "read_deed" "read_deed" (defArgs s_read_deed) (defBody s_read_deed) (defScope s_read_deed) .none kV doc pm an cdv ct) ⟨us, []⟩ = pure ((["reader", "made"] : List Str).zip us) := match us, hl with | [_, _], _ => rfl
theorem m_def_read_any_op : (d_read_any_op : He.DefD) ∈ fnL := List.mem_of_getElem? (i := 20) rfl
theorem bi_read_any_op (kV doc pm : Value) (an : Option Addr) (cdv ct : Value) (us : List Value) (hl : us.length = 1) : bindArgs (PySem.W.fnOf "read_any_op" "read_any_op" (defArgs s_read_any_op) (defBody s_read_any_op) (defScope s_read_any_op) .none kV doc pm an cdv ct) ⟨us, []⟩ = pure ((["reader"] : List Str).zip us) := match us, hl with | [_], _ => rfl
theorem m_def_read_ending : (d_read_ending : He.DefD) ∈ fnL := List.mem_of_getElem? (i := 21) rfl
theorem bi_read_ending (kV doc pm : Value) (an : Option Addr) (cdv ct : Value) (us : List Value) (hl : us.length = 1) : bindArgs (PySem.W.fnOf "read_ending" "read_ending" (defArgs s_read_ending) (defBody s_read_ending) (defScope s_read_ending) .none kV doc pm an cdv ct) ⟨us, []⟩ = pure ((["reader"] : List Str).zip us) := match us, hl with | [_], _ => rfl
theorem m_def_read_param : (d_read_param : He.DefD) ∈ fnL := List.mem_of_getElem? (i := 22) rfl
theorem bi_read_param (kV doc pm : Value) (an : Option Addr) (cdv ct : Value) (us : List Value) (hl : us.length = 1) : bindArgs (PySem.W.fnOf "read_param" "read_param" (defArgs s_read_param) (defBody s_read_param) (defScope s_read_param) .none kV doc pm an cdv ct) ⟨us, []⟩ = pure ((["reader"] : List Str).zip us) := match us, hl with | [_], _ => rfl
theorem m_def_read_type : (d_read_type : He.DefD) ∈ fnL := List.mem_of_getElem? (i := 23) rfl
theorem bi_read_type (kV doc pm : Value) (an : Option Addr) (cdv ct : Value) (us : List Value) (hl : us.length = 1) : bindArgs (PySem.W.fnOf "read_type" "read_type" (defArgs s_read_type) (defBody s_read_type) (defScope s_read_type) .none kV doc pm an cdv ct) ⟨us, []⟩ = pure ((["reader"] : List Str).zip us) := match us, hl with | [_], _ => rfl
theorem m_def_read_block : (d_read_block : He.DefD) ∈ fnL := List.mem_of_getElem? (i := 24) rfl
theorem bi_read_block (kV doc pm : Value) (an : Option Addr) (cdv ct : Value) (us : List Value) (hl : us.length = 1) : bindArgs (PySem.W.fnOf "read_block" "read_block" (defArgs s_read_block) (defBody s_read_block) (defScope s_read_block) .none kV doc pm an cdv ct) ⟨us, []⟩ = pure ((["reader"] : List Str).zip us) := match us, hl with | [_], _ => rfl
theorem m_def_read_new_name : (d_read_new_name : He.DefD) ∈ fnL := List.mem_of_getElem? (i := 25) rfl
theorem bi_read_new_name (kV doc pm : Value) (an : Option Addr) (cdv ct : Value) (us : List Value) (hl : us.length = 3) : bindArgs (PySem.W.fnOf "read_new_name" "read_new_name" (defArgs s_read_new_name) (defBody s_read_new_name) (defScope s_read_new_name) .none kV doc pm an cdv ct) ⟨us, []⟩ = pure ((["reader", "last", "barred"] : List Str).zip us) := match us, hl with | [_, _, _], _ => rfl
theorem m_def_read_global : (d_read_global : He.DefD) ∈ fnL := List.mem_of_getElem? (i := 26) rfl
theorem bi_read_global (kV doc pm : Value) (an : Option Addr) (cdv ct : Value) (us : List Value) (hl : us.length = 2) : bindArgs (PySem.W.fnOf "read_global" "read_global" (defArgs s_read_global) (defBody s_read_global) (defScope s_read_global) .none kV doc pm an cdv ct) ⟨us, []⟩ = pure ((["reader", "last"] : List Str).zip us) := match us, hl with | [_, _], _ => rfl
theorem m_def_read_function : (d_read_function : He.DefD) ∈ fnL := List.mem_of_getElem? (i := 27) rfl
theorem bi_read_function (kV doc pm : Value) (an : Option Addr) (cdv ct : Value) (us : List Value) (hl : us.length = 3) : bindArgs (PySem.W.fnOf "read_function" "read_function" (defArgs s_read_function) (defBody s_read_function) (defScope s_read_function) .none kV doc pm an cdv ct) ⟨us, []⟩ = pure ((["reader", "last", "barred"] : List Str).zip us) := match us, hl with | [_, _, _], _ => rfl
theorem m_def_read_op : (d_read_op : He.DefD) ∈ fnL := List.mem_of_getElem? (i := 28) rfl
theorem bi_read_op (kV doc pm : Value) (an : Option Addr) (cdv ct : Value) (us : List Value) (hl : us.length = 1) : bindArgs (PySem.W.fnOf "read_op" "read_op" (defArgs s_read_op) (defBody s_read_op) (defScope s_read_op) .none kV doc pm an cdv ct) ⟨us, []⟩ = pure ((["text"] : List Str).zip us) := match us, hl with | [_], _ => rfl
theorem m_def_read_module : (d_read_module : He.DefD) ∈ fnL := List.mem_of_getElem? (i := 29) rfl
theorem bi_read_module (kV doc pm : Value) (an : Option Addr) (cdv ct : Value) (us : List Value) (hl : us.length = 1) : bindArgs (PySem.W.fnOf "read_module" "read_module" (defArgs s_read_module) (defBody s_read_module) (defScope s_read_module) .none kV doc pm an cdv ct) ⟨us, []⟩ = pure ((["text"] : List Str).zip us) := match us, hl with | [_], _ => rfl
theorem m_def_type_text : (d_type_text : He.DefD) ∈ fnL := List.mem_of_getElem? (i := 30) rfl
theorem bi_type_text (kV doc pm : Value) (an : Option Addr) (cdv ct : Value) (us : List Value) (hl : us.length = 1) : bindArgs (PySem.W.fnOf "type_text" "type_text" (defArgs s_type_text) (defBody s_type_text) (defScope s_type_text) .none kV doc pm an cdv ct) ⟨us, []⟩ = pure ((["told"] : List Str).zip us) := match us, hl with | [_], _ => rfl
theorem m_def_operand_text : (d_operand_text : He.DefD) ∈ fnL := List.mem_of_getElem? (i := 31) rfl
theorem bi_operand_text (kV doc pm : Value) (an : Option Addr) (cdv ct : Value) (us : List Value) (hl : us.length = 1) : bindArgs (PySem.W.fnOf "operand_text" "operand_text" (defArgs s_operand_text) (defBody s_operand_text) (defScope s_operand_text) .none kV doc pm an cdv ct) ⟨us, []⟩ = pure ((["operand"] : List Str).zip us) := match us, hl with | [_], _ => rfl
theorem m_def_args_text : (d_args_text : He.DefD) ∈ fnL := List.mem_of_getElem? (i := 32) rfl
theorem bi_args_text (kV doc pm : Value) (an : Option Addr) (cdv ct : Value) (us : List Value) (hl : us.length = 1) : bindArgs (PySem.W.fnOf "args_text" "args_text" (defArgs s_args_text) (defBody s_args_text) (defScope s_args_text) .none kV doc pm an cdv ct) ⟨us, []⟩ = pure ((["args"] : List Str).zip us) := match us, hl with | [_], _ => rfl
theorem m_def_target_text : (d_target_text : He.DefD) ∈ fnL := List.mem_of_getElem? (i := 33) rfl
theorem bi_target_text (kV doc pm : Value) (an : Option Addr) (cdv ct : Value) (us : List Value) (hl : us.length = 1) : bindArgs (PySem.W.fnOf "target_text" "target_text" (defArgs s_target_text) (defBody s_target_text) (defScope s_target_text) .none kV doc pm an cdv ct) ⟨us, []⟩ = pure ((["target"] : List Str).zip us) := match us, hl with | [_], _ => rfl
theorem m_def_head_text : (d_head_text : He.DefD) ∈ fnL := List.mem_of_getElem? (i := 34) rfl
theorem bi_head_text (kV doc pm : Value) (an : Option Addr) (cdv ct : Value) (us : List Value) (hl : us.length = 2) : bindArgs (PySem.W.fnOf "head_text" "head_text" (defArgs s_head_text) (defBody s_head_text) (defScope s_head_text) .none kV doc pm an cdv ct) ⟨us, []⟩ = pure ((["kind", "info"] : List Str).zip us) := match us, hl with | [_, _], _ => rfl
theorem m_def_deed_text : (d_deed_text : He.DefD) ∈ fnL := List.mem_of_getElem? (i := 35) rfl
theorem bi_deed_text (kV doc pm : Value) (an : Option Addr) (cdv ct : Value) (us : List Value) (hl : us.length = 3) : bindArgs (PySem.W.fnOf "deed_text" "deed_text" (defArgs s_deed_text) (defBody s_deed_text) (defScope s_deed_text) .none kV doc pm an cdv ct) ⟨us, []⟩ = pure ((["kind", "info", "args"] : List Str).zip us) := match us, hl with | [_, _, _], _ => rfl
theorem m_def_op_text : (d_op_text : He.DefD) ∈ fnL := List.mem_of_getElem? (i := 36) rfl
theorem bi_op_text (kV doc pm : Value) (an : Option Addr) (cdv ct : Value) (us : List Value) (hl : us.length = 1) : bindArgs (PySem.W.fnOf "op_text" "op_text" (defArgs s_op_text) (defBody s_op_text) (defScope s_op_text) .none kV doc pm an cdv ct) ⟨us, []⟩ = pure ((["op"] : List Str).zip us) := match us, hl with | [_], _ => rfl
theorem m_def_ending_text : (d_ending_text : He.DefD) ∈ fnL := List.mem_of_getElem? (i := 37) rfl
theorem bi_ending_text (kV doc pm : Value) (an : Option Addr) (cdv ct : Value) (us : List Value) (hl : us.length = 1) : bindArgs (PySem.W.fnOf "ending_text" "ending_text" (defArgs s_ending_text) (defBody s_ending_text) (defScope s_ending_text) .none kV doc pm an cdv ct) ⟨us, []⟩ = pure ((["ending"] : List Str).zip us) := match us, hl with | [_], _ => rfl
theorem m_def_global_line : (d_global_line : He.DefD) ∈ fnL := List.mem_of_getElem? (i := 38) rfl
theorem bi_global_line (kV doc pm : Value) (an : Option Addr) (cdv ct : Value) (us : List Value) (hl : us.length = 1) : bindArgs (PySem.W.fnOf "global_line" "global_line" (defArgs s_global_line) (defBody s_global_line) (defScope s_global_line) .none kV doc pm an cdv ct) ⟨us, []⟩ = pure ((["one"] : List Str).zip us) := match us, hl with | [_], _ => rfl
theorem m_def_block_lines : (d_block_lines : He.DefD) ∈ fnL := List.mem_of_getElem? (i := 39) rfl
theorem bi_block_lines (kV doc pm : Value) (an : Option Addr) (cdv ct : Value) (us : List Value) (hl : us.length = 1) : bindArgs (PySem.W.fnOf "block_lines" "block_lines" (defArgs s_block_lines) (defBody s_block_lines) (defScope s_block_lines) .none kV doc pm an cdv ct) ⟨us, []⟩ = pure ((["block"] : List Str).zip us) := match us, hl with | [_], _ => rfl
theorem m_def_function_lines : (d_function_lines : He.DefD) ∈ fnL := List.mem_of_getElem? (i := 40) rfl
theorem bi_function_lines (kV doc pm : Value) (an : Option Addr) (cdv ct : Value) (us : List Value) (hl : us.length = 1) : bindArgs (PySem.W.fnOf "function_lines" "function_lines" (defArgs s_function_lines) (defBody s_function_lines) (defScope s_function_lines) .none kV doc pm an cdv ct) ⟨us, []⟩ = pure ((["function"] : List Str).zip us) := match us, hl with | [_], _ => rfl
theorem m_def_module_text : (d_module_text : He.DefD) ∈ fnL := List.mem_of_getElem? (i := 41) rfl
theorem bi_module_text (kV doc pm : Value) (an : Option Addr) (cdv ct : Value) (us : List Value) (hl : us.length = 1) : bindArgs (PySem.W.fnOf "module_text" "module_text" (defArgs s_module_text) (defBody s_module_text) (defScope s_module_text) .none kV doc pm an cdv ct) ⟨us, []⟩ = pure ((["module"] : List Str).zip us) := match us, hl with | [_], _ => rfl
theorem m_def__law_draw : (d__law_draw : He.DefD) ∈ fnL := List.mem_of_getElem? (i := 42) rfl
theorem bi__law_draw (kV doc pm : Value) (an : Option Addr) (cdv ct : Value) (us : List Value) (hl : us.length = 2) : bindArgs (PySem.W.fnOf "_law_draw" "_law_draw" (defArgs s__law_draw) (defBody s__law_draw) (defScope s__law_draw) .none kV doc pm an cdv ct) ⟨us, []⟩ = pure ((["_law_script", "_law_salt"] : List Str).zip us) := match us, hl with | [_, _], _ => rfl
theorem m_def__law_any : (d__law_any : He.DefD) ∈ fnL := List.mem_of_getElem? (i := 43) rfl
theorem bi__law_any (kV doc pm : Value) (an : Option Addr) (cdv ct : Value) (us : List Value) (hl : us.length = 2) : bindArgs (PySem.W.fnOf "_law_any" "_law_any" (defArgs s__law_any) (defBody s__law_any) (defScope s__law_any) .none kV doc pm an cdv ct) ⟨us, []⟩ = pure ((["_law_deal", "_law_bound"] : List Str).zip us) := match us, hl with | [_, _], _ => rfl
theorem m_def__law_of : (d__law_of : He.DefD) ∈ fnL := List.mem_of_getElem? (i := 44) rfl
theorem bi__law_of (kV doc pm : Value) (an : Option Addr) (cdv ct : Value) (us : List Value) (hl : us.length = 2) : bindArgs (PySem.W.fnOf "_law_of" "_law_of" (defArgs s__law_of) (defBody s__law_of) (defScope s__law_of) .none kV doc pm an cdv ct) ⟨us, []⟩ = pure ((["_law_deal", "_law_some"] : List Str).zip us) := match us, hl with | [_, _], _ => rfl
theorem m_def__law_power : (d__law_power : He.DefD) ∈ fnL := List.mem_of_getElem? (i := 45) rfl
theorem bi__law_power (kV doc pm : Value) (an : Option Addr) (cdv ct : Value) (us : List Value) (hl : us.length = 1) : bindArgs (PySem.W.fnOf "_law_power" "_law_power" (defArgs s__law_power) (defBody s__law_power) (defScope s__law_power) .none kV doc pm an cdv ct) ⟨us, []⟩ = pure ((["_law_many"] : List Str).zip us) := match us, hl with | [_], _ => rfl
theorem m_def__law_number : (d__law_number : He.DefD) ∈ fnL := List.mem_of_getElem? (i := 46) rfl
theorem bi__law_number (kV doc pm : Value) (an : Option Addr) (cdv ct : Value) (us : List Value) (hl : us.length = 1) : bindArgs (PySem.W.fnOf "_law_number" "_law_number" (defArgs s__law_number) (defBody s__law_number) (defScope s__law_number) .none kV doc pm an cdv ct) ⟨us, []⟩ = pure ((["_law_deal"] : List Str).zip us) := match us, hl with | [_], _ => rfl
theorem m_def__law_small : (d__law_small : He.DefD) ∈ fnL := List.mem_of_getElem? (i := 47) rfl
theorem bi__law_small (kV doc pm : Value) (an : Option Addr) (cdv ct : Value) (us : List Value) (hl : us.length = 1) : bindArgs (PySem.W.fnOf "_law_small" "_law_small" (defArgs s__law_small) (defBody s__law_small) (defScope s__law_small) .none kV doc pm an cdv ct) ⟨us, []⟩ = pure ((["_law_deal"] : List Str).zip us) := match us, hl with | [_], _ => rfl
theorem m_def__law_names : (d__law_names : He.DefD) ∈ fnL := List.mem_of_getElem? (i := 48) rfl
theorem bi__law_names (kV doc pm : Value) (an : Option Addr) (cdv ct : Value) (us : List Value) (hl : us.length = 3) : bindArgs (PySem.W.fnOf "_law_names" "_law_names" (defArgs s__law_names) (defBody s__law_names) (defScope s__law_names) .none kV doc pm an cdv ct) ⟨us, []⟩ = pure ((["_law_deal", "_law_many", "_law_barred"] : List Str).zip us) := match us, hl with | [_, _, _], _ => rfl
theorem m_def__law_width : (d__law_width : He.DefD) ∈ fnL := List.mem_of_getElem? (i := 49) rfl
theorem bi__law_width (kV doc pm : Value) (an : Option Addr) (cdv ct : Value) (us : List Value) (hl : us.length = 1) : bindArgs (PySem.W.fnOf "_law_width" "_law_width" (defArgs s__law_width) (defBody s__law_width) (defScope s__law_width) .none kV doc pm an cdv ct) ⟨us, []⟩ = pure ((["_law_deal"] : List Str).zip us) := match us, hl with | [_], _ => rfl
theorem m_def__law_type : (d__law_type : He.DefD) ∈ fnL := List.mem_of_getElem? (i := 50) rfl
theorem bi__law_type (kV doc pm : Value) (an : Option Addr) (cdv ct : Value) (us : List Value) (hl : us.length = 1) : bindArgs (PySem.W.fnOf "_law_type" "_law_type" (defArgs s__law_type) (defBody s__law_type) (defScope s__law_type) .none kV doc pm an cdv ct) ⟨us, []⟩ = pure ((["_law_deal"] : List Str).zip us) := match us, hl with | [_], _ => rfl
theorem m_def__law_operand : (d__law_operand : He.DefD) ∈ fnL := List.mem_of_getElem? (i := 51) rfl
theorem bi__law_operand (kV doc pm : Value) (an : Option Addr) (cdv ct : Value) (us : List Value) (hl : us.length = 1) : bindArgs (PySem.W.fnOf "_law_operand" "_law_operand" (defArgs s__law_operand) (defBody s__law_operand) (defScope s__law_operand) .none kV doc pm an cdv ct) ⟨us, []⟩ = pure ((["_law_deal"] : List Str).zip us) := match us, hl with | [_], _ => rfl
theorem m_def__law_args : (d__law_args : He.DefD) ∈ fnL := List.mem_of_getElem? (i := 52) rfl
theorem bi__law_args (kV doc pm : Value) (an : Option Addr) (cdv ct : Value) (us : List Value) (hl : us.length = 2) : bindArgs (PySem.W.fnOf "_law_args" "_law_args" (defArgs s__law_args) (defBody s__law_args) (defScope s__law_args) .none kV doc pm an cdv ct) ⟨us, []⟩ = pure ((["_law_deal", "_law_many"] : List Str).zip us) := match us, hl with | [_, _], _ => rfl
theorem m_def__law_target : (d__law_target : He.DefD) ∈ fnL := List.mem_of_getElem? (i := 53) rfl
theorem bi__law_target (kV doc pm : Value) (an : Option Addr) (cdv ct : Value) (us : List Value) (hl : us.length = 1) : bindArgs (PySem.W.fnOf "_law_target" "_law_target" (defArgs s__law_target) (defBody s__law_target) (defScope s__law_target) .none kV doc pm an cdv ct) ⟨us, []⟩ = pure ((["_law_deal"] : List Str).zip us) := match us, hl with | [_], _ => rfl
theorem m_def__law_op : (d__law_op : He.DefD) ∈ fnL := List.mem_of_getElem? (i := 54) rfl
theorem bi__law_op (kV doc pm : Value) (an : Option Addr) (cdv ct : Value) (us : List Value) (hl : us.length = 1) : bindArgs (PySem.W.fnOf "_law_op" "_law_op" (defArgs s__law_op) (defBody s__law_op) (defScope s__law_op) .none kV doc pm an cdv ct) ⟨us, []⟩ = pure ((["_law_deal"] : List Str).zip us) := match us, hl with | [_], _ => rfl
theorem m_def__law_ending : (d__law_ending : He.DefD) ∈ fnL := List.mem_of_getElem? (i := 55) rfl
theorem bi__law_ending (kV doc pm : Value) (an : Option Addr) (cdv ct : Value) (us : List Value) (hl : us.length = 1) : bindArgs (PySem.W.fnOf "_law_ending" "_law_ending" (defArgs s__law_ending) (defBody s__law_ending) (defScope s__law_ending) .none kV doc pm an cdv ct) ⟨us, []⟩ = pure ((["_law_deal"] : List Str).zip us) := match us, hl with | [_], _ => rfl
theorem m_def__law_function : (d__law_function : He.DefD) ∈ fnL := List.mem_of_getElem? (i := 56) rfl
theorem bi__law_function (kV doc pm : Value) (an : Option Addr) (cdv ct : Value) (us : List Value) (hl : us.length = 2) : bindArgs (PySem.W.fnOf "_law_function" "_law_function" (defArgs s__law_function) (defBody s__law_function) (defScope s__law_function) .none kV doc pm an cdv ct) ⟨us, []⟩ = pure ((["_law_deal", "_law_name"] : List Str).zip us) := match us, hl with | [_, _], _ => rfl
theorem m_def__law_module : (d__law_module : He.DefD) ∈ fnL := List.mem_of_getElem? (i := 57) rfl
theorem bi__law_module (kV doc pm : Value) (an : Option Addr) (cdv ct : Value) (us : List Value) (hl : us.length = 1) : bindArgs (PySem.W.fnOf "_law_module" "_law_module" (defArgs s__law_module) (defBody s__law_module) (defScope s__law_module) .none kV doc pm an cdv ct) ⟨us, []⟩ = pure ((["_law_deal"] : List Str).zip us) := match us, hl with | [_], _ => rfl
theorem m_def__law_mark : (d__law_mark : He.DefD) ∈ fnL := List.mem_of_getElem? (i := 58) rfl
theorem bi__law_mark (kV doc pm : Value) (an : Option Addr) (cdv ct : Value) (us : List Value) (hl : us.length = 1) : bindArgs (PySem.W.fnOf "_law_mark" "_law_mark" (defArgs s__law_mark) (defBody s__law_mark) (defScope s__law_mark) .none kV doc pm an cdv ct) ⟨us, []⟩ = pure ((["_law_operand_here"] : List Str).zip us) := match us, hl with | [_], _ => rfl
theorem m_def__law_listed : (d__law_listed : He.DefD) ∈ fnL := List.mem_of_getElem? (i := 59) rfl
theorem bi__law_listed (kV doc pm : Value) (an : Option Addr) (cdv ct : Value) (us : List Value) (hl : us.length = 1) : bindArgs (PySem.W.fnOf "_law_listed" "_law_listed" (defArgs s__law_listed) (defBody s__law_listed) (defScope s__law_listed) .none kV doc pm an cdv ct) ⟨us, []⟩ = pure ((["_law_args_here"] : List Str).zip us) := match us, hl with | [_], _ => rfl
theorem m_def__law_goal : (d__law_goal : He.DefD) ∈ fnL := List.mem_of_getElem? (i := 60) rfl
theorem bi__law_goal (kV doc pm : Value) (an : Option Addr) (cdv ct : Value) (us : List Value) (hl : us.length = 1) : bindArgs (PySem.W.fnOf "_law_goal" "_law_goal" (defArgs s__law_goal) (defBody s__law_goal) (defScope s__law_goal) .none kV doc pm an cdv ct) ⟨us, []⟩ = pure ((["_law_target_here"] : List Str).zip us) := match us, hl with | [_], _ => rfl
theorem m_def__law_kind : (d__law_kind : He.DefD) ∈ fnL := List.mem_of_getElem? (i := 61) rfl
theorem bi__law_kind (kV doc pm : Value) (an : Option Addr) (cdv ct : Value) (us : List Value) (hl : us.length = 1) : bindArgs (PySem.W.fnOf "_law_kind" "_law_kind" (defArgs s__law_kind) (defBody s__law_kind) (defScope s__law_kind) .none kV doc pm an cdv ct) ⟨us, []⟩ = pure ((["_law_told"] : List Str).zip us) := match us, hl with | [_], _ => rfl
theorem m_def__law_op_text : (d__law_op_text : He.DefD) ∈ fnL := List.mem_of_getElem? (i := 62) rfl
theorem bi__law_op_text (kV doc pm : Value) (an : Option Addr) (cdv ct : Value) (us : List Value) (hl : us.length = 1) : bindArgs (PySem.W.fnOf "_law_op_text" "_law_op_text" (defArgs s__law_op_text) (defBody s__law_op_text) (defScope s__law_op_text) .none kV doc pm an cdv ct) ⟨us, []⟩ = pure ((["_law_op_here"] : List Str).zip us) := match us, hl with | [_], _ => rfl
theorem m_def__law_ending_text : (d__law_ending_text : He.DefD) ∈ fnL := List.mem_of_getElem? (i := 63) rfl
theorem bi__law_ending_text (kV doc pm : Value) (an : Option Addr) (cdv ct : Value) (us : List Value) (hl : us.length = 1) : bindArgs (PySem.W.fnOf "_law_ending_text" "_law_ending_text" (defArgs s__law_ending_text) (defBody s__law_ending_text) (defScope s__law_ending_text) .none kV doc pm an cdv ct) ⟨us, []⟩ = pure ((["_law_ending_here"] : List Str).zip us) := match us, hl with | [_], _ => rfl
theorem m_def__law_text : (d__law_text : He.DefD) ∈ fnL := List.mem_of_getElem? (i := 64) rfl
theorem bi__law_text (kV doc pm : Value) (an : Option Addr) (cdv ct : Value) (us : List Value) (hl : us.length = 1) : bindArgs (PySem.W.fnOf "_law_text" "_law_text" (defArgs s__law_text) (defBody s__law_text) (defScope s__law_text) .none kV doc pm an cdv ct) ⟨us, []⟩ = pure ((["_law_module_here"] : List Str).zip us) := match us, hl with | [_], _ => rfl
theorem m_def__law_words : (d__law_words : He.DefD) ∈ fnL := List.mem_of_getElem? (i := 65) rfl
theorem bi__law_words (kV doc pm : Value) (an : Option Addr) (cdv ct : Value) (us : List Value) (hl : us.length = 1) : bindArgs (PySem.W.fnOf "_law_words" "_law_words" (defArgs s__law_words) (defBody s__law_words) (defScope s__law_words) .none kV doc pm an cdv ct) ⟨us, []⟩ = pure ((["_law_text_here"] : List Str).zip us) := match us, hl with | [_], _ => rfl
theorem m_def__law_spread : (d__law_spread : He.DefD) ∈ fnL := List.mem_of_getElem? (i := 66) rfl
theorem bi__law_spread (kV doc pm : Value) (an : Option Addr) (cdv ct : Value) (us : List Value) (hl : us.length = 2) : bindArgs (PySem.W.fnOf "_law_spread" "_law_spread" (defArgs s__law_spread) (defBody s__law_spread) (defScope s__law_spread) .none kV doc pm an cdv ct) ⟨us, []⟩ = pure ((["_law_deal", "_law_words_here"] : List Str).zip us) := match us, hl with | [_, _], _ => rfl
theorem m_def__law_refusal : (d__law_refusal : He.DefD) ∈ fnL := List.mem_of_getElem? (i := 67) rfl
theorem bi__law_refusal (kV doc pm : Value) (an : Option Addr) (cdv ct : Value) (us : List Value) (hl : us.length = 1) : bindArgs (PySem.W.fnOf "_law_refusal" "_law_refusal" (defArgs s__law_refusal) (defBody s__law_refusal) (defScope s__law_refusal) .none kV doc pm an cdv ct) ⟨us, []⟩ = pure ((["_law_work"] : List Str).zip us) := match us, hl with | [_], _ => rfl
theorem m_def_law : (d_law : He.DefD) ∈ fnL := List.mem_of_getElem? (i := 68) rfl
theorem bi_law (kV doc pm : Value) (an : Option Addr) (cdv ct : Value) (us : List Value) (hl : us.length = 1) : bindArgs (PySem.W.fnOf "law" "law" (defArgs s_law) (defBody s_law) (defScope s_law) .none kV doc pm an cdv ct) ⟨us, []⟩ = pure ((["_law_script"] : List Str).zip us) := match us, hl with | [_], _ => rfl
abbrev n_is_name : List Str := ["value", "sign"]
theorem sc_is_name : FnScope n_is_name ["value"] (defScope s_is_name) := ⟨rfl, rfl, rfl, by decide +kernel, rfl, by decide +kernel, by decide +kernel⟩
abbrev n_run_end : List Str := ["text", "at"]
theorem sc_run_end : FnScope n_run_end ["text", "at"] (defScope s_run_end) := ⟨rfl, rfl, rfl, by decide +kernel, rfl, by decide +kernel, by decide +kernel⟩
abbrev n_token_end : List Str := ["text", "at", "begin", "end"]
theorem sc_token_end : FnScope n_token_end ["text", "at"] (defScope s_token_end) := ⟨rfl, rfl, rfl, by decide +kernel, rfl, by decide +kernel, by decide +kernel⟩
abbrev n_scanned : List Str := ["text", "found", "at", "end"]
theorem sc_scanned : FnScope n_scanned ["text"] (defScope s_scanned) := ⟨rfl, rfl, rfl, by decide +kernel, rfl, by decide +kernel, by decide +kernel⟩
abbrev n_number_of : List Str := ["word", "bound", "sign"]
theorem sc_number_of : FnScope n_number_of ["word", "bound"] (defScope s_number_of) := ⟨rfl, rfl, rfl, by decide +kernel, rfl, by decide +kernel, by decide +kernel⟩
abbrev n_Reader_init : List Str := ["self", "text", "found", "wrong"]
theorem sc_Reader_init : FnScope n_Reader_init ["self", "text"] (defScope s_Reader_init) := ⟨rfl, rfl, rfl, by decide +kernel, rfl, by decide +kernel, by decide +kernel⟩
abbrev n_Reader_word : List Str := ["self"]
theorem sc_Reader_word : FnScope n_Reader_word ["self"] (defScope s_Reader_word) := ⟨rfl, rfl, rfl, by decide +kernel, rfl, by decide +kernel, by decide +kernel⟩
abbrev n_Reader_need : List Str := ["self", "word"]
theorem sc_Reader_need : FnScope n_Reader_need ["self", "word"] (defScope s_Reader_need) := ⟨rfl, rfl, rfl, by decide +kernel, rfl, by decide +kernel, by decide +kernel⟩
abbrev n_Reader_one_of : List Str := ["self", "pairs", "word", "one", "told"]
theorem sc_Reader_one_of : FnScope n_Reader_one_of ["self", "pairs"] (defScope s_Reader_one_of) := ⟨rfl, rfl, rfl, by decide +kernel, rfl, by decide +kernel, by decide +kernel⟩
abbrev n_Reader_number : List Str := ["self", "mark", "bound", "word", "found"]
theorem sc_Reader_number : FnScope n_Reader_number ["self", "mark", "bound"] (defScope s_Reader_number) := ⟨rfl, rfl, rfl, by decide +kernel, rfl, by decide +kernel, by decide +kernel⟩
abbrev n_Reader_name : List Str := ["self", "word"]
theorem sc_Reader_name : FnScope n_Reader_name ["self"] (defScope s_Reader_name) := ⟨rfl, rfl, rfl, by decide +kernel, rfl, by decide +kernel, by decide +kernel⟩
abbrev n_Reader_close : List Str := ["self"]
theorem sc_Reader_close : FnScope n_Reader_close ["self"] (defScope s_Reader_close) := ⟨rfl, rfl, rfl, by decide +kernel, rfl, by decide +kernel, by decide +kernel⟩
abbrev n_read_operand : List Str := ["reader", "mark"]
theorem sc_read_operand : FnScope n_read_operand ["reader"] (defScope s_read_operand) := ⟨rfl, rfl, rfl, by decide +kernel, rfl, by decide +kernel, by decide +kernel⟩
abbrev n_read_list : List Str := ["reader", "open_sign", "close_sign", "read_one", "found"]
theorem sc_read_list : FnScope n_read_list ["reader", "open_sign", "close_sign", "read_one"] (defScope s_read_list) := ⟨rfl, rfl, rfl, by decide +kernel, rfl, by decide +kernel, by decide +kernel⟩
abbrev n_read_args : List Str := ["reader", "many", "found"]
theorem sc_read_args : FnScope n_read_args ["reader", "many"] (defScope s_read_args) := ⟨rfl, rfl, rfl, by decide +kernel, rfl, by decide +kernel, by decide +kernel⟩
abbrev n_read_target : List Str := ["reader", "label"]
theorem sc_read_target : FnScope n_read_target ["reader"] (defScope s_read_target) := ⟨rfl, rfl, rfl, by decide +kernel, rfl, by decide +kernel, by decide +kernel⟩
abbrev n_read_call : List Str := ["reader", "made", "name"]
theorem sc_read_call : FnScope n_read_call ["reader", "made"] (defScope s_read_call) := ⟨rfl, rfl, rfl, by decide +kernel, rfl, by decide +kernel, by decide +kernel⟩
abbrev n_read_cast : List Str := ["reader", "made", "kind", "width", "args"]
theorem sc_read_cast : FnScope n_read_cast ["reader", "made", "kind"] (defScope s_read_cast) := ⟨rfl, rfl, rfl, by decide +kernel, rfl, by decide +kernel, by decide +kernel⟩
abbrev n_read_alloca : List Str := ["reader", "made", "width"]
theorem sc_read_alloca : FnScope n_read_alloca ["reader", "made"] (defScope s_read_alloca) := ⟨rfl, rfl, rfl, by decide +kernel, rfl, by decide +kernel, by decide +kernel⟩
abbrev n_read_deed : List Str := ["reader", "made", "word", "pred", "told"]
theorem sc_read_deed : FnScope n_read_deed ["reader", "made"] (defScope s_read_deed) := ⟨rfl, rfl, rfl, by decide +kernel, rfl, by decide +kernel, by decide +kernel⟩
abbrev n_read_any_op : List Str := ["reader", "word", "width", "made"]
theorem sc_read_any_op : FnScope n_read_any_op ["reader"] (defScope s_read_any_op) := ⟨rfl, rfl, rfl, by decide +kernel, rfl, by decide +kernel, by decide +kernel⟩
abbrev n_read_ending : List Str := ["reader", "word", "told", "first", "mark"]
theorem sc_read_ending : FnScope n_read_ending ["reader"] (defScope s_read_ending) := ⟨rfl, rfl, rfl, by decide +kernel, rfl, by decide +kernel, by decide +kernel⟩
abbrev n_read_param : List Str := ["reader", "told"]
theorem sc_read_param : FnScope n_read_param ["reader"] (defScope s_read_param) := ⟨rfl, rfl, rfl, by decide +kernel, rfl, by decide +kernel, by decide +kernel⟩
abbrev n_read_type : List Str := ["reader"]
theorem sc_read_type : FnScope n_read_type ["reader"] (defScope s_read_type) := ⟨rfl, rfl, rfl, by decide +kernel, rfl, by decide +kernel, by decide +kernel⟩
abbrev n_read_block : List Str := ["reader", "label", "params", "ops"]
theorem sc_read_block : FnScope n_read_block ["reader"] (defScope s_read_block) := ⟨rfl, rfl, rfl, by decide +kernel, rfl, by decide +kernel, by decide +kernel⟩
abbrev n_read_new_name : List Str := ["reader", "last", "barred", "word"]
theorem sc_read_new_name : FnScope n_read_new_name ["reader", "last", "barred"] (defScope s_read_new_name) := ⟨rfl, rfl, rfl, by decide +kernel, rfl, by decide +kernel, by decide +kernel⟩
abbrev n_read_global : List Str := ["reader", "last", "name", "width", "cells"]
theorem sc_read_global : FnScope n_read_global ["reader", "last"] (defScope s_read_global) := ⟨rfl, rfl, rfl, by decide +kernel, rfl, by decide +kernel, by decide +kernel⟩
abbrev n_read_function : List Str := ["reader", "last", "barred", "result", "name", "params", "blocks"]
theorem sc_read_function : FnScope n_read_function ["reader", "last", "barred"] (defScope s_read_function) := ⟨rfl, rfl, rfl, by decide +kernel, rfl, by decide +kernel, by decide +kernel⟩
abbrev n_read_op : List Str := ["text", "reader", "found"]
theorem sc_read_op : FnScope n_read_op ["text"] (defScope s_read_op) := ⟨rfl, rfl, rfl, by decide +kernel, rfl, by decide +kernel, by decide +kernel⟩
abbrev n_read_module : List Str := ["text", "reader", "globals_told", "functions", "last", "names", "one"]
theorem sc_read_module : FnScope n_read_module ["text"] (defScope s_read_module) := ⟨rfl, rfl, rfl, by decide +kernel, rfl, by decide +kernel, by decide +kernel⟩
abbrev n_type_text : List Str := ["told"]
theorem sc_type_text : FnScope n_type_text ["told"] (defScope s_type_text) := ⟨rfl, rfl, rfl, by decide +kernel, rfl, by decide +kernel, by decide +kernel⟩
abbrev n_operand_text : List Str := ["operand", "marks"]
theorem sc_operand_text : FnScope n_operand_text ["operand"] (defScope s_operand_text) := ⟨rfl, rfl, rfl, by decide +kernel, rfl, by decide +kernel, by decide +kernel⟩
abbrev n_args_text : List Str := ["args", "one"]
theorem sc_args_text : FnScope n_args_text ["args"] (defScope s_args_text) := ⟨rfl, rfl, rfl, by decide +kernel, rfl, by decide +kernel, by decide +kernel⟩
abbrev n_target_text : List Str := ["target"]
theorem sc_target_text : FnScope n_target_text ["target"] (defScope s_target_text) := ⟨rfl, rfl, rfl, by decide +kernel, rfl, by decide +kernel, by decide +kernel⟩
abbrev n_head_text : List Str := ["kind", "info"]
theorem sc_head_text : FnScope n_head_text ["kind", "info"] (defScope s_head_text) := ⟨rfl, rfl, rfl, by decide +kernel, rfl, by decide +kernel, by decide +kernel⟩
abbrev n_deed_text : List Str := ["kind", "info", "args", "head"]
theorem sc_deed_text : FnScope n_deed_text ["kind", "info", "args"] (defScope s_deed_text) := ⟨rfl, rfl, rfl, by decide +kernel, rfl, by decide +kernel, by decide +kernel⟩
abbrev n_op_text : List Str := ["op", "made", "kind", "info", "args", "deed"]
theorem sc_op_text : FnScope n_op_text ["op"] (defScope s_op_text) := ⟨rfl, rfl, rfl, by decide +kernel, rfl, by decide +kernel, by decide +kernel⟩
abbrev n_ending_text : List Str := ["ending"]
theorem sc_ending_text : FnScope n_ending_text ["ending"] (defScope s_ending_text) := ⟨rfl, rfl, rfl, by decide +kernel, rfl, by decide +kernel, by decide +kernel⟩
abbrev n_global_line : List Str := ["one", "name", "width", "size", "cells", "cell"]
theorem sc_global_line : FnScope n_global_line ["one"] (defScope s_global_line) := ⟨rfl, rfl, rfl, by decide +kernel, rfl, by decide +kernel, by decide +kernel⟩
abbrev n_block_lines : List Str := ["block", "label", "params", "ops", "ending", "told", "value", "kind", "lines", "op"]
theorem sc_block_lines : FnScope n_block_lines ["block"] (defScope s_block_lines) := ⟨rfl, rfl, rfl, by decide +kernel, rfl, by decide +kernel, by decide +kernel⟩
abbrev n_function_lines : List Str := ["function", "name", "params", "result", "blocks", "told", "lines", "one", "block"]
theorem sc_function_lines : FnScope n_function_lines ["function"] (defScope s_function_lines) := ⟨rfl, rfl, rfl, by decide +kernel, rfl, by decide +kernel, by decide +kernel⟩
abbrev n_module_text : List Str := ["module", "lines", "one", "function"]
theorem sc_module_text : FnScope n_module_text ["module"] (defScope s_module_text) := ⟨rfl, rfl, rfl, by decide +kernel, rfl, by decide +kernel, by decide +kernel⟩
abbrev n__law_draw : List Str := ["_law_script", "_law_salt", "_law_cells", "_law_cell", "_law_blend"]
theorem sc__law_draw : FnScope n__law_draw ["_law_script", "_law_salt"] (defScope s__law_draw) := ⟨rfl, rfl, rfl, by decide +kernel, rfl, by decide +kernel, by decide +kernel⟩
abbrev n__law_any : List Str := ["_law_deal", "_law_bound", "_law_rest"]
theorem sc__law_any : FnScope n__law_any ["_law_deal", "_law_bound"] (defScope s__law_any) := ⟨rfl, rfl, rfl, by decide +kernel, rfl, by decide +kernel, by decide +kernel⟩
abbrev n__law_of : List Str := ["_law_deal", "_law_some"]
theorem sc__law_of : FnScope n__law_of ["_law_deal", "_law_some"] (defScope s__law_of) := ⟨rfl, rfl, rfl, by decide +kernel, rfl, by decide +kernel, by decide +kernel⟩
abbrev n__law_power : List Str := ["_law_many"]
theorem sc__law_power : FnScope n__law_power ["_law_many"] (defScope s__law_power) := ⟨rfl, rfl, rfl, by decide +kernel, rfl, by decide +kernel, by decide +kernel⟩
abbrev n__law_number : List Str := ["_law_deal"]
theorem sc__law_number : FnScope n__law_number ["_law_deal"] (defScope s__law_number) := ⟨rfl, rfl, rfl, by decide +kernel, rfl, by decide +kernel, by decide +kernel⟩
abbrev n__law_small : List Str := ["_law_deal"]
theorem sc__law_small : FnScope n__law_small ["_law_deal"] (defScope s__law_small) := ⟨rfl, rfl, rfl, by decide +kernel, rfl, by decide +kernel, by decide +kernel⟩
abbrev n__law_names : List Str := ["_law_deal", "_law_many", "_law_barred", "_law_some", "_law_found", "_law_turn", "_law_name"]
theorem sc__law_names : FnScope n__law_names ["_law_deal", "_law_many", "_law_barred"] (defScope s__law_names) := ⟨rfl, rfl, rfl, by decide +kernel, rfl, by decide +kernel, by decide +kernel⟩
abbrev n__law_width : List Str := ["_law_deal"]
theorem sc__law_width : FnScope n__law_width ["_law_deal"] (defScope s__law_width) := ⟨rfl, rfl, rfl, by decide +kernel, rfl, by decide +kernel, by decide +kernel⟩
abbrev n__law_type : List Str := ["_law_deal"]
theorem sc__law_type : FnScope n__law_type ["_law_deal"] (defScope s__law_type) := ⟨rfl, rfl, rfl, by decide +kernel, rfl, by decide +kernel, by decide +kernel⟩
abbrev n__law_operand : List Str := ["_law_deal", "_law_form"]
theorem sc__law_operand : FnScope n__law_operand ["_law_deal"] (defScope s__law_operand) := ⟨rfl, rfl, rfl, by decide +kernel, rfl, by decide +kernel, by decide +kernel⟩
abbrev n__law_args : List Str := ["_law_deal", "_law_many", "_law_turn"]
theorem sc__law_args : FnScope n__law_args ["_law_deal", "_law_many"] (defScope s__law_args) := ⟨rfl, rfl, rfl, by decide +kernel, rfl, by decide +kernel, by decide +kernel⟩
abbrev n__law_target : List Str := ["_law_deal"]
theorem sc__law_target : FnScope n__law_target ["_law_deal"] (defScope s__law_target) := ⟨rfl, rfl, rfl, by decide +kernel, rfl, by decide +kernel, by decide +kernel⟩
abbrev n__law_op : List Str := ["_law_deal", "_law_made", "_law_w", "_law_form", "_law_ops"]
theorem sc__law_op : FnScope n__law_op ["_law_deal"] (defScope s__law_op) := ⟨rfl, rfl, rfl, by decide +kernel, rfl, by decide +kernel, by decide +kernel⟩
abbrev n__law_ending : List Str := ["_law_deal", "_law_form"]
theorem sc__law_ending : FnScope n__law_ending ["_law_deal"] (defScope s__law_ending) := ⟨rfl, rfl, rfl, by decide +kernel, rfl, by decide +kernel, by decide +kernel⟩
abbrev n__law_function : List Str := ["_law_deal", "_law_name", "_law_blocks", "_law_turn", "_law_params", "_law_one", "_law_ops"]
theorem sc__law_function : FnScope n__law_function ["_law_deal", "_law_name"] (defScope s__law_function) := ⟨rfl, rfl, rfl, by decide +kernel, rfl, by decide +kernel, by decide +kernel⟩
abbrev n__law_module : List Str := ["_law_deal", "_law_found", "_law_name", "_law_w", "_law_many", "_law_cells", "_law_turn", "_law_names_here", "_law_one"]
theorem sc__law_module : FnScope n__law_module ["_law_deal"] (defScope s__law_module) := ⟨rfl, rfl, rfl, by decide +kernel, rfl, by decide +kernel, by decide +kernel⟩
abbrev n__law_mark : List Str := ["_law_operand_here"]
theorem sc__law_mark : FnScope n__law_mark ["_law_operand_here"] (defScope s__law_mark) := ⟨rfl, rfl, rfl, by decide +kernel, rfl, by decide +kernel, by decide +kernel⟩
abbrev n__law_listed : List Str := ["_law_args_here", "_law_one"]
theorem sc__law_listed : FnScope n__law_listed ["_law_args_here"] (defScope s__law_listed) := ⟨rfl, rfl, rfl, by decide +kernel, rfl, by decide +kernel, by decide +kernel⟩
abbrev n__law_goal : List Str := ["_law_target_here"]
theorem sc__law_goal : FnScope n__law_goal ["_law_target_here"] (defScope s__law_goal) := ⟨rfl, rfl, rfl, by decide +kernel, rfl, by decide +kernel, by decide +kernel⟩
abbrev n__law_kind : List Str := ["_law_told"]
theorem sc__law_kind : FnScope n__law_kind ["_law_told"] (defScope s__law_kind) := ⟨rfl, rfl, rfl, by decide +kernel, rfl, by decide +kernel, by decide +kernel⟩
abbrev n__law_op_text : List Str := ["_law_op_here", "_law_made", "_law_kind_here", "_law_info", "_law_args_here", "_law_head"]
theorem sc__law_op_text : FnScope n__law_op_text ["_law_op_here"] (defScope s__law_op_text) := ⟨rfl, rfl, rfl, by decide +kernel, rfl, by decide +kernel, by decide +kernel⟩
abbrev n__law_ending_text : List Str := ["_law_ending_here"]
theorem sc__law_ending_text : FnScope n__law_ending_text ["_law_ending_here"] (defScope s__law_ending_text) := ⟨rfl, rfl, rfl, by decide +kernel, rfl, by decide +kernel, by decide +kernel⟩
abbrev n__law_text : List Str := ["_law_module_here", "_law_lines", "_law_name", "_law_w", "_law_many", "_law_cells", "_law_cell", "_law_params", "_law_result", "_law_blocks", "_law_head", "_law_one", "_law_label", "_law_told", "_law_ops", "_law_ending_here", "_law_some", "_law_value", "_law_op_here"]
theorem sc__law_text : FnScope n__law_text ["_law_module_here"] (defScope s__law_text) := ⟨rfl, rfl, rfl, by decide +kernel, rfl, by decide +kernel, by decide +kernel⟩
abbrev n__law_words : List Str := ["_law_text_here", "_law_sign"]
theorem sc__law_words : FnScope n__law_words ["_law_text_here"] (defScope s__law_words) := ⟨rfl, rfl, rfl, by decide +kernel, rfl, by decide +kernel, by decide +kernel⟩
abbrev n__law_spread : List Str := ["_law_deal", "_law_words_here", "_law_text_here", "_law_places", "_law_at", "_law_word", "_law_near"]
theorem sc__law_spread : FnScope n__law_spread ["_law_deal", "_law_words_here"] (defScope s__law_spread) := ⟨rfl, rfl, rfl, by decide +kernel, rfl, by decide +kernel, by decide +kernel⟩
abbrev n__law_refusal : List Str := ["_law_work", "wrong"]
theorem sc__law_refusal : FnScope n__law_refusal ["_law_work"] (defScope s__law_refusal) := ⟨rfl, rfl, rfl, by decide +kernel, rfl, by decide +kernel, by decide +kernel⟩
abbrev n_law : List Str := ["_law_script", "_law_deal", "_law_turn", "_law_module_here", "_law_text_here", "_law_spread_here", "_law_other", "_law_op_here", "_law_ending_here"]
theorem sc_law : FnScope n_law ["_law_script"] (defScope s_law) := ⟨rfl, rfl, rfl, by decide +kernel, rfl, by decide +kernel, by decide +kernel⟩
end K6
/-! K6P: the data as Python's: may be laid, shown, compared. -/
namespace K6
open PySem L2
structure Good (k b : Nat) (d : PyData) : Prop where
  lay : d.canLay0 = true
  dep : d.depth ≤ k
  shw : d.showable = true
  lea : d.leavesShort 20 = true
  blk : d.bulk ≤ b
theorem Good.mono {k b k' b' : Nat} {d : PyData} (h : Good k b d) (hk : k ≤ k') (hb : b ≤ b') : Good k' b' d := ⟨h.lay, Nat.le_trans h.dep hk, h.shw, h.lea, Nat.le_trans h.blk hb⟩
theorem good_none {k b : Nat} : Good k b .none := ⟨rfl, Nat.zero_le _, rfl, rfl, Nat.zero_le _⟩
theorem good_nt {k b n : Nat} (h : n < 2 ^ 64) : Good k b (nt n) := by
  have hl : n.log2 < 1920 := by
    by_cases h0 : n = 0
    · rw [h0]
      decide
    · exact Nat.lt_trans ((Nat.log2_lt h0).mpr h) (by decide)
  refine ⟨rfl, Nat.zero_le _, ?_, ?_, Nat.zero_le _⟩
  · show decide (((n : Int).natAbs.log2) < 1920) = true
    rw [Int.natAbs_natCast]
    exact decide_eq_true hl
  · show decide ((Str.ofString (toString (n : Int))).length ≤ 20) = true
    rw [SX.num_S, SX.S_len]
    exact decide_eq_true (Nat.le_trans (TL.numL_len (k := 20) (by decide) (Nat.lt_of_lt_of_le h (by decide))) (Nat.le_refl _))
theorem good_tx {k b : Nat} {l : Tx} (hb : l.length ≤ b) (h : ∀ c ∈ l, c < 128) : Good k b (tx l) := by
  refine ⟨?_, Nat.zero_le _, rfl, ?_, ?_⟩
  · simp only [PyData.canLay0, PyData.strOk, SX.S, Array.all_eq_true', List.mem_toArray]
    intro c hc
    exact decide_eq_true (Nat.lt_trans (h c hc) (by decide))
  · simp only [PyData.leavesShort, SX.S, List.all_eq_true]
    intro c hc
    exact decide_eq_true (Nat.lt_trans (h c hc) (by decide))
  · show (SX.S l).cps.size ≤ b
    simpa [SX.S] using hb
theorem good_lit {k : Nat} {l : Tx} (h : l.all (fun c => decide (c < 128)) = true) (hb : (decide (l.length ≤ 6)) = true) : Good k 6 (tx l) := good_tx (of_decide_eq_true hb) fun c hc => of_decide_eq_true (List.all_eq_true.mp h c hc)
theorem good_mem {k : Nat} {l : Tx} {L : List Tx} (hl : l ∈ L) (h : L.all (fun l => l.all (fun c => decide (c < 128)) && decide (l.length ≤ 6)) = true) : Good k 6 (tx l) := by
  have := List.all_eq_true.mp h l hl
  rw [Bool.and_eq_true] at this
  exact good_lit this.1 this.2
theorem good_name {k : Nat} {x : Tx} (h : NameOk x) : Good k 6 (tx x) := good_tx (Nat.le_trans h.len (by decide)) fun c hc => of_decide_eq_true (wd_all (P := fun c => decide (c < 128)) (by decide) (h.wd c hc))
theorem good_tup {k b n : Nat} : ∀ {xs : List PyData}, xs.length ≤ n → (∀ x ∈ xs, Good k b x) → Good (k + 1) ((b + 1) * n) (.tuple xs) := by
  intro xs hn h
  suffices g : PyData.canLayAll0 xs = true ∧ PyData.depthAll xs ≤ k ∧ PyData.showableAll xs = true ∧ PyData.leavesShortAll 20 xs = true ∧ PyData.bulkAll xs ≤ (b + 1) * xs.length by
    refine ⟨by simpa [PyData.canLay0] using g.1, ?_, by simpa [PyData.showable] using g.2.2.1, by simpa [PyData.leavesShort] using g.2.2.2.1, ?_⟩
    · simp only [PyData.depth]
      exact Nat.succ_le_succ g.2.1
    · simp only [PyData.bulk]
      exact Nat.le_trans g.2.2.2.2 (Nat.mul_le_mul_left _ hn)
  clear hn
  induction xs with
  | nil => exact ⟨rfl, Nat.zero_le _, rfl, rfl, Nat.zero_le _⟩
  | cons x xs ih =>
    have h1 := h x List.mem_cons_self
    obtain ⟨g1, g2, g3, g4, g5⟩ := ih fun y hy => h y (List.mem_cons_of_mem _ hy)
    refine ⟨?_, ?_, ?_, ?_, ?_⟩
    · simp only [PyData.canLayAll0, h1.lay, g1, Bool.and_self]
    · simp only [PyData.depthAll]
      exact Nat.max_le.mpr ⟨h1.dep, g2⟩
    · simp only [PyData.showableAll, h1.shw, g3, Bool.and_self]
    · simp only [PyData.leavesShortAll, h1.lea, g4, Bool.and_self]
    · have := h1.blk
      simp only [PyData.bulkAll, List.length_cons, Nat.mul_add]
      omega
theorem good_all {k b : Nat} {x : PyData} {xs : List PyData} (h : Good k b x) (hs : ∀ y ∈ xs, Good k b y) : ∀ y ∈ x :: xs, Good k b y := fun y hy => by
  rcases List.mem_cons.mp hy with rfl | hy
  · exact h
  · exact hs y hy
theorem good_nil {k b : Nat} : ∀ y ∈ ([] : List PyData), Good k b y := fun y hy => by cases hy
theorem good_map {α : Type} {f : α → PyData} {k b n : Nat} {l : List α} (hn : l.length ≤ n) (h : ∀ a ∈ l, Good k b (f a)) : Good (k + 1) ((b + 1) * n) (.tuple (l.map f)) := good_tup (by rw [List.length_map]; exact hn) fun x hx => by
  obtain ⟨a, ha, rfl⟩ := List.mem_map.mp hx
  exact h a ha
theorem good_wd {k b n : Nat} (h : WdOk n) : Good k b (nt n) := good_nt (by
  have h' : n = 1 ∨ n = 8 ∨ n = 16 ∨ n = 32 ∨ n = 64 := by simpa [WdOk] using h
  omega)
theorem good_ty {k : Nat} {t : Ty} (h : TyOk t) : Good k 6 t.py := by
  cases t with
  | w n => exact good_wd h
  | ptr => exact good_lit (by decide) (by decide)
theorem good_opd {o : Opd} (h : OpdOk o) : Good 1 14 o.py := by
  cases o with
  | v i => exact good_tup (n := 2) (b := 6) (by show 2 ≤ 2; omega) (good_all (good_lit (by decide) (by decide)) (good_all (good_nt h) good_nil))
  | n i => exact good_tup (n := 2) (b := 6) (by show 2 ≤ 2; omega) (good_all (good_lit (by decide) (by decide)) (good_all (good_nt h) good_nil))
  | g x => exact good_tup (n := 2) (b := 6) (by show 2 ≤ 2; omega) (good_all (good_lit (by decide) (by decide)) (good_all (good_name h) good_nil))
theorem good_args {l : List Opd} (h : ArgsOk 3 l) : Good 2 45 (argsPy l) := good_map (n := 3) h.1 fun o ho => good_opd (h.2 o ho)
theorem good_tgt {t : Tgt} (h : TgtOk t) : Good 3 92 t.py := good_tup (n := 2) (b := 45) (by show 2 ≤ 2; omega) (good_all (good_nt h.lab) (good_all (good_args ⟨Nat.le_trans h.args.1 (by decide), h.args.2⟩) good_nil))
theorem good_end {o : End} (h : EndOk o) : Good 4 372 o.py := by
  cases o with
  | jump t => exact good_tup (n := 4) (b := 92) (by show 2 ≤ 4; omega) (good_all ((good_lit (k := 0) (by decide) (by decide)).mono (by decide) (by decide)) (good_all (good_tgt h) good_nil))
  | branch c s t => exact good_tup (n := 4) (b := 92) (by show 4 ≤ 4; omega) (good_all ((good_lit (k := 0) (by decide) (by decide)).mono (by decide) (by decide)) (good_all ((good_opd h.1).mono (by decide) (by decide)) (good_all (good_tgt h.2.1) (good_all (good_tgt h.2.2) good_nil))))
  | ret o =>
    cases o with
    | none => exact good_tup (n := 4) (b := 92) (by show 2 ≤ 4; omega) (good_all ((good_lit (k := 0) (by decide) (by decide)).mono (by decide) (by decide)) (good_all good_none good_nil))
    | some o => exact good_tup (n := 4) (b := 92) (by show 2 ≤ 4; omega) (good_all ((good_lit (k := 0) (by decide) (by decide)).mono (by decide) (by decide)) (good_all ((good_opd h).mono (by decide) (by decide)) good_nil))
  | stop => exact good_tup (n := 4) (b := 92) (by show 1 ≤ 4; omega) (good_all ((good_lit (k := 0) (by decide) (by decide)).mono (by decide) (by decide)) good_nil)
theorem good_opt {k b : Nat} {o : Option Nat} (h : OptOk o) : Good k b (optPy o) := by
  cases o with
  | none => exact good_none
  | some n => exact good_nt h
theorem good_info {o : Op} (h : OpOk o) : Good 1 21 (.tuple o.info) := by
  cases o with
  | bin x op w a b => exact good_tup (n := 3) (b := 6) (by show 2 ≤ 3; omega) (good_all (good_mem h.2.1 (by decide)) (good_all (good_wd h.2.2.1) good_nil))
  | cmp x pr w a b => exact good_tup (n := 3) (b := 6) (by show 2 ≤ 3; omega) (good_all (good_mem h.2.1 (by decide)) (good_all (good_wd h.2.2.1) good_nil))
  | sel x t c a b => exact good_tup (n := 3) (b := 6) (by show 1 ≤ 3; omega) (good_all (good_ty h.2.1) good_nil)
  | cast x kd v w a => exact good_tup (n := 3) (b := 6) (by show 3 ≤ 3; omega) (good_all (good_mem h.2.1 (by decide)) (good_all (good_wd h.2.2.1) (good_all (good_wd h.2.2.2.1) good_nil)))
  | alloca x w size => exact good_tup (n := 3) (b := 6) (by show 2 ≤ 3; omega) (good_all (good_wd h.2.1) (good_all (good_nt h.2.2) good_nil))
  | mem x kd w args => exact good_tup (n := 3) (b := 6) (by show 1 ≤ 3; omega) (good_all (good_wd h.2.2.1) good_nil)
  | call x name args => exact good_tup (n := 3) (b := 6) (by show 1 ≤ 3; omega) (good_all (good_name h.2.1) good_nil)
theorem mem_kind {x : Option Nat} {kd : Tx} {args : List Opd} (h : (kd, x.isSome, args.length) ∈ memL) :
    (kd = kAt ∧ x.isSome = true ∧ args.length = 2) ∨ (kd = kLoad ∧ x.isSome = true ∧ args.length = 1) ∨ (kd = kStore ∧ x.isSome = false ∧ args.length = 2) ∨ (kd = kPrint ∧ x.isSome = false ∧ args.length = 1) ∨ (kd = kInput ∧ x.isSome = true ∧ args.length = 0) := by
  simpa [memL] using h
theorem mem_kd {x : Option Nat} {kd : Tx} {args : List Opd} (h : (kd, x.isSome, args.length) ∈ memL) : kd ∈ [kAt, kLoad, kStore, kPrint, kInput] ∧ args.length ≤ 2 := by
  rcases mem_kind h with ⟨rfl, _, h⟩ | ⟨rfl, _, h⟩ | ⟨rfl, _, h⟩ | ⟨rfl, _, h⟩ | ⟨rfl, _, h⟩ <;> exact ⟨by decide, by omega⟩
theorem op_args {o : Op} (h : OpOk o) : ArgsOk 3 o.args := by
  cases o with
  | bin x op w a b => exact ⟨(by decide : 2 ≤ 3), fun o m => by
      rcases List.mem_cons.mp m with rfl | m
      · exact h.2.2.2.1
      · rw [List.mem_singleton.mp m]
        exact h.2.2.2.2⟩
  | cmp x pr w a b => exact ⟨(by decide : 2 ≤ 3), fun o m => by
      rcases List.mem_cons.mp m with rfl | m
      · exact h.2.2.2.1
      · rw [List.mem_singleton.mp m]
        exact h.2.2.2.2⟩
  | sel x t c a b => exact ⟨(by decide : 3 ≤ 3), fun o m => by
      rcases List.mem_cons.mp m with rfl | m
      · exact h.2.2.1
      rcases List.mem_cons.mp m with rfl | m
      · exact h.2.2.2.1
      · rw [List.mem_singleton.mp m]
        exact h.2.2.2.2⟩
  | cast x kd v w a => exact ⟨(by decide : 1 ≤ 3), fun o m => by
      rw [List.mem_singleton.mp m]
      exact h.2.2.2.2⟩
  | alloca x w size => exact ⟨(by decide : 0 ≤ 3), fun o m => by cases m⟩
  | mem x kd w args => exact ⟨Nat.le_trans (mem_kd h.2.1).2 (by decide), h.2.2.2⟩
  | call x name args => exact h.2.2
theorem op_made {o : Op} (h : OpOk o) : OptOk o.made := by
  cases o with
  | bin x op w a b => exact h.1
  | cmp x pr w a b => exact h.1
  | sel x t c a b => exact h.1
  | cast x kd v w a => exact h.1
  | alloca x w size => exact h.1
  | mem x kd w args => exact h.1
  | call x name args => exact h.1
theorem op_kind {o : Op} (h : OpOk o) : o.kind ∈ [kBin, kCmp, kSel, kCast, kAlloca, kAt, kLoad, kStore, kPrint, kInput, kCall] := by
  cases o with
  | mem x kd w args =>
    have := (mem_kd h.2.1).1
    simp only [Op.kind, List.mem_cons] at this ⊢
    simp [this]
    rcases this with h | h | h | h | h | h
    · simp [h]
    · simp [h]
    · simp [h]
    · simp [h]
    · simp [h]
    · cases h
  | bin x op w a b => simp [Op.kind]
  | cmp x pr w a b => simp [Op.kind]
  | sel x t c a b => simp [Op.kind]
  | cast x kd v w a => simp [Op.kind]
  | alloca x w size => simp [Op.kind]
  | call x name args => simp [Op.kind]
theorem good_op {o : Op} (h : OpOk o) : Good 3 184 o.py := good_tup (n := 4) (b := 45) (by show 4 ≤ 4; omega) (good_all (good_opt (op_made h)) (good_all ((good_mem (k := 0) (op_kind h) (by decide)).mono (by decide) (by decide)) (good_all ((good_info h).mono (by decide) (by decide)) (good_all (good_args (op_args h)) good_nil))))
theorem good_par {p : Nat × Ty} (h : NumOk p.1 ∧ TyOk p.2) : Good 1 14 (parPy p) := good_tup (n := 2) (b := 6) (by show 2 ≤ 2; omega) (good_all (good_nt h.1) (good_all (good_ty h.2) good_nil))
theorem good_blk {b : Blk} (h : BlkOk' b) : Good 5 2964 b.py := good_tup (n := 4) (b := 740) (by show 4 ≤ 4; omega) (good_all (good_nt h.lab) (good_all ((good_map (n := 2) h.plen fun p hp => good_par (h.pars p hp)).mono (by decide) (by decide))
  (good_all ((good_map (n := 4) h.olen fun o ho => good_op (h.ops o ho)).mono (by decide) (by decide)) (good_all ((good_end h.en).mono (by decide) (by decide)) good_nil))))
theorem good_res {k b : Nat} {o : Option Nat} (h : ResOk o) : Good k b (optPy o) := by
  cases o with
  | none => exact good_none
  | some n => exact good_wd h
theorem good_fn {f : Fn} (h : FnOk' f) : Good 7 35584 f.py := good_tup (n := 4) (b := 8895) (by show 4 ≤ 4; omega) (good_all ((good_name (k := 0) h.name).mono (by decide) (by decide)) (good_all ((good_map (n := 2) h.plen fun t ht => good_ty (k := 0) (h.pars t ht)).mono (by decide) (by decide))
  (good_all (good_res h.res) (good_all (good_map (n := 3) h.blen fun b hb => good_blk (h.blks b hb)) good_nil))))
theorem cell_lt {n : Nat} {c : Nat} (h : WdOk n) (hc : c < 2 ^ n) : c < 2 ^ 64 := by
  have h' : n = 1 ∨ n = 8 ∨ n = 16 ∨ n = 32 ∨ n = 64 := by simpa [WdOk] using h
  rcases h' with rfl | rfl | rfl | rfl | rfl <;> omega
theorem good_gb {g : Gb} (h : GbOk g) : Good 2 28 g.py := good_tup (n := 4) (b := 6) (by show 4 ≤ 4; omega) (good_all ((good_name (k := 0) h.name).mono (by decide) (by decide)) (good_all (good_wd h.w) (good_all (good_nt (Nat.lt_of_le_of_lt h.clen (by decide)))
  (good_all ((good_map (n := 3) (b := 1) (k := 0) h.clen fun c hc => good_nt (cell_lt h.w (h.cells c hc))).mono (by decide) (by decide)) good_nil))))
theorem good_md {m : Md} (h : MdOk m) : Good 9 213512 m.py := good_tup (n := 2) (b := 106755) (by show 2 ≤ 2; omega) (good_all ((good_map (n := 2) h.glen fun g hg => good_gb (h.gs g hg)).mono (by decide) (by decide)) (good_all ((good_map (n := 3) h.flen fun f hf => good_fn (h.fs f hf)).mono (by decide) (by decide)) good_nil))
theorem Good.shaped {k b : Nat} {d : PyData} (h : Good k b d) (hk : k ≤ 64) : SeqAt.shaped d = true := by
  show (d.canLay0 && decide (d.depth ≤ 64)) = true
  rw [h.lay, decide_eq_true (Nat.le_trans h.dep hk)]
  rfl
theorem Good.shown {k b : Nat} {d : PyData} (h : Good k b d) : d.shown.length ≤ 22 * b + 20 := by
  have h1 := PyData.shown_le_bulk 20 (by decide) d h.lea
  have h2 := h.blk
  omega
end K6
/-! K6E: the facts of the top, told once; a def by its body; the tool of readings. -/
namespace K6
open PySem PySem.Spec PyProof.Rows L2
/-- what the top has left, at the law's world -/
structure Txt (w : World) (K : PySem.W.Frag) (mg : Str → Option Value) : Prop where
  hh : ∃ h : Heap, K.In h ∧ h.Ns mainGlobals mg
  t : He.SaysT faL fnL tsL w K
  more : ex K = true
section
variable {P : Program} {w : World} {K : PySem.W.Frag} {mg : Str → Option Value} {base : Heap}
theorem Txt.glo (T : Txt w K mg) {x : Str} (h : He.Fa.glo x ∈ faL) : mg x = some (.ref (He.ga K x)) := by
  obtain ⟨h', X, G⟩ := T.hh
  exact He.glo_ok X G (T.t.d.facts h)
theorem Txt.gv (T : Txt w K mg) {x : Str} (h : He.Fa.glo x ∈ faL) : ∃ u, mg x = some u ∧ RelV (.ref (He.ga K x)) u := ⟨_, T.glo h, rfl⟩
theorem Txt.free (T : Txt w K mg) {x : Str} (h : He.Fa.free x ∈ faL) : mg x = none := by
  obtain ⟨h', X, G⟩ := T.hh
  exact He.free_ok X G (T.t.d.facts h)
theorem Txt.int (T : Txt w K mg) {x : Str} {i : Int} (h : He.Fa.int x i ∈ faL) : ∃ u, mg x = some u ∧ RelV (.int i) u := by
  obtain ⟨h', X, G⟩ := T.hh
  obtain ⟨t, e⟩ := He.int_ok X G (T.t.d.facts h)
  exact ⟨_, e, t, rfl⟩
theorem Txt.str (T : Txt w K mg) {x z : Str} (h : He.Fa.str x z ∈ faL) : ∃ u, mg x = some u ∧ RelV (.str z) u := by
  obtain ⟨h', X, G⟩ := T.hh
  obtain ⟨t, e⟩ := He.str_ok X G (T.t.d.facts h)
  exact ⟨_, e, t, rfl⟩
/-- the def x of the module, by its body -/
theorem Txt.cal (T : Txt w K mg) {x : Str} {st : Stmt} {N ps : List Str} {k : Nat} {sp : Sp} (hd : (⟨(x, none), x, x, defArgs st, defBody st, defScope st, [], []⟩ : He.DefD) ∈ fnL) (hg : He.Fa.glo x ∈ faL) (S : FnScope N ps (defScope st))
    (hb : ∀ (kV doc pm : Value) (an : Option Addr) (cdv ct : Value) (us : List Value), us.length = ps.length → bindArgs (PySem.W.fnOf x x (defArgs st) (defBody st) (defScope st) .none kV doc pm an cdv ct) ⟨us, []⟩ = pure (ps.zip us))
    (len : ∀ vs H Q E, sp vs H Q E → vs.length = ps.length)
    (hbody : ∀ (cdv : Value) (A : Around) (outer : List Env) (s : Shared) (H : Hp) (vs : List V) (Q : VK) (E : XK), Room k (A.deeper (envOfC x (defScope st) s.heap.objs.size (He.ga K x) cdv)) → sp vs H Q E →
      ∃ t, PSs (cxOf C8.CX0 P w K mg base N x (defScope st) (He.ga K x) cdv A outer s H E).nox (defBody st) t ∧ t { nx := fun _ H' => Q .non H', rt := Q } (start N vs) H) :
    C8.Cal P w K mg base (k + 1) x sp [] := by
  obtain ⟨fd, F⟩ := T.t.d.defs hd
  have F' : FunD K x x (defArgs st) (defBody st) (defScope st) [] [] (He.ga K x) fd := F
  refine ⟨He.ga K x, fd, ps, [], F'.ok S len fun cdv A outer s H vs Q E hr h => ?_, T.glo hg, F'.kp, F'.bindsN hb, .nil⟩
  obtain ⟨t, h1, h2⟩ := hbody cdv A outer s H vs Q E hr h
  exact ⟨t, h1.nox, h2⟩
/-- a def of one parameter that may be called by that parameter's name -/
structure CalK (P : Program) (w : World) (K : PySem.W.Frag) (mg : Str → Option Value) (base : Heap) (k : Nat) (x kw : Str) (sp : Sp) : Prop where
  ex : ∃ (f : Addr) (fd : FuncData), FnOk P w K mg base C8.CX0 k f fd [kw] sp ∧ mg x = some (.ref f) ∧ PySem.W.keepIn K (.ref f) = true ∧ ∀ (s : Shared) (v : Value), BindsTo s fd ⟨[], [(kw, v)]⟩ [(kw, v)]
structure CalB (P : Program) (w : World) (K : PySem.W.Frag) (mg : Str → Option Value) (base : Heap) (k : Nat) (x kw : Str) (sp : Sp) : Prop where
  pos : C8.Cal P w K mg base k x sp []
  kw : CalK P w K mg base k x kw sp
theorem Txt.calB (T : Txt w K mg) {x kw : Str} {st : Stmt} {N : List Str} {k : Nat} {sp : Sp} (hd : (⟨(x, none), x, x, defArgs st, defBody st, defScope st, [], []⟩ : He.DefD) ∈ fnL) (hg : He.Fa.glo x ∈ faL) (S : FnScope N [kw] (defScope st))
    (hb : ∀ (kV doc pm : Value) (an : Option Addr) (cdv ct : Value) (us : List Value), us.length = [kw].length → bindArgs (PySem.W.fnOf x x (defArgs st) (defBody st) (defScope st) .none kV doc pm an cdv ct) ⟨us, []⟩ = pure ([kw].zip us))
    (hbk : ∀ (kV doc pm : Value) (an : Option Addr) (cdv ct v : Value), bindArgs (PySem.W.fnOf x x (defArgs st) (defBody st) (defScope st) .none kV doc pm an cdv ct) ⟨[], [(kw, v)]⟩ = pure [(kw, v)])
    (len : ∀ vs H Q E, sp vs H Q E → vs.length = [kw].length)
    (hbody : ∀ (cdv : Value) (A : Around) (outer : List Env) (s : Shared) (H : Hp) (vs : List V) (Q : VK) (E : XK), Room k (A.deeper (envOfC x (defScope st) s.heap.objs.size (He.ga K x) cdv)) → sp vs H Q E →
      ∃ t, PSs (cxOf C8.CX0 P w K mg base N x (defScope st) (He.ga K x) cdv A outer s H E).nox (defBody st) t ∧ t { nx := fun _ H' => Q .non H', rt := Q } (start N vs) H) :
    CalB P w K mg base (k + 1) x kw sp := by
  refine ⟨T.cal hd hg S hb len hbody, ?_⟩
  obtain ⟨fd, F⟩ := T.t.d.defs hd
  have F' : FunD K x x (defArgs st) (defBody st) (defScope st) [] [] (He.ga K x) fd := F
  refine ⟨He.ga K x, fd, F'.ok S len fun cdv A outer s H vs Q E hr h => ?_, T.glo hg, F'.kp, ?_⟩
  · obtain ⟨t, h1, h2⟩ := hbody cdv A outer s H vs Q E hr h
    exact ⟨t, h1.nox, h2⟩
  · obtain ⟨oc, od, dV, kV, doc, pm, an, cdv, ct, osl, rfl, lk, hcd, hD, hK⟩ := F'.ex
    rcases hD with ⟨_, rfl⟩ | ⟨e, _⟩
    · exact fun s v => .of_eq (hbk kV doc pm an cdv ct v)
    · exact absurd rfl e
/-- x(kw = e) -/
theorem pe_ck {X : Cx} {k j : Nat} {x kw : Str} {sp : Sp} {e : Expr} {te : TE} {p kpos pos : Pos} (c : CalK X.prog X.w X.K X.mg X.base k x kw sp) (hr : Room j X.A) (hk : k ≤ j) (hg : Gl X x) (he : PE X e te) (hdb : (x == ("__debug__" : Str)) = false := by decide) :
    PE X (.Call (.Name x p) [] [⟨some kw, e, kpos⟩] pos) (tCall sp [] C8.E0 (tCons te tNil)) := by
  obtain ⟨f, fd, F, hm, kp, hb⟩ := c.ex
  refine ⟨fun pins s σ H Q I h => ?_⟩
  refine wpAny_Call_Name_kw (ld_glob I hg hm ?_ hdb)
  refine PySem.W.callWith_KW0 (h₀ := X.base) I.ok.mod.kin kp (by rfl) ?_ (by rfl)
  refine thn ((pk_cons (nm := some kw) (kpos := kpos) he pk_nil).run pos pins s σ H _ I h) fun ws s2 ⟨zs, H2, I2, rz, q2⟩ => ⟨I2.kIn, ?_⟩
  have l2 := F.len _ _ _ _ q2
  rw [List.append_nil] at l2
  obtain ⟨v, rfl⟩ : ∃ v, zs = [v] := by
    match zs, l2 with
    | [v], _ => exact ⟨v, rfl⟩
  obtain ⟨u, rfl, ru⟩ := vals1 rz
  refine wpAny_call (codeAny_mono ((F.mono hk).run X.A X.stack s2 H2 ⟨[], [(kw, u)]⟩ [u] [v] Q C8.E0 hr I2.env0 (hb s2 u) (.cons ru .nil) q2) fun r s' hq => ?_)
  cases r with
  | error e => exact C8.pass0 (E := C8.E0) pins σ H2 s2 e s' I2 hq
  | ok fl =>
    cases fl with
    | ret u => exact I2.after hq
    | next => exact False.elim hq
    | brk => exact False.elim hq
    | cont => exact False.elim hq
theorem Txt.rcls (T : Txt w K mg) : Cls K (He.ga K "Reader") := He.cls_ok (T.t.d.facts m_cls_Reader)
/-- a method of Reader -/
theorem Txt.met (T : Txt w K mg) {m q : Str} {st : Stmt} {N ps : List Str} {k : Nat} {sp : Sp} (hd : (⟨("Reader", some m), m, q, defArgs st, defBody st, defScope st, [], []⟩ : He.DefD) ∈ fnL) (hg : He.Fa.meth "Reader" m ∈ faL) (S : FnScope N ps (defScope st))
    (hb : ∀ (kV doc pm : Value) (an : Option Addr) (cdv ct : Value) (us : List Value), us.length = ps.length → bindArgs (PySem.W.fnOf m q (defArgs st) (defBody st) (defScope st) .none kV doc pm an cdv ct) ⟨us, []⟩ = pure (ps.zip us))
    (len : ∀ vs H Q E, sp vs H Q E → vs.length = ps.length)
    (hbody : ∀ (cdv : Value) (A : Around) (outer : List Env) (s : Shared) (H : Hp) (vs : List V) (Q : VK) (E : XK), Room k (A.deeper (envOfC q (defScope st) s.heap.objs.size (He.ma K (He.ga K "Reader") m) cdv)) → sp vs H Q E →
      ∃ t, PSs (cxOf C8.CX0 P w K mg base N q (defScope st) (He.ma K (He.ga K "Reader") m) cdv A outer s H E).nox (defBody st) t ∧ t { nx := fun _ H' => Q .non H', rt := Q } (start N vs) H) :
    C8.Met P w K mg base (k + 1) (He.ga K "Reader") m sp [] := by
  obtain ⟨fd, F⟩ := T.t.d.defs hd
  have F' : FunD K m q (defArgs st) (defBody st) (defScope st) [] [] (He.ma K (He.ga K "Reader") m) fd := F
  refine ⟨He.ma K (He.ga K "Reader") m, fd, ps, [], T.rcls, He.meth_ok (T.t.d.facts hg), F'.ok S len fun cdv A outer s H vs Q E hr h => ?_, F'.bindsN hb, .nil⟩
  obtain ⟨t, h1, h2⟩ := hbody cdv A outer s H vs Q E hr h
  exact ⟨t, h1.nox, h2⟩
end
end K6
/-! K6R: data of tuples in the heap; readings of texts (Ev of HandS.Evl, with sizes hidden). -/
namespace K6
open PySem PySem.Spec PyProof.Rows L2 Evl
/-! ### data of tuples -/
mutual
inductive Dt (H : Hp) : V → PyData → Prop
  | non : Dt H .non .none
  | int (i : Int) : Dt H (.int i) (.int i)
  | str (x : Str) : Dt H (.str x) (.str x)
  | tup {a : Addr} {xs : List V} {ds : List PyData} : H a = some (.tup xs) → DtA H xs ds → Dt H (.ref a) (.tuple ds)
inductive DtA (H : Hp) : List V → List PyData → Prop
  | nil : DtA H [] []
  | cons {v : V} {vs : List V} {d : PyData} {ds : List PyData} : Dt H v d → DtA H vs ds → DtA H (v :: vs) (d :: ds)
end
/-- tuples stay -/
def KT (H H' : Hp) : Prop := ∀ b xs, H b = some (.tup xs) → H' b = some (.tup xs)
theorem KT.refl (H : Hp) : KT H H := fun _ _ h => h
theorem KT.trans {H H1 H2 : Hp} (a : KT H H1) (b : KT H1 H2) : KT H H2 := fun c xs h => b c xs (a c xs h)
theorem KT.ex {H H' : Hp} (e : Ex H H') : KT H H' := fun b xs h => e b _ h
mutual
theorem Dt.kt {H H' : Hp} (k : KT H H') : ∀ {v : V} {d : PyData}, Dt H v d → Dt H' v d
  | _, _, .non => .non
  | _, _, .int i => .int i
  | _, _, .str x => .str x
  | _, _, .tup h r => .tup (k _ _ h) (DtA.kt k r)
theorem DtA.kt {H H' : Hp} (k : KT H H') : ∀ {vs : List V} {ds : List PyData}, DtA H vs ds → DtA H' vs ds
  | _, _, .nil => .nil
  | _, _, .cons h r => .cons (Dt.kt k h) (DtA.kt k r)
end
mutual
theorem Dt.dp {K : PySem.W.Frag} {H : Hp} : ∀ {v : V} {d : PyData}, Dt H v d → Dp K H v d
  | _, _, .non => .non
  | _, _, .int i => .int i
  | _, _, .str x => .str x
  | _, _, .tup h r => .tup (SqT.of h) (DtA.dp r)
theorem DtA.dp {K : PySem.W.Frag} {H : Hp} : ∀ {vs : List V} {ds : List PyData}, DtA H vs ds → DpAll K H vs ds
  | _, _, .nil => .nil
  | _, _, .cons h r => .cons (Dt.dp h) (DtA.dp r)
end
section
variable {H : Hp} {v : V} {vs : List V} {d : PyData} {ds : List PyData}
theorem Dt.tupE (h : Dt H v (.tuple ds)) : ∃ a xs, v = .ref a ∧ H a = some (.tup xs) ∧ DtA H xs ds := by
  cases h with
  | tup h r => exact ⟨_, _, rfl, h, r⟩
theorem Dt.strE {x : Str} (h : Dt H v (.str x)) : v = .str x := by
  cases h
  rfl
theorem Dt.intE {i : Int} (h : Dt H v (.int i)) : v = .int i := by
  cases h
  rfl
theorem Dt.nonE (h : Dt H v .none) : v = .non := by
  cases h
  rfl
theorem DtA.nilE (h : DtA H vs []) : vs = [] := by
  cases h
  rfl
theorem DtA.consE (h : DtA H vs (d :: ds)) : ∃ v r, vs = v :: r ∧ Dt H v d ∧ DtA H r ds := by
  cases h with
  | cons h r => exact ⟨_, _, rfl, h, r⟩
theorem DtA.length : ∀ {vs : List V} {ds : List PyData}, DtA H vs ds → vs.length = ds.length
  | _, _, .nil => rfl
  | _, _, .cons _ r => congrArg Nat.succ (DtA.length r)
theorem DtA.get : ∀ {vs : List V} {ds : List PyData} {i : Nat} {v : V}, DtA H vs ds → vs[i]? = some v → ∃ d, ds[i]? = some d ∧ Dt H v d
  | _, _, i, _, .nil, e => by simp at e
  | _, _, 0, _, .cons h _, e => by
    simp at e
    subst e
    exact ⟨_, rfl, h⟩
  | _, _, i + 1, v, .cons _ r, e => by
    obtain ⟨d, h1, h2⟩ := DtA.get (i := i) (v := v) r (by simpa using e)
    exact ⟨d, by simpa using h1, h2⟩
theorem DtA.app : ∀ {vs us : List V} {ds es : List PyData}, DtA H vs ds → DtA H us es → DtA H (vs ++ us) (ds ++ es)
  | _, _, _, _, .nil, s => s
  | _, _, _, _, .cons h r, s => .cons h (DtA.app r s)
/-- of a list of data: the place of each -/
theorem DtA.mapGet {α : Type} {f : α → PyData} {l : List α} {i : Nat} {v : V} (h : DtA H vs (l.map f)) (e : vs[i]? = some v) : ∃ a, l[i]? = some a ∧ Dt H v (f a) := by
  obtain ⟨d, h1, h2⟩ := h.get e
  rw [List.getElem?_map] at h1
  cases q : l[i]? with
  | none =>
    rw [q] at h1
    cases h1
  | some a =>
    rw [q] at h1
    cases h1
    exact ⟨a, rfl, h2⟩
end
/-! ### texts by their codes -/
abbrev vS (a : Tx) : V := .str (SX.S a)
def rCatS : R2 := fun x y H Q => ∃ i j, x = .str i ∧ y = .str j ∧ i.length + j.length ≤ sizeLine ∧ Q (.str (i ++ j)) H
theorem op_cats {X : Cx} : OpR X (binaryOp .Add) rCatS := op_add_str
def rStrI : List V → Hp → VK → Prop := fun xs H Q => ∃ i : Int, xs = [.int i] ∧ i.natAbs.log2 < 1920 ∧ Q (.str (toString i)) H
theorem cr_strI {X : Cx} : CallR X (.type "str") rStrI := call_str_int
def rJoin (K : PySem.W.Frag) : V → List V → Hp → VK → Prop := fun x xs H Q => ∃ a p, ∃ ys : List Str, x = .str a ∧ xs = [.ref p] ∧ (SqL K H p (ys.map V.str) ∨ SqT K H p (ys.map V.str)) ∧
    (ys.map (·.length)).sum + ys.length * a.length ≤ 16777216 ∧ Q (.str (Txt.join a ys)) H
section
variable {X : Cx} {o e : Expr} {to te : TE}
theorem pe_joinN {apos pos : Pos} (ho : PE X o to) (he : PE X e te) (hs : starEach [e] X.env = [(false, eval e X.env)] := by rfl) (hbase : attributeBase o "join" X.env (eval o X.env) = eval o X.env := by rfl) (hline : (apos.endLine == pos.line) = true := by rfl) :
    PE X (.Call (.Attribute o "join" apos) [e] [] pos) (tM1 (rJoin X.K) to te) := pe_join ho he hs hbase hline
end
/-- evaluates to the text of these codes, if that is short -/
def EvS (te : TE) (σ : L2.St) (H : Hp) (a : Tx) : Prop := a.length ≤ 60000 → Ev te σ H (vS a)
/-- a new list of these texts, if they are short together -/
def tot (l : List Tx) : Nat := (l.map (·.length)).sum + 4 * l.length
def EvLS (te : TE) (σ : L2.St) (H : Hp) (l : List Tx) : Prop := tot l ≤ 60000 → EvL te σ H (l.map vS)
theorem len_S (a : Tx) : (SX.S a).length = a.length := SX.S_len a
section
variable {K : PySem.W.Frag} {σ : L2.St} {H : Hp} {ta tb te : TE} {a b : Tx} {tt : TT}
theorem EvS.to (h : EvS te σ H a) (e : a = b) : EvS te σ H b := by
  rw [← e]
  exact h
theorem evs_var {i : Nat} (h : σ[i]? = some (some (vS a))) : EvS (tVar i) σ H a := fun _ => ev_var h
theorem evs_c {x : Str} (h : x = SX.S a) : EvS (tC (.str x)) σ H a := fun _ => by
  rw [h]
  exact ev_c
theorem evs_of (h : Ev te σ H (vS a)) : EvS te σ H a := fun _ => h
theorem evs_add (ha : EvS ta σ H a) (hb : EvS tb σ H b) : EvS (tOp rCatS ta tb) σ H (a ++ b) := fun hz => by
  rw [List.length_append] at hz
  refine ev_op (ha (by omega)) (hb (by omega)) fun H1 _ Q q => ⟨_, _, rfl, rfl, ?_, ?_⟩
  · rw [len_S, len_S, sizeLine_eq]
    omega
  · rw [SX.S_cat]
    exact q H1 (Ex.refl H1)
theorem evs_num {n : Nat} (h : Ev ta σ H (.int (n : Int))) (hn : n < 2 ^ 64) : EvS (tCB rStrI (tCons ta tNil)) σ H (num n) := fun _ => by
  refine ev_cb (ea_cons h ea_nil) fun H1 _ Q q => ⟨(n : Int), rfl, ?_, ?_⟩
  · rw [Int.natAbs_natCast]
    by_cases h0 : n = 0
    · rw [h0]
      decide
    · have := Nat.log2_lt (n := n) (k := 64) h0
      have h1 := this.mpr hn
      omega
  · have e : (Str.ofString (toString (n : Int))) = SX.S (num n) := SX.num_S n
    rw [e]
    exact q H1 (Ex.refl H1)
theorem evs_if {t : Bool} (h : EvT tt σ H t) (h1 : t = true → EvS ta σ H a) (h2 : t = false → EvS tb σ H a) : EvS (tIf tt ta tb) σ H a := fun hz => ev_if h (fun e => h1 e hz) (fun e => h2 e hz)
theorem evs_call {sp : Sp} {vs : List V} {E : XK} {ts : TA} (h : EvA ts σ H vs) (hs : SpV sp (vs ++ []) H (vS a)) : EvS (tCall sp [] E ts) σ H a := fun _ => ev_call h hs
/-- equal texts -/
theorem et_eqS (ha : Ev ta σ H (vS a)) (hb : Ev tb σ H (vS b)) : EvT (tTest (tOp rEq ta tb)) σ H (decide (a = b)) := et_is (et_test (ev_op ha hb (rv_eq rfl))) (by
  by_cases e : a = b
  · rw [e, decide_eq_true rfl, decide_eq_true rfl]
  · rw [decide_eq_false e]
    refine decide_eq_false fun z => e (SX.S_inj ?_)
    injection z)
theorem et_eq0 {x y : V} {t : Bool} (ha : Ev ta σ H x) (hb : Ev tb σ H y) (hs : scal x y = true) (e : decide (x = y) = t) : EvT (tTest (tOp rEq ta tb)) σ H t := et_is (et_test (ev_op ha hb (rv_eq hs))) e
theorem et_isN {x : V} (ha : Ev ta σ H x) : EvT (tTest (tOp rIsN ta (tC .non))) σ H (decide (x = .non)) := fun H1 e Q q => ha H1 e _ fun H2 e2 => ⟨rfl, _, rfl, q H2 e2⟩
theorem et_notN {x : V} (ha : Ev ta σ H x) : EvT (tTest (tOp rNotN ta (tC .non))) σ H (!decide (x = .non)) := fun H1 e Q q => ha H1 e _ fun H2 e2 => ⟨rfl, _, rfl, q H2 e2⟩
/-- one of the places of a tuple -/
theorem ev_at {p : Addr} {xs : List V} {i : Nat} {v : V} (ha : Ev ta σ H (.ref p)) (hp : H p = some (.tup xs)) (hv : xs[i]? = some v) : Ev (tOp (rIxT K) ta (tC (.int (i : Int)))) σ H v :=
  ev_op ha ev_c (rv_ixT (SqT.of hp) (atI_nat hv))
/-! ### lists of texts -/
theorem join_tot : ∀ (s : Tx) (l : List Tx), s.length ≤ 4 → (l.map (·.length)).sum + l.length * s.length ≤ (TL.joinL s l).length + s.length
  | s, [], _ => by simp
  | s, [x], _ => by simp [TL.joinL]
  | s, x :: y :: r, h => by
    have ih := join_tot s (y :: r) h
    simp only [TL.joinL, List.map_cons, List.sum_cons, List.length_cons, List.length_append, Nat.add_mul, Nat.one_mul] at ih ⊢
    omega
theorem vmap (l : List Tx) : l.map vS = (l.map SX.S).map V.str := by
  rw [List.map_map]
  rfl
theorem join_S' (s : Tx) (l : List Tx) : Txt.join (SX.S s) (l.map SX.S) = SX.S (TL.joinL s l) := SX.join_S s l
theorem lens_S (l : List Tx) : (l.map SX.S).map (·.length) = l.map (·.length) := SX.lens l
theorem evs_join {x : Str} {s : Tx} {l : List Tx} (hx : x = SX.S s) (hl : s.length ≤ 4) (h : EvLS te σ H l) (ht : tot l ≤ 60000) : EvS (tM1 (rJoin K) (tC (.str x)) te) σ H (TL.joinL s l) := fun hz => by
  subst hx
  intro H1 e Q q
  refine ⟨⟨_, rfl⟩, h ht H1 e _ fun p H2 _ e2 hp => ?_⟩
  refine ⟨_, p, l.map SX.S, rfl, rfl, .inl (by rw [← vmap]; exact sq_of hp), ?_, ?_⟩
  · rw [lens_S, List.length_map, len_S]
    have := join_tot s l hl
    omega
  · rw [join_S']
    exact q H2 e2
/-- [e for x in a tuple], each told -/
theorem el_lcT {a : Addr} {xs ys : List V} {tl : TE} {g : TG} {vs : List Nat} (h : Ev tl σ H (.ref a)) (hx : H a = some (.tup xs)) (hlen : ys.length = xs.length) (hz : xs.length ≤ 40000)
    (he : ∀ (i : Nat) (x y : V) (H1 : Hp), Ex H H1 → xs[i]? = some x → ys[i]? = some y → ∀ R : L2.St → Hp → Prop, (∀ σ2, wipe σ2 vs = wipe σ vs → Ev te σ2 H1 y → R σ2 H1) → g x (wipe σ vs) H1 R) :
    EvL (tLc (iTup K tl) g tYes te vs) σ H ys := fun H0 e Q q => h H0 e _ fun H1 e1 => ⟨a, rfl, ⟨xs, SqT.of (e1 a _ (e a _ hx))⟩, fun D hD =>
  lc_tup (xs := xs) (fun i H' => H1 D = none ∧ Ex H1 H' ∧ H' D = some (.lst (ys.take i))) ⟨hD, Ex.new hD, by rw [List.take_zero]; exact upd_same⟩
    (fun i H' _ p => SqT.of (p.2.1 a _ (e1 a _ (e a _ hx))))
    (fun i x H' hi p => by
      have hl : i < xs.length := (List.getElem?_eq_some_iff.mp hi).1
      obtain ⟨y, hy⟩ : ∃ y, ys[i]? = some y := ⟨ys[i], List.getElem?_eq_getElem (by omega)⟩
      refine he i x y H' ((e.trans e1).trans p.2.1) hi hy _ fun σ2 hw hev => ⟨hw, ?_⟩
      simp only [tYes, if_true]
      refine hev H' (Ex.refl H') _ fun H4 e4 => ⟨ys.take i, e4 D _ p.2.2, sz_lt (by rw [List.length_take]; omega), p.1, Ex.mut (p.2.1.trans e4) p.1, ?_⟩
      rw [List.take_add_one, hy]
      exact upd_same)
    (fun H' p => q D H' (fresh_back e1 p.1) (e1.trans p.2.1) (by
      have h2 := p.2.2
      rw [← hlen, List.take_length] at h2
      exact h2))⟩
theorem sum_mem {α : Type} (f : α → Nat) : ∀ {l : List α} {b : α}, b ∈ l → f b ≤ (l.map f).sum
  | a :: l, b, h => by
    rw [List.map_cons, List.sum_cons]
    rcases List.mem_cons.mp h with e | e
    · rw [e]
      omega
    · have := sum_mem f e
      omega
/-- texts of a tuple's data, the target a name -/
theorem els_map {α : Type} {f : α → PyData} {tx : α → Tx} {l : List α} {a : Addr} {xs : List V} {tl : TE} {j : Nat} {vs : List Nat} (h : Ev tl σ H (.ref a)) (hx : H a = some (.tup xs)) (hd : DtA H xs (l.map f)) (hz : l.length ≤ 1000)
    (hw : ∀ x, wipe ((wipe σ vs).set j (some x)) vs = wipe σ vs) (he : ∀ (b : α) (x : V) (H1 : Hp), Ex H H1 → b ∈ l → Dt H1 x (f b) → EvS te ((wipe σ vs).set j (some x)) H1 (tx b)) : EvLS (tLc (iTup K tl) (gName j) tYes te vs) σ H (l.map tx) := fun ht => by
  have hl := hd.length
  rw [List.length_map] at hl
  refine el_lcT h hx (by rw [List.length_map, List.length_map, hl]) (by omega) fun i x y H1 e hi hy R q => ?_
  obtain ⟨b, hb, hdb⟩ := hd.mapGet hi
  have hy' : y = vS (tx b) := by
    rw [List.map_map, List.getElem?_map, hb] at hy
    exact (Option.some.inj hy).symm
  have hm := List.mem_of_getElem? hb
  have hle : (tx b).length ≤ (l.map fun c => (tx c).length).sum := sum_mem (fun c => (tx c).length) hm
  subst hy'
  refine q _ (hw x) (he b x H1 e hm (hdb.kt (KT.ex e)) ?_)
  unfold tot at ht
  rw [List.map_map] at ht
  simp only [Function.comp_def] at ht
  omega
end
end K6
/-! K6W1: the program's writing, small things. -/
namespace K6
open PySem PySem.Spec PyProof.Rows L2 Evl
/-! ### promises of one, two, three arguments -/
def Pr1 (R : V → Hp → VK → Prop) : Sp := fun vs H Q _ => ∃ a, vs = [a] ∧ R a H Q
def Pr2 (R : V → V → Hp → VK → Prop) : Sp := fun vs H Q _ => ∃ a b, vs = [a, b] ∧ R a b H Q
def Pr3 (R : V → V → V → Hp → VK → Prop) : Sp := fun vs H Q _ => ∃ a b c, vs = [a, b, c] ∧ R a b c H Q
theorem len1 {R : V → Hp → VK → Prop} (vs : List V) (H : Hp) (Q : VK) (E : XK) (h : Pr1 R vs H Q E) : vs.length = 1 := by
  obtain ⟨a, rfl, _⟩ := h
  rfl
theorem len2 {R : V → V → Hp → VK → Prop} (vs : List V) (H : Hp) (Q : VK) (E : XK) (h : Pr2 R vs H Q E) : vs.length = 2 := by
  obtain ⟨a, b, rfl, _⟩ := h
  rfl
theorem len3 {R : V → V → V → Hp → VK → Prop} (vs : List V) (H : Hp) (Q : VK) (E : XK) (h : Pr3 R vs H Q E) : vs.length = 3 := by
  obtain ⟨a, b, c, rfl, _⟩ := h
  rfl
/-- a text is given back, nothing that stands is changed -/
def RetS (a : Tx) (H : Hp) (Q : VK) : Prop := ∀ H2, Ex H H2 → Q (vS a) H2
theorem lit {s : String} {a : Tx} (h : Str.ofString s = SX.S a := by decide +kernel) : (Str.ofString s) = SX.S a := h
/-! ### tuples taken apart -/
section
variable {H : Hp} {v : V} {d1 d2 d3 d4 : PyData}
theorem Dt.e1 (h : Dt H v (.tuple [d1])) : ∃ a x, v = .ref a ∧ H a = some (.tup [x]) ∧ Dt H x d1 := by
  obtain ⟨a, xs, rfl, ha, r⟩ := h.tupE
  obtain ⟨x, r1, rfl, h1, r⟩ := r.consE
  obtain rfl := r.nilE
  exact ⟨a, x, rfl, ha, h1⟩
theorem Dt.e2 (h : Dt H v (.tuple [d1, d2])) : ∃ a x y, v = .ref a ∧ H a = some (.tup [x, y]) ∧ Dt H x d1 ∧ Dt H y d2 := by
  obtain ⟨a, xs, rfl, ha, r⟩ := h.tupE
  obtain ⟨x, r1, rfl, h1, r⟩ := r.consE
  obtain ⟨y, r2, rfl, h2, r⟩ := r.consE
  obtain rfl := r.nilE
  exact ⟨a, x, y, rfl, ha, h1, h2⟩
theorem Dt.e3 (h : Dt H v (.tuple [d1, d2, d3])) : ∃ a x y z, v = .ref a ∧ H a = some (.tup [x, y, z]) ∧ Dt H x d1 ∧ Dt H y d2 ∧ Dt H z d3 := by
  obtain ⟨a, xs, rfl, ha, r⟩ := h.tupE
  obtain ⟨x, r1, rfl, h1, r⟩ := r.consE
  obtain ⟨y, r2, rfl, h2, r⟩ := r.consE
  obtain ⟨z, r3, rfl, h3, r⟩ := r.consE
  obtain rfl := r.nilE
  exact ⟨a, x, y, z, rfl, ha, h1, h2, h3⟩
theorem Dt.e4 (h : Dt H v (.tuple [d1, d2, d3, d4])) : ∃ a x y z u, v = .ref a ∧ H a = some (.tup [x, y, z, u]) ∧ Dt H x d1 ∧ Dt H y d2 ∧ Dt H z d3 ∧ Dt H u d4 := by
  obtain ⟨a, xs, rfl, ha, r⟩ := h.tupE
  obtain ⟨x, r1, rfl, h1, r⟩ := r.consE
  obtain ⟨y, r2, rfl, h2, r⟩ := r.consE
  obtain ⟨z, r3, rfl, h3, r⟩ := r.consE
  obtain ⟨u, r4, rfl, h4, r⟩ := r.consE
  obtain rfl := r.nilE
  exact ⟨a, x, y, z, u, rfl, ha, h1, h2, h3, h4⟩
end
/-! ### sizes -/
theorem num_len {n : Nat} (h : n < 2 ^ 64) : (num n).length ≤ 20 := TL.numL_len (by decide) (Nat.lt_of_lt_of_le h (by decide))
theorem wd_lt {n : Nat} (h : WdOk n) : n < 2 ^ 64 := by
  have h' : n = 1 ∨ n = 8 ∨ n = 16 ∨ n = 32 ∨ n = 64 := by simpa [WdOk] using h
  omega
theorem wd_len {n : Nat} (h : WdOk n) : (num n).length ≤ 2 := TL.numL_len (by decide) (by
  have h' : n = 1 ∨ n = 8 ∨ n = 16 ∨ n = 32 ∨ n = 64 := by simpa [WdOk] using h
  omega)
theorem ty_len {t : Ty} (h : TyOk t) : t.txt.length ≤ 3 := by
  cases t with
  | w n =>
    have := wd_len h
    simp only [Ty.txt, List.length_cons]
    omega
  | ptr => decide
theorem opd_len {o : Opd} (h : OpdOk o) : o.txt.length ≤ 21 := by
  cases o with
  | v i =>
    have := num_len h
    simp only [Opd.txt, List.length_cons]
    omega
  | n i =>
    have := num_len h
    simp only [Opd.txt]
    omega
  | g x =>
    have := h.len
    simp only [Opd.txt, List.length_cons]
    omega
/-- each of them short: all of them -/
theorem sum_le {α : Type} (f : α → Nat) (k : Nat) : ∀ {l : List α}, (∀ a ∈ l, f a ≤ k) → (l.map f).sum ≤ k * l.length
  | [], _ => by simp
  | a :: l, h => by
    have h1 := h a List.mem_cons_self
    have h2 := sum_le f k fun b hb => h b (List.mem_cons_of_mem _ hb)
    rw [List.map_cons, List.sum_cons, List.length_cons, Nat.mul_add]
    omega
theorem tot_le {α : Type} {tx : α → Tx} {k : Nat} {l : List α} (h : ∀ a ∈ l, (tx a).length ≤ k) : tot (l.map tx) ≤ (k + 4) * l.length := by
  have h1 := sum_le (fun a => (tx a).length) k h
  unfold tot
  rw [List.map_map, List.length_map, Nat.add_mul]
  simp only [Function.comp_def]
  omega
theorem joinL_len : ∀ (s : Tx) (l : List Tx), (TL.joinL s l).length ≤ (l.map (·.length)).sum + s.length * l.length
  | s, [] => by simp [TL.joinL]
  | s, [x] => by simp [TL.joinL]
  | s, x :: y :: r => by
    have ih := joinL_len s (y :: r)
    simp only [TL.joinL, List.map_cons, List.sum_cons, List.length_cons, List.length_append, Nat.mul_add] at ih ⊢
    omega
theorem cj_len {α : Type} {tx : α → Tx} {k : Nat} {l : List α} (h : ∀ a ∈ l, (tx a).length ≤ k) : (cj (l.map tx)).length ≤ (k + 2) * l.length := by
  have h1 := sum_le (fun a => (tx a).length) k h
  have h2 := joinL_len [44, 32] (l.map tx)
  rw [List.map_map, List.length_map] at h2
  simp only [Function.comp_def, List.length_cons, List.length_nil] at h2
  have e : (k + 2) * l.length = k * l.length + 2 * l.length := Nat.add_mul ..
  show (TL.joinL [44, 32] (l.map tx)).length ≤ _
  omega
theorem args_len {l : List Opd} (h : ∀ o ∈ l, OpdOk o) : (argsTxt l).length ≤ 23 * l.length := cj_len fun o ho => opd_len (h o ho)
section
variable {P : Program} {w : World} {K : PySem.W.Frag} {mg : Str → Option Value} {base : Heap}
/-! ### type_text -/
def Ty.val : Ty → V
  | .w n => .int (n : Int)
  | .ptr => vS kPtr
theorem Dt.ty {H : Hp} {v : V} {t : Ty} (h : Dt H v t.py) : v = t.val := by
  cases t with
  | w n => exact h.intE
  | ptr => exact h.strE
def spTyText : Sp := Pr1 fun v H Q => ∃ t : Ty, v = t.val ∧ TyOk t ∧ RetS t.txt H Q
theorem ok_type_text (T : Txt w K mg) : C8.Cal P w K mg base 1 "type_text" spTyText [] := by
  refine T.cal m_def_type_text m_glo_type_text sc_type_text bi_type_text len1 (fun cdv A outer s H vs Q E hr h => ?_)
  obtain ⟨v, rfl, t, rfl, ht, q⟩ := h
  refine ⟨_, (pss_one (ps_ret (pe_ifExp (pt_cmpR op_eq (pv 0) pe_str (nomark _)) (pv 0) (pe_op op_cats pe_str (pe_callTy cr_strI (by rfl) (T.free m_free_str) (by decide +kernel) (pa_cons (pv 0) pa_nil)))))), ?_⟩
  have hl := ty_len ht
  refine s_ret (evs_if (t := decide (t = .ptr)) ?_ (fun e => ?_) (fun e => ?_) (by omega : t.txt.length ≤ 60000)) fun H1 e => q H1 e
  · cases t with
    | w n => exact et_eq0 (ev_var rfl) ev_c rfl (by simp [Ty.val])
    | ptr => exact et_eq0 (ev_var rfl) ev_c rfl (by decide +kernel)
  · obtain rfl := of_decide_eq_true e
    exact evs_var rfl
  · cases t with
    | w n => exact evs_add (a := [105]) (evs_c lit) (evs_num (ev_var rfl) (wd_lt ht))
    | ptr => simp at e
/-! ### operand_text -/
def rStrA : List V → Hp → VK → Prop := fun xs H Q => rStrI xs H Q ∨ ∃ a, xs = [.str a] ∧ Q (.str a) H
theorem cr_strA {X : Cx} : CallR X (.type "str") rStrA := cr_strI.or SkE.call_str_str
def spOpd : Sp := Pr1 fun v H Q => ∃ o : Opd, Dt H v o.py ∧ OpdOk o ∧ RetS o.txt H Q
theorem evs_numA {σ : L2.St} {H : Hp} {ta : TE} {n : Nat} (h : Ev ta σ H (.int (n : Int))) (hn : n < 2 ^ 64) : EvS (tCB rStrA (tCons ta tNil)) σ H (num n) := fun hz H1 e Q q => h H1 e _ fun H2 e2 => Or.inl (by
  have h2 := evs_num (ta := tC (.int (n : Int))) (σ := σ) (H := H2) ev_c hn hz H2 (Ex.refl H2) Q fun H3 e3 => q H3 (e2.trans e3)
  exact h2)
theorem evs_strA {σ : L2.St} {H : Hp} {ta : TE} {a : Tx} (h : Ev ta σ H (vS a)) : EvS (tCB rStrA (tCons ta tNil)) σ H a := fun hz H1 e Q q => h H1 e _ fun H2 e2 => Or.inr ⟨_, rfl, q H2 e2⟩
abbrev marks : List (Key × V) := mergeK [] [(.inr "v", .str "$"), (.inr "n", .str ""), (.inr "g", .str "@")]
theorem ok_operand_text (T : Txt w K mg) : C8.Cal P w K mg base 1 "operand_text" spOpd [] := by
  refine T.cal m_def_operand_text m_glo_operand_text sc_operand_text bi_operand_text len1 (fun cdv A outer s H vs Q E hr h => ?_)
  obtain ⟨v, rfl, o, hd, ho, q⟩ := h
  have hu := hu_of hr
  refine ⟨_, (pss_cons (ps_set (i := 1) sc_operand_text.nd rfl (Or.inl rfl) (pe_disp (pps_cons pe_str pe_str (pps_cons pe_str pe_str (pps_cons pe_str pe_str pps_nil))) (by rfl) (by rfl) (fun z => by cases z) (by decide)))
    (pss_one (ps_ret (pe_op op_cats (pe_dget hu (pv 1) (pe_ix ix_tup (pv 0) pe_int (fun _ _ => rfl)) (fun _ _ => rfl)) (pe_callTy cr_strA (by rfl) (T.free m_free_str) (by decide +kernel) (pa_cons (pe_ix ix_tup (pv 0) pe_int (fun _ _ => rfl)) pa_nil)))))), ?_⟩
  intro p hp
  refine ⟨upd_same, [(.inr "v", .str "$"), (.inr "n", .str ""), (.inr "g", .str "@")], rfl, by decide, ?_⟩
  dsimp only [gName]
  rw [upd_upd]
  have e0 : Ex H (upd H p (.dK marks)) := Ex.new hp
  have hl := opd_len ho
  have hd' := hd.kt (KT.ex e0)
  have key : ∀ (k : Str) (x : V), valV marks (.inr k) = some x → ∀ ta : TE, Ev ta [some v, some (.ref p)] (upd H p (.dK marks)) (.str k) → Ev (tDGet (tVar 1) ta) [some v, some (.ref p)] (upd H p (.dK marks)) x := fun k x hx ta ha H1 e Q' q' => by
    refine ⟨.ref p, rfl, ha H1 e _ fun H2 e2 => ⟨p, x, rfl, ?_, q' H2 e2⟩⟩
    have := DGet.k (k := Sum.inr k) (e2 p _ (e p _ upd_same))
    rw [hx] at this
    exact this
  refine s_ret (EvS.to (b := o.txt) ?_ rfl (by omega)) fun H1 e => q H1 (e0.trans e)
  cases o with
  | v i =>
    obtain ⟨a, x, y, rfl, ha, hx, hy⟩ := hd'.e2
    obtain rfl := hx.strE
    obtain rfl := hy.intE
    exact evs_add (a := [36]) (evs_of (key (SX.S [118]) (vS [36]) (by decide +kernel) _ (ev_at (i := 0) (ev_var rfl) ha rfl))) (evs_numA (ev_at (i := 1) (ev_var rfl) ha rfl) ho)
  | n i =>
    obtain ⟨a, x, y, rfl, ha, hx, hy⟩ := hd'.e2
    obtain rfl := hx.strE
    obtain rfl := hy.intE
    exact evs_add (a := []) (evs_of (key (SX.S [110]) (vS []) (by decide +kernel) _ (ev_at (i := 0) (ev_var rfl) ha rfl))) (evs_numA (ev_at (i := 1) (ev_var rfl) ha rfl) ho)
  | g x =>
    obtain ⟨a, x1, y, rfl, ha, hx, hy⟩ := hd'.e2
    obtain rfl := hx.strE
    obtain rfl := hy.strE
    exact evs_add (a := [64]) (evs_of (key (SX.S [103]) (vS [64]) (by decide +kernel) _ (ev_at (i := 0) (ev_var rfl) ha rfl))) (evs_strA (ev_at (i := 1) (ev_var rfl) ha rfl))
/-! ### args_text, target_text -/
def spArgs : Sp := Pr1 fun v H Q => ∃ l : List Opd, Dt H v (argsPy l) ∧ ArgsOk 3 l ∧ RetS (argsTxt l) H Q
theorem ok_args_text (T : Txt w K mg) (c_operand_text : C8.Cal P w K mg base 1 "operand_text" spOpd []) : C8.Cal P w K mg base 2 "args_text" spArgs [] := by
  refine T.cal m_def_args_text m_glo_args_text sc_args_text bi_args_text len1 (fun cdv A outer s H vs Q E hr h => ?_)
  obtain ⟨v, rfl, l, hd, ⟨hl, ho⟩, q⟩ := h
  refine ⟨_, (pss_one (ps_ret (pe_joinN pe_str (pe_lc (own := [("one", 1)]) (g := gName 1) rfl sc_args_text.nd (pi_tup (pv 0)) (blkOk_by (N := n_args_text) (sc := defScope s_args_text) (by decide +kernel)) (fun _ _ _ _ _ => (pg_name (i := 1) sc_args_text.nd rfl (Or.inl rfl))) (fun _ _ _ _ _ => pts_nil) (fun _ _ _ _ _ => (C8.pe_c c_operand_text hr (by decide) (by rfl) (pa_cons (pv 1) pa_nil))))))), ?_⟩
  obtain ⟨a, xs, rfl, ha, hx⟩ := hd.tupE
  have h1 := args_len ho
  have h2 := tot_le (tx := Opd.txt) (fun o h => opd_len (ho o h))
  refine s_ret (evs_join (s := [44, 32]) lit (by decide) (els_map (ev_var rfl) ha hx (by omega) (fun _ => rfl) fun o x H1 e hm hdx => ?_) (by omega) (by show (argsTxt l).length ≤ _; omega)) fun H1 e => q H1 e
  exact evs_call (ea_cons (ev_var rfl) ea_nil) fun H2 e2 Q' q' E' => ⟨x, rfl, o, hdx.kt (KT.ex e2), ho o hm, q'⟩
def spTgt : Sp := Pr1 fun v H Q => ∃ t : Tgt, Dt H v t.py ∧ TgtOk t ∧ RetS t.txt H Q
theorem tgt_len {t : Tgt} (h : TgtOk t) : t.txt.length ≤ 100 := by
  have h1 := num_len h.lab
  have h2 := args_len h.args.2
  have h3 := h.args.1
  simp only [Tgt.txt, List.length_cons, List.length_append, List.length_nil]
  omega
theorem ok_target_text (T : Txt w K mg) (c_args_text : C8.Cal P w K mg base 2 "args_text" spArgs []) : C8.Cal P w K mg base 3 "target_text" spTgt [] := by
  refine T.cal m_def_target_text m_glo_target_text sc_target_text bi_target_text len1 (fun cdv A outer s H vs Q E hr h => ?_)
  obtain ⟨v, rfl, t, hd, ho, q⟩ := h
  refine ⟨_, (pss_one (ps_ret (pe_op op_cats (pe_op op_cats (pe_op op_cats (pe_op op_cats pe_str (pe_callTy cr_strI (by rfl) (T.free m_free_str) (by decide +kernel) (pa_cons (pe_ix ix_tup (pv 0) pe_int (fun _ _ => rfl)) pa_nil))) pe_str) (C8.pe_c c_args_text hr (by decide) (by rfl) (pa_cons (pe_ix ix_tup (pv 0) pe_int (fun _ _ => rfl)) pa_nil))) pe_str))), ?_⟩
  obtain ⟨a, x, y, rfl, ha, hx, hy⟩ := hd.e2
  obtain rfl := hx.intE
  have hl := tgt_len ho
  refine s_ret (EvS.to (b := t.txt) (evs_add (evs_add (evs_add (evs_add (a := [98]) (evs_c lit) (evs_num (ev_at (i := 0) (ev_var rfl) ha rfl) ho.lab)) (evs_c (a := [40]) lit)) (evs_call (ea_cons (ev_at (i := 1) (ev_var rfl) ha rfl) ea_nil) fun H2 e2 Q' q' E' => ⟨y, rfl, t.args, hy.kt (KT.ex e2), ⟨?_, ho.args.2⟩, q'⟩)) (evs_c (a := [41]) lit)) ?_ (by omega)) fun H1 e => q H1 e
  · have := ho.args.1
    omega
  · simp [Tgt.txt]
end
end K6
/-! K6W2: the program's writing: heads, deeds, ops, endings, globals. -/
namespace K6
open PySem PySem.Spec PyProof.Rows L2 Evl
/-! ### statements that end in a text -/
def RS (t : TS) (σ : L2.St) (H : Hp) (a : Tx) : Prop := ∀ (D : Ends) (H1 : Hp), Ex H H1 → RetS a H1 D.rt → t D σ H1
section
variable {K : PySem.W.Frag} {σ : L2.St} {H H' : Hp} {te : TE} {tt : TT} {t u : TS} {a b : Tx}
theorem EvS.mono (e : Ex H H') (h : EvS te σ H a) : EvS te σ H' a := fun z => (h z).mono e
theorem RS.mono (e : Ex H H') (h : RS t σ H a) : RS t σ H' a := fun D H1 e1 q => h D H1 (e.trans e1) q
theorem RS.to (h : RS t σ H a) (e : a = b) : RS t σ H b := by
  rw [← e]
  exact h
theorem rs_ret (h : EvS te σ H a) (hz : a.length ≤ 60000) : RS (tRet te) σ H a := fun D H1 e q => s_ret ((h hz).mono e) fun H2 e2 => q H2 e2
theorem rs_if {tw : Bool} {u' : TS} (h : EvT tt σ H tw) (h1 : tw = true → RS t σ H a) (h2 : tw = false → RS u σ H a) : RS (tSeq (tIfS tt t tNext) u) σ H a := fun D H1 e q => by
  refine q_when (h.mono e) (fun hb H2 e2 => h1 hb _ H2 (e.trans e2) fun H3 e3 => q H3 (e2.trans e3)) (fun hb H2 e2 => h2 hb D H2 (e.trans e2) fun H3 e3 => q H3 (e2.trans e3))
theorem rs_y (h : EvT tt σ H true) (h1 : RS t σ H a) : RS (tSeq (tIfS tt t tNext) u) σ H a := rs_if (u' := u) h (fun _ => h1) (fun e => by cases e)
theorem rs_n (h : EvT tt σ H false) (h1 : RS u σ H a) : RS (tSeq (tIfS tt t tNext) u) σ H a := rs_if (u' := u) h (fun e => by cases e) (fun _ => h1)
theorem rs_asg {i : Nat} (h : EvS te σ H b) (hz : b.length ≤ 60000) (k : RS u (σ.set i (some (vS b))) H a) : RS (tSeq (tAsg te (gName i)) u) σ H a := fun D H1 e q => q_asg ((h hz).mono e) fun H2 e2 => k D H2 (e.trans e2) fun H3 e3 => q H3 (e2.trans e3)
/-- a tuple taken apart -/
theorem rs_tup {v : V} {p : Addr} {xs : List V} {n : Nat} {tg : TGs} {σ2 : L2.St} (h : Ev te σ H v) (hv : v = .ref p) (hp : H p = some (.tup xs)) (hn : xs.length = n) (hg : ∀ H1 Q, Q σ2 H1 → tg xs σ H1 Q) (k : RS u σ2 H a) : RS (tSeq (tAsg te (gTup K n tg)) u) σ H a := fun D H1 e q => by
  refine h H1 e _ fun H2 e2 => ⟨p, xs, hv, SqT.of (e2 p _ (e p _ hp)), hn, hg _ _ (k D H2 (e.trans e2) fun H3 e3 => q H3 (e2.trans e3))⟩
theorem evs_if_y {ta tb : TE} (h : EvT tt σ H true) (h1 : EvS ta σ H a) : EvS (tIf tt ta tb) σ H a := evs_if h (fun _ => h1) (fun e => by cases e)
theorem evs_if_n {ta tb : TE} (h : EvT tt σ H false) (h1 : EvS tb σ H a) : EvS (tIf tt ta tb) σ H a := evs_if h (fun e => by cases e) (fun _ => h1)
theorem et_SK {ta tb : TE} {y : Str} {r : Bool} (ha : Ev ta σ H (vS a)) (hb : Ev tb σ H (.str y)) (e : (decide (V.str (SX.S a) = V.str y)) = r) : EvT (tTest (tOp rEq ta tb)) σ H r := et_is (et_test (ev_op ha hb (rv_eq rfl))) e
theorem et_inU {ta : TE} {tb : TA} {x : V} (xs : List V) {r : Bool} (ha : Ev ta σ H x) (hb : EvA tb σ H xs) (hx : flatV x = true) (e : (decide (xs.length ≤ 100) && xs.all flatV && decide (inV x xs = r)) = true) : EvT (tTest (tOp (rIn K false) ta (tTup tb))) σ H r :=
  by
  rw [Bool.and_eq_true, Bool.and_eq_true, decide_eq_true_eq, decide_eq_true_eq] at e
  exact et_is (et_test (ev_inU ha (eu_tup hb (by omega)) hx e.1.2)) e.2
theorem spS {sp : Sp} {vs : List V} {H : Hp} {a : Tx} (h : ∀ H1, Ex H H1 → ∀ Q, RetS a H1 Q → ∀ E, sp vs H1 Q E) : SpV sp vs H (vS a) := fun H1 e Q q E => h H1 e Q q E
end
theorem call_ty {σ : L2.St} {H : Hp} {E : XK} {te : TE} {t : Ty} (h : Ev te σ H t.val) (ht : TyOk t) : EvS (tCall spTyText [] E (tCons te tNil)) σ H t.txt :=
  evs_call (ea_cons h ea_nil) (spS fun H1 e Q q E => ⟨_, rfl, t, rfl, ht, q⟩)
theorem call_opd {σ : L2.St} {H : Hp} {E : XK} {te : TE} {v : V} {o : Opd} (h : Ev te σ H v) (hd : Dt H v o.py) (ho : OpdOk o) : EvS (tCall spOpd [] E (tCons te tNil)) σ H o.txt :=
  evs_call (ea_cons h ea_nil) (spS fun H1 e Q q E => ⟨_, rfl, o, hd.kt (KT.ex e), ho, q⟩)
theorem call_args {σ : L2.St} {H : Hp} {E : XK} {te : TE} {v : V} {l : List Opd} (h : Ev te σ H v) (hd : Dt H v (argsPy l)) (ho : ArgsOk 3 l) : EvS (tCall spArgs [] E (tCons te tNil)) σ H (argsTxt l) :=
  evs_call (ea_cons h ea_nil) (spS fun H1 e Q q E => ⟨_, rfl, l, hd.kt (KT.ex e), ho, q⟩)
theorem call_tgt {σ : L2.St} {H : Hp} {E : XK} {te : TE} {v : V} {t : Tgt} (h : Ev te σ H v) (hd : Dt H v t.py) (ho : TgtOk t) : EvS (tCall spTgt [] E (tCons te tNil)) σ H t.txt :=
  evs_call (ea_cons h ea_nil) (spS fun H1 e Q q E => ⟨_, rfl, t, hd.kt (KT.ex e), ho, q⟩)
/-! ### sizes and kinds -/
theorem mem_len {x : Tx} {l : List Tx} {k : Nat} (h : l.all (fun y => decide (y.length ≤ k)) = true) (hx : x ∈ l) : x.length ≤ k := of_decide_eq_true (List.all_eq_true.mp h x hx)
theorem head_len {o : Op} (h : OpOk o) : (headTxt o).length ≤ 20 := by
  cases o with
  | bin x op w a b =>
    have h1 := ty_len (t := .w w) h.2.2.1
    have h2 := mem_len (k := 4) (by decide) h.2.1
    simp only [headTxt, List.length_append, List.length_cons]
    omega
  | cmp x op w a b =>
    have h1 := ty_len (t := .w w) h.2.2.1
    have h2 := mem_len (k := 4) (by decide) h.2.1
    simp only [headTxt, List.length_append, List.length_cons, kCmp, List.length_nil]
    omega
  | sel x t c a b =>
    have h1 := ty_len h.2.1
    simp only [headTxt, List.length_append, List.length_cons, kSel, List.length_nil]
    omega
  | cast x kd v w a =>
    have h1 := ty_len (t := .w v) h.2.2.1
    have h2 := mem_len (k := 5) (by decide) h.2.1
    simp only [headTxt, List.length_append, List.length_cons]
    omega
  | alloca x w size =>
    have h1 := ty_len (t := .w w) h.2.1
    simp only [headTxt, List.length_append, List.length_cons, kAlloca, List.length_nil]
    omega
  | mem x kd w args =>
    have h1 := ty_len (t := .w w) h.2.2.1
    have h2 := mem_len (k := 5) (by decide) (mem_kd h.2.1).1
    simp only [headTxt, List.length_append, List.length_cons]
    omega
  | call x name args => exact Nat.zero_le _
theorem mem_deed0 {x : Option Nat} {kd : Tx} {w : Nat} {args : List Opd} (h : args = []) : deedTxt (.mem x kd w args) = headTxt (.mem x kd w args) := by
  unfold deedTxt
  exact if_pos h
theorem mem_deed1 {x : Option Nat} {kd : Tx} {w : Nat} {args : List Opd} (h : args ≠ []) : deedTxt (.mem x kd w args) = headTxt (.mem x kd w args) ++ 32 :: argsTxt args := by
  unfold deedTxt
  exact if_neg h
theorem deed_len {o : Op} (h : OpOk o) : (deedTxt o).length ≤ 150 := by
  have h0 := head_len h
  have ha := op_args h
  have h1 := args_len ha.2
  have h2 := ha.1
  cases o with
  | bin x op w a b =>
    simp only [Op.args] at h1
    simp only [deedTxt, Op.args, List.cons_ne_nil, if_false, List.length_append, List.length_cons]
    simp only [Op.args, List.length_cons, List.length_nil] at h1
    omega
  | cmp x op w a b =>
    simp only [Op.args, List.length_cons, List.length_nil] at h1
    simp only [deedTxt, Op.args, List.cons_ne_nil, if_false, List.length_append, List.length_cons]
    omega
  | sel x t c a b =>
    simp only [Op.args, List.length_cons, List.length_nil] at h1
    simp only [deedTxt, Op.args, List.cons_ne_nil, if_false, List.length_append, List.length_cons]
    omega
  | cast x kd v w a =>
    have h3 := ty_len (t := .w w) h.2.2.2.1
    simp only [Op.args, List.length_cons, List.length_nil] at h1
    simp only [deedTxt, List.length_append, List.length_cons, kTo, List.length_nil]
    omega
  | alloca x w size =>
    have h3 := num_len h.2.2
    simp only [deedTxt, List.length_append, List.length_cons, List.length_nil]
    omega
  | mem x kd w args =>
    have h3 := (mem_kd h.2.1).2
    simp only [Op.args] at h1
    by_cases e : args = []
    · refine Nat.le_trans (Nat.le_of_eq (congrArg List.length (mem_deed0 e))) ?_
      omega
    · refine Nat.le_trans (Nat.le_of_eq (congrArg List.length (mem_deed1 e))) ?_
      simp only [List.length_append, List.length_cons]
      omega
  | call x name args =>
    have h3 := h.2.1.len
    simp only [Op.args] at h1 h2
    simp only [deedTxt, List.length_append, List.length_cons, kCall, List.length_nil]
    omega
theorem op_len {o : Op} (h : OpOk o) : o.txt.length ≤ 180 := by
  have h0 := deed_len h
  have h1 := op_made h
  unfold Op.txt
  cases hm : o.made with
  | none => exact Nat.le_trans h0 (by decide)
  | some x =>
    rw [hm] at h1
    have := num_len h1
    simp only [List.length_append, List.length_cons, List.length_nil]
    omega
theorem end_len {o : End} (h : EndOk o) : o.txt.length ≤ 300 := by
  cases o with
  | jump t =>
    have := tgt_len h
    simp only [End.txt, kJump, List.length_append, List.length_cons, List.length_nil]
    omega
  | branch c s t =>
    have h1 := opd_len h.1
    have h2 := tgt_len h.2.1
    have h3 := tgt_len h.2.2
    simp only [End.txt, kBranch, List.length_append, List.length_cons, List.length_nil]
    omega
  | ret o =>
    cases o with
    | none => decide
    | some o =>
      have h1 := opd_len h
      simp only [End.txt, kRet, List.length_append, List.length_cons, List.length_nil]
      omega
  | stop => decide
section
variable {P : Program} {w : World} {K : PySem.W.Frag} {mg : Str → Option Value} {base : Heap}
/-! ### head_text -/
def spHead : Sp := Pr2 fun k i H Q => ∃ o : Op, k = vS o.kind ∧ Dt H i (.tuple o.info) ∧ OpOk o ∧ o.kind ≠ kCall ∧ RetS (headTxt o) H Q
theorem ok_head_text (T : Txt w K mg) (c_type_text : C8.Cal P w K mg base 1 "type_text" spTyText []) : C8.Cal P w K mg base 2 "head_text" spHead [] := by
  refine T.cal m_def_head_text m_glo_head_text sc_head_text bi_head_text len2 (fun cdv A outer s H vs Q E hr h => ?_)
  obtain ⟨k, i, rfl, o, rfl, hd, ho, hk, q⟩ := h
  refine ⟨_, (pss_cons (ps_if (pt_cmpR op_in_seq (pv 0) (pe_tup (pa_cons pe_str (pa_cons pe_str pa_nil))) (by rfl)) (pss_one (ps_ret (pe_op op_cats (pe_op op_cats (pe_ix ix_tup (pv 1) pe_int (fun _ _ => rfl)) pe_str) (C8.pe_c c_type_text hr (by decide) (by rfl) (pa_cons (pe_ix ix_tup (pv 1) pe_int (fun _ _ => rfl)) pa_nil))))) pss_nil)
  (pss_cons (ps_if (pt_cmpR op_eq (pv 0) pe_str (nomark _)) (pss_one (ps_ret (pe_op op_cats (pe_op op_cats (pe_op op_cats pe_str (pe_ix ix_tup (pv 1) pe_int (fun _ _ => rfl))) pe_str) (C8.pe_c c_type_text hr (by decide) (by rfl) (pa_cons (pe_ix ix_tup (pv 1) pe_int (fun _ _ => rfl)) pa_nil))))) pss_nil)
  (pss_one (ps_ret (pe_op op_cats (pe_op op_cats (pv 0) pe_str) (C8.pe_c c_type_text hr (by decide) (by rfl) (pa_cons (pe_ix ix_tup (pv 1) pe_int (fun _ _ => rfl)) pa_nil))))))), ?_⟩
  have hl := head_len ho
  refine (?_ : RS _ _ H (headTxt o)) _ H (Ex.refl H) q
  cases o with
  | bin x op w' a b =>
    obtain ⟨p, y, z, rfl, hp, hy, hz⟩ := hd.e2
    obtain rfl := hy.strE
    obtain rfl := hz.intE
    refine rs_y (et_inU [.str "bin", .str "cast"] (ev_var rfl) (ea_cons ev_c (ea_cons ev_c ea_nil)) rfl (by rfl)) (rs_ret (EvS.to (evs_add (evs_add (a := op) (evs_of (ev_at (i := 0) (ev_var rfl) hp rfl)) (evs_c (a := [32]) lit)) (call_ty (t := .w w') (ev_at (i := 1) (ev_var rfl) hp rfl) ho.2.2.1)) (by simp [headTxt])) (by omega))
  | cmp x op w' a b =>
    obtain ⟨p, y, z, rfl, hp, hy, hz⟩ := hd.e2
    obtain rfl := hy.strE
    obtain rfl := hz.intE
    refine rs_n (et_inU [.str "bin", .str "cast"] (ev_var rfl) (ea_cons ev_c (ea_cons ev_c ea_nil)) rfl (by rfl)) (rs_y (et_SK (a := kCmp) (ev_var rfl) ev_c (by decide +kernel)) (rs_ret (EvS.to (evs_add (evs_add (evs_add (a := kCmp ++ [32]) (evs_c lit) (b := op) (evs_of (ev_at (i := 0) (ev_var rfl) hp rfl))) (evs_c (a := [32]) lit)) (call_ty (t := .w w') (ev_at (i := 1) (ev_var rfl) hp rfl) ho.2.2.1)) (by simp [headTxt])) (by omega)))
  | sel x t c a b =>
    obtain ⟨p, y, rfl, hp, hy⟩ := hd.e1
    obtain rfl := hy.ty
    refine rs_n (et_inU [.str "bin", .str "cast"] (ev_var rfl) (ea_cons ev_c (ea_cons ev_c ea_nil)) rfl (by rfl)) (rs_n (et_SK (a := kSel) (ev_var rfl) ev_c (by decide +kernel)) (rs_ret (EvS.to (evs_add (evs_add (a := kSel) (evs_var rfl) (evs_c (a := [32]) lit)) (call_ty (t := t) (ev_at (i := 0) (ev_var rfl) hp rfl) ho.2.1)) (by simp [headTxt])) (by omega)))
  | cast x kd v' w' a =>
    obtain ⟨p, y, z, z2, rfl, hp, hy, hz, hz2⟩ := hd.e3
    obtain rfl := hy.strE
    obtain rfl := hz.intE
    refine rs_y (et_inU [.str "bin", .str "cast"] (ev_var rfl) (ea_cons ev_c (ea_cons ev_c ea_nil)) rfl (by rfl)) (rs_ret (EvS.to (evs_add (evs_add (a := kd) (evs_of (ev_at (i := 0) (ev_var rfl) hp rfl)) (evs_c (a := [32]) lit)) (call_ty (t := .w v') (ev_at (i := 1) (ev_var rfl) hp rfl) ho.2.2.1)) (by simp [headTxt])) (by omega))
  | alloca x w' size =>
    obtain ⟨p, y, z, rfl, hp, hy, hz⟩ := hd.e2
    obtain rfl := hy.intE
    refine rs_n (et_inU [.str "bin", .str "cast"] (ev_var rfl) (ea_cons ev_c (ea_cons ev_c ea_nil)) rfl (by rfl)) (rs_n (et_SK (a := kAlloca) (ev_var rfl) ev_c (by decide +kernel)) (rs_ret (EvS.to (evs_add (evs_add (a := kAlloca) (evs_var rfl) (evs_c (a := [32]) lit)) (call_ty (t := .w w') (ev_at (i := 0) (ev_var rfl) hp rfl) ho.2.1)) (by simp [headTxt])) (by omega)))
  | mem x kd w' args =>
    obtain ⟨p, y, rfl, hp, hy⟩ := hd.e1
    obtain rfl := hy.intE
    have hm := mem_kind ho.2.1
    have hb : (decide (([.str "bin", .str "cast"] : List V).length ≤ 100) && ([.str "bin", .str "cast"] : List V).all flatV && decide (inV (vS kd) [.str "bin", .str "cast"] = false)) = true ∧ decide (V.str (SX.S kd) = V.str "cmp") = false := by
      rcases hm with ⟨rfl, _⟩ | ⟨rfl, _⟩ | ⟨rfl, _⟩ | ⟨rfl, _⟩ | ⟨rfl, _⟩ <;> decide +kernel
    refine rs_n (et_inU [.str "bin", .str "cast"] (ev_var rfl) (ea_cons ev_c (ea_cons ev_c ea_nil)) rfl hb.1) (rs_n (et_SK (a := kd) (ev_var rfl) ev_c hb.2) (rs_ret (EvS.to (evs_add (evs_add (a := kd) (evs_var rfl) (evs_c (a := [32]) lit)) (call_ty (t := .w w') (ev_at (i := 0) (ev_var rfl) hp rfl) ho.2.2.1)) (by simp [headTxt])) (by omega)))
  | call x name args => exact absurd rfl hk
theorem call_head {σ : L2.St} {H : Hp} {E : XK} {ta tb : TE} {v : V} {o : Op} (h1 : Ev ta σ H (vS o.kind)) (h2 : Ev tb σ H v) (hd : Dt H v (.tuple o.info)) (ho : OpOk o) (hk : o.kind ≠ kCall) : EvS (tCall spHead [] E (tCons ta (tCons tb tNil))) σ H (headTxt o) :=
  evs_call (ea_cons h1 (ea_cons h2 ea_nil)) (spS fun H1 e Q q E => ⟨_, _, rfl, o, rfl, hd.kt (KT.ex e), ho, hk, q⟩)
/-! ### deed_text -/
def spDeed : Sp := Pr3 fun k i as H Q => ∃ o : Op, k = vS o.kind ∧ Dt H i (.tuple o.info) ∧ Dt H as (argsPy o.args) ∧ OpOk o ∧ RetS (deedTxt o) H Q
theorem ok_deed_text (T : Txt w K mg) (c_type_text : C8.Cal P w K mg base 1 "type_text" spTyText []) (c_args_text : C8.Cal P w K mg base 2 "args_text" spArgs []) (c_head_text : C8.Cal P w K mg base 2 "head_text" spHead []) : C8.Cal P w K mg base 3 "deed_text" spDeed [] := by
  refine T.cal m_def_deed_text m_glo_deed_text sc_deed_text bi_deed_text len3 (fun cdv A outer s H vs Q E hr h => ?_)
  obtain ⟨k, i, as, rfl, o, rfl, hd, has, ho, q⟩ := h
  refine ⟨_, (pss_cons (ps_if (pt_cmpR op_eq (pv 0) pe_str (nomark _)) (pss_one (ps_ret (pe_op op_cats (pe_op op_cats (pe_op op_cats (pe_op op_cats pe_str (pe_ix ix_tup (pv 1) pe_int (fun _ _ => rfl))) pe_str) (C8.pe_c c_args_text hr (by decide) (by rfl) (pa_cons (pv 2) pa_nil))) pe_str))) pss_nil)
  (pss_cons (ps_set (i := 3) sc_deed_text.nd rfl (Or.inl rfl) (C8.pe_c c_head_text hr (by decide) (by rfl) (pa_cons (pv 0) (pa_cons (pv 1) pa_nil))))
  (pss_cons (ps_if (pt_cmpR op_eq (pv 0) pe_str (nomark _)) (pss_one (ps_ret (pe_op op_cats (pe_op op_cats (pv 3) pe_str) (pe_callTy cr_strI (by rfl) (T.free m_free_str) (by decide +kernel) (pa_cons (pe_ix ix_tup (pv 1) pe_int (fun _ _ => rfl)) pa_nil))))) pss_nil)
  (pss_cons (ps_if (pt_cmpR op_eq (pv 0) pe_str (nomark _)) (pss_one (ps_ret (pe_op op_cats (pe_op op_cats (pe_op op_cats (pe_op op_cats (pv 3) pe_str) (C8.pe_c c_args_text hr (by decide) (by rfl) (pa_cons (pv 2) pa_nil))) pe_str) (C8.pe_c c_type_text hr (by decide) (by rfl) (pa_cons (pe_ix ix_tup (pv 1) pe_int (fun _ _ => rfl)) pa_nil))))) pss_nil)
  (pss_one (ps_ret (pe_ifExp (pt_cmpR op_eq (pv 0) pe_str (nomark _)) (pv 3) (pe_op op_cats (pe_op op_cats (pv 3) pe_str) (C8.pe_c c_args_text hr (by decide) (by rfl) (pa_cons (pv 2) pa_nil)))))))))), ?_⟩
  have hl := deed_len ho
  have hh := head_len ho
  have hA := op_args ho
  refine (?_ : RS _ _ H (deedTxt o)) _ H (Ex.refl H) q
  by_cases hc : o.kind = kCall
  · have hcall : ∃ x name args, o = .call x name args := by
      cases o with
      | call x name args => exact ⟨x, name, args, rfl⟩
      | mem x kd w' args =>
        have hm := mem_kind ho.2.1
        have e : kd = kCall := hc
        subst e
        rcases hm with ⟨h, _⟩ | ⟨h, _⟩ | ⟨h, _⟩ | ⟨h, _⟩ | ⟨h, _⟩ <;> exact absurd h (by decide)
      | bin x op w a b => exact absurd (show kBin = kCall from hc) (by decide)
      | cmp x op w a b => exact absurd (show kCmp = kCall from hc) (by decide)
      | sel x t c a b => exact absurd (show kSel = kCall from hc) (by decide)
      | cast x kd v w a => exact absurd (show kCast = kCall from hc) (by decide)
      | alloca x w size => exact absurd (show kAlloca = kCall from hc) (by decide)
    obtain ⟨x, name, args, rfl⟩ := hcall
    obtain ⟨p, y, rfl, hp, hy⟩ := hd.e1
    obtain rfl := hy.strE
    exact rs_y (et_SK (a := kCall) (ev_var rfl) ev_c (by decide +kernel)) (rs_ret (EvS.to (evs_add (evs_add (evs_add (evs_add (a := kCall ++ [32, 64]) (evs_c lit) (b := name) (evs_of (ev_at (i := 0) (ev_var rfl) hp rfl))) (evs_c (a := [40]) lit)) (call_args (ev_var rfl) has hA)) (evs_c (a := [41]) lit)) (by simp [deedTxt, Op.args])) (by omega))
  · have hn : decide (V.str (SX.S o.kind) = V.str "call") = false := decide_eq_false fun e => hc (SX.S_inj (by
      rw [show SX.S kCall = Str.ofString "call" by decide +kernel]
      injection e))
    refine rs_n (et_SK (ev_var rfl) ev_c hn) (rs_asg (call_head (ev_var rfl) (ev_var rfl) hd ho hc) (by omega) ?_)
    by_cases hs : decide (V.str (SX.S o.kind) = V.str "alloca") = false ∧ decide (V.str (SX.S o.kind) = V.str "cast") = false ∧ decide (V.str (SX.S o.kind) = V.str "input") = false ∧ deedTxt o = headTxt o ++ 32 :: argsTxt o.args
    · exact rs_n (et_SK (a := o.kind) (ev_var rfl) ev_c hs.1) (rs_n (et_SK (a := o.kind) (ev_var rfl) ev_c hs.2.1) (rs_ret (evs_if_n (et_SK (a := o.kind) (ev_var rfl) ev_c hs.2.2.1) (EvS.to (evs_add (evs_add (a := headTxt o) (evs_var rfl) (evs_c (a := [32]) lit)) (call_args (ev_var rfl) has hA)) (by rw [hs.2.2.2]; simp))) (by omega)))
    cases o with
    | bin x op w' a b => exact absurd ⟨by rfl, by rfl, by rfl, by simp [deedTxt, Op.args]⟩ hs
    | cmp x op w' a b => exact absurd ⟨by rfl, by rfl, by rfl, by simp [deedTxt, Op.args]⟩ hs
    | sel x t c a b => exact absurd ⟨by rfl, by rfl, by rfl, by simp [deedTxt, Op.args]⟩ hs
    | cast x kd v' w' a =>
      obtain ⟨p, y, z, z2, rfl, hp, hy, hz, hz2⟩ := hd.e3
      obtain rfl := hz2.intE
      exact rs_n (et_SK (a := kCast) (ev_var rfl) ev_c (by decide +kernel)) (rs_y (et_SK (a := kCast) (ev_var rfl) ev_c (by decide +kernel)) (rs_ret (EvS.to (evs_add (evs_add (evs_add (evs_add (a := headTxt (.cast x kd v' w' a)) (evs_var rfl) (evs_c (a := [32]) lit)) (call_args (ev_var rfl) has hA)) (evs_c (a := 32 :: kTo ++ [32]) lit)) (call_ty (t := .w w') (ev_at (i := 2) (ev_var rfl) hp rfl) ho.2.2.2.1)) (by simp [deedTxt, Op.args])) (by omega)))
    | alloca x w' size =>
      obtain ⟨p, y, z, rfl, hp, hy, hz⟩ := hd.e2
      obtain rfl := hz.intE
      exact rs_y (et_SK (a := kAlloca) (ev_var rfl) ev_c (by decide +kernel)) (rs_ret (EvS.to (evs_add (evs_add (a := headTxt (.alloca x w' size)) (evs_var rfl) (evs_c (a := [44, 32]) lit)) (evs_num (ev_at (i := 1) (ev_var rfl) hp rfl) ho.2.2)) (by simp [deedTxt])) (by omega))
    | mem x kd w' args =>
      have hm := mem_kind ho.2.1
      have ne : args.length ≠ 0 → deedTxt (.mem x kd w' args) = headTxt (.mem x kd w' args) ++ 32 :: argsTxt args := fun h => by
        unfold deedTxt
        exact if_neg fun e => h (by
          have e' : args = [] := e
          rw [e']
          rfl)
      rcases hm with ⟨rfl, _, h⟩ | ⟨rfl, _, h⟩ | ⟨rfl, _, h⟩ | ⟨rfl, _, h⟩ | ⟨rfl, _, h⟩
      · exact absurd ⟨by rfl, by rfl, by rfl, ne (by omega)⟩ hs
      · exact absurd ⟨by rfl, by rfl, by rfl, ne (by omega)⟩ hs
      · exact absurd ⟨by rfl, by rfl, by rfl, ne (by omega)⟩ hs
      · exact absurd ⟨by rfl, by rfl, by rfl, ne (by omega)⟩ hs
      · obtain rfl := List.eq_nil_of_length_eq_zero h
        exact rs_n (et_SK (a := kInput) (ev_var rfl) ev_c (by decide +kernel)) (rs_n (et_SK (a := kInput) (ev_var rfl) ev_c (by decide +kernel)) (rs_ret (evs_if_y (et_SK (a := kInput) (ev_var rfl) ev_c (by decide +kernel)) (EvS.to (a := headTxt (.mem x kInput w' [])) (evs_var rfl) (by simp [deedTxt, Op.args]))) (by omega)))
    | call x name args => exact absurd rfl hc
theorem call_deed {σ : L2.St} {H : Hp} {E : XK} {ta tb tc : TE} {v u : V} {o : Op} (h1 : Ev ta σ H (vS o.kind)) (h2 : Ev tb σ H v) (h3 : Ev tc σ H u) (hd : Dt H v (.tuple o.info)) (hu : Dt H u (argsPy o.args)) (ho : OpOk o) : EvS (tCall spDeed [] E (tCons ta (tCons tb (tCons tc tNil)))) σ H (deedTxt o) :=
  evs_call (ea_cons h1 (ea_cons h2 (ea_cons h3 ea_nil))) (spS fun H1 e Q q E => ⟨_, _, _, rfl, o, rfl, hd.kt (KT.ex e), hu.kt (KT.ex e), ho, q⟩)
/-! ### op_text -/
def spOp : Sp := Pr1 fun v H Q => ∃ o : Op, Dt H v o.py ∧ OpOk o ∧ RetS o.txt H Q
def optV : Option Nat → V
  | none => .non
  | some n => .int (n : Int)
theorem Dt.opt {H : Hp} {v : V} {o : Option Nat} (h : Dt H v (optPy o)) : v = optV o := by
  cases o with
  | none => exact h.nonE
  | some n => exact h.intE
theorem opt_non (o : Option Nat) : decide (optV o = .non) = o.isNone := by
  cases o <;> rfl
theorem ok_op_text (T : Txt w K mg) (c_deed_text : C8.Cal P w K mg base 3 "deed_text" spDeed []) : CalB P w K mg base 4 "op_text" "op" spOp := by
  refine T.calB m_def_op_text m_glo_op_text sc_op_text bi_op_text (fun _ _ _ _ _ _ _ => rfl) len1 (fun cdv A outer s H vs Q E hr h => ?_)
  obtain ⟨v, rfl, o, hd, ho, q⟩ := h
  refine ⟨_, (pss_cons (ps_asg (pv 0) (pg_tup rfl (pgs_cons (pg_name (i := 1) sc_op_text.nd rfl (Or.inl rfl)) (pgs_cons (pg_name (i := 2) sc_op_text.nd rfl (Or.inl rfl)) (pgs_cons (pg_name (i := 3) sc_op_text.nd rfl (Or.inl rfl)) (pgs_cons (pg_name (i := 4) sc_op_text.nd rfl (Or.inl rfl)) pgs_nil))))))
  (pss_cons (ps_set (i := 5) sc_op_text.nd rfl (Or.inl rfl) (C8.pe_c c_deed_text hr (by decide) (by rfl) (pa_cons (pv 2) (pa_cons (pv 3) (pa_cons (pv 4) pa_nil)))))
  (pss_one (ps_ret (pe_ifExp (pt_cmpR op_isN1 (pv 1) pe_non (nomark _)) (pv 5) (pe_op op_cats (pe_op op_cats (pe_op op_cats pe_str (pe_callTy cr_strI (by rfl) (T.free m_free_str) (by decide +kernel) (pa_cons (pv 1) pa_nil))) pe_str) (pv 5))))))), ?_⟩
  have hl := op_len ho
  have hdl := deed_len ho
  have hm := op_made ho
  obtain ⟨p, y1, y2, y3, y4, rfl, hp, h1, h2, h3, h4⟩ := hd.e4
  obtain rfl := h1.opt
  obtain rfl := h2.strE
  refine (?_ : RS _ _ H o.txt) _ H (Ex.refl H) q
  refine rs_tup (ev_var rfl) rfl hp rfl (fun H1 Q q => ⟨_, _, rfl, _, _, rfl, _, _, rfl, _, _, rfl, rfl, q⟩) (rs_asg (call_deed (ev_var rfl) (ev_var rfl) (ev_var rfl) h3 h4 ho) (by omega) (rs_ret (evs_if (et_isN (ev_var rfl)) (fun e => ?_) fun e => ?_) (by omega)))
  · rw [opt_non] at e
    unfold Op.txt
    cases hx : o.made with
    | none => exact evs_var rfl
    | some n =>
      rw [hx] at e
      cases e
  · rw [opt_non] at e
    unfold Op.txt
    cases hx : o.made with
    | none =>
      rw [hx] at e
      cases e
    | some n =>
      rw [hx] at hm
      exact EvS.to (evs_add (evs_add (evs_add (a := [36]) (evs_c lit) (evs_num (n := n) (ev_var rfl) hm)) (evs_c (a := [32, 61, 32]) lit)) (evs_var (a := deedTxt o) rfl)) (by simp)
end
end K6
/-! K6W3: the program's writing: endings, globals, blocks, functions, modules. -/
namespace K6
open PySem PySem.Spec PyProof.Rows L2 Evl
section
variable {K : PySem.W.Frag} {σ : L2.St} {H H' : Hp} {ta te : TE} {tt : TT} {t u : TS} {a b : Tx}
/-- one of two lists behind another, both told -/
theorem el_cat {xs ys : List V} {tb : TE} (ha : EvL ta σ H xs) (hb : EvL tb σ H ys) (hz : xs.length + ys.length ≤ 100000) : EvL (tOp rCat ta tb) σ H (xs ++ ys) := fun H1 e Q q =>
  ha H1 e _ fun p H2 hp e2 h2 => hb H2 (e.trans e2) _ fun r H3 hr e3 h3 => ⟨p, r, xs, ys, rfl, rfl, e3 p _ h2, h3, sz_of hz, fun z hz => q z _ (fresh_back (e2.trans e3) hz) ((e2.trans e3).trans (Ex.new hz)) upd_same⟩
theorem el_catV {xs ys : List V} {tb : TE} {L : Addr} (ha : Ev ta σ H (.ref L)) (hL : H L = some (.lst xs)) (hb : EvL tb σ H ys) (hz : xs.length + ys.length ≤ 100000) : EvL (tOp rCat ta tb) σ H (xs ++ ys) := fun H1 e Q q =>
  ha H1 e _ fun H2 e2 => hb H2 (e.trans e2) _ fun r H3 hr e3 h3 => ⟨L, r, xs, ys, rfl, rfl, e3 L _ (e2 L _ (e L _ hL)), h3, sz_of hz, fun z hz => q z _ (fresh_back (e2.trans e3) hz) ((e2.trans e3).trans (Ex.new hz)) upd_same⟩
/-- [e], a text -/
theorem el_one (h : EvS te σ H a) (hz : a.length ≤ 60000) : EvL (tLst (tCons te tNil)) σ H [vS a] := el_lst (ea_cons (h hz) ea_nil) (by show 1 ≤ 100000; omega)
theorem evs_joinV {x : Str} {s : Tx} {l : List Tx} {L : Addr} (hx : x = SX.S s) (hl : s.length ≤ 4) (h : Ev te σ H (.ref L)) (hL : H L = some (.lst (l.map vS))) : EvS (tM1 (rJoin K) (tC (.str x)) te) σ H (TL.joinL s l) := fun hz => by
  subst hx
  intro H1 e Q q
  refine ⟨⟨_, rfl⟩, h H1 e _ fun H2 e2 => ?_⟩
  refine ⟨_, L, l.map SX.S, rfl, rfl, .inl (by rw [← vmap]; exact sq_of (e2 L _ (e L _ hL))), ?_, ?_⟩
  · rw [lens_S, List.length_map, len_S]
    have := join_tot s l hl
    omega
  · rw [join_S']
    exact q H2 e2
/-- a tuple taken apart -/
theorem q_tup {p : Addr} {xs : List V} {n : Nat} {tg : TGs} {σ2 : L2.St} {D : Ends} (h : Ev te σ H (.ref p)) (hp : H p = some (.tup xs)) (hn : xs.length = n) (hg : ∀ H1 Q, Q σ2 H1 → tg xs σ H1 Q) (k : ∀ H1, Ex H H1 → u D σ2 H1) : tSeq (tAsg te (gTup K n tg)) u D σ H :=
  h H (Ex.refl H) _ fun H2 e2 => ⟨p, xs, rfl, SqT.of (e2 p _ hp), hn, hg _ _ (k H2 e2)⟩
/-- texts of a tuple's data, any target -/
theorem els_mapG {α : Type} {f : α → PyData} {tx : α → Tx} {l : List α} {p : Addr} {xs : List V} {tl : TE} {g : TG} {vs : List Nat} (h : Ev tl σ H (.ref p)) (hx : H p = some (.tup xs)) (hd : DtA H xs (l.map f)) (hz : l.length ≤ 1000)
    (he : ∀ (b : α) (x : V) (H1 : Hp), Ex H H1 → b ∈ l → Dt H1 x (f b) → ∃ σ2, wipe σ2 vs = wipe σ vs ∧ (∀ R : L2.St → Hp → Prop, R σ2 H1 → g x (wipe σ vs) H1 R) ∧ EvS te σ2 H1 (tx b)) : EvLS (tLc (iTup K tl) g tYes te vs) σ H (l.map tx) := fun ht => by
  have hl := hd.length
  rw [List.length_map] at hl
  refine el_lcT h hx (by rw [List.length_map, List.length_map, hl]) (by omega) fun i x y H1 e hi hy R q => ?_
  obtain ⟨b, hb, hdb⟩ := hd.mapGet hi
  have hy' : y = vS (tx b) := by
    rw [List.map_map, List.getElem?_map, hb] at hy
    exact (Option.some.inj hy).symm
  have hm := List.mem_of_getElem? hb
  have hle : (tx b).length ≤ (l.map fun c => (tx c).length).sum := sum_mem (fun c => (tx c).length) hm
  subst hy'
  obtain ⟨σ2, h1, h2, h3⟩ := he b x H1 e hm (hdb.kt (KT.ex e))
  refine h2 _ (q σ2 h1 (h3 ?_))
  unfold tot at ht
  rw [List.map_map] at ht
  simp only [Function.comp_def] at ht
  omega
/-- for x in data: lines.extend(lines of x) -/
theorem q_forExt {α : Type} {f : α → PyData} {ln : α → List Tx} {l : List α} {p L : Addr} {xs acc : List V} {tl tv : TE} {j : Nat} {D : Ends} {H0 : Hp} (h : Ev tl σ H (.ref p)) (hx : H0 p = some (.tup xs)) (hd : DtA H0 xs (l.map f)) (hL0 : H0 L = none) (e0 : Ex H0 H) (hL : H L = some (.lst acc))
    (hz : acc.length + (l.flatMap ln).length ≤ 100000) (hj : ∃ y, σ.set j y = σ) (hv : ∀ x H1, Ev tv (σ.set j x) H1 (.ref L))
    (he : ∀ (b : α) (x : V) (H1 : Hp), Ex H0 H1 → b ∈ l → Dt H1 x (f b) → EvL te (σ.set j (some x)) H1 ((ln b).map vS)) (k : ∀ y H1, Ex H0 H1 → H1 L = some (.lst (acc ++ (l.flatMap ln).map vS)) → u D (σ.set j y) H1) :
    tSeq (tFor (iTup K tl) (gName j) (tDrop (tBM K "list" rExtend tv (tCons te tNil)))) u D σ H := by
  have hl := hd.length
  rw [List.length_map] at hl
  refine q_forT h (SqT.of (e0 p _ hx)) (fun i σ' H' => (∃ y, σ' = σ.set j y) ∧ Ex H0 H' ∧ H' L = some (.lst (acc ++ ((l.take i).flatMap ln).map vS))) (fun H1 e => ⟨?_, e0.trans e, by rw [List.take_zero]; simpa using e L _ hL⟩)
    (fun i σ' H' _ p => SqT.of (p.2.1 _ _ hx)) (fun i x σ' H' hi ⟨⟨y, hy⟩, e, hLL⟩ => ?_) (fun σ' H' ⟨⟨y, hy⟩, e, hLL⟩ => ?_)
  · obtain ⟨y, hy⟩ := hj
    exact ⟨y, hy.symm⟩
  · obtain ⟨b, hb, hdb⟩ := hd.mapGet hi
    subst hy
    show tDrop _ _ _ _
    rw [List.set_set]
    have hle : ((l.take i).flatMap ln).length + (ln b).length ≤ (l.flatMap ln).length := by
      have e1 : l.flatMap ln = (l.take (i + 1)).flatMap ln ++ (l.drop (i + 1)).flatMap ln := by rw [← List.flatMap_append, List.take_append_drop]
      rw [e1, List.take_add_one, hb, List.length_append, List.flatMap_append, List.length_append]
      simp
    refine hv _ H' H' (Ex.refl H') _ fun H1 e1 => ⟨Or.inl ⟨rfl, _, sq_of (e1 L _ hLL)⟩, ?_⟩
    refine he b x H' e (List.mem_of_getElem? hb) (hdb.kt (KT.ex e)) H1 e1 _ fun q H2 hq e2 h2 => ⟨L, q, _, _, rfl, rfl, e2 L _ (e1 L _ hLL), h2, ?_, ⟨_, rfl⟩, ?_, ?_⟩
    · refine sz_of ?_
      rw [List.length_append, List.length_map, List.length_map]
      omega
    · exact Ex.mut (e.trans (e1.trans e2)) hL0
    · rw [upd_same, List.take_add_one, hb, List.flatMap_append, List.map_append, ← List.append_assoc]
      simp
  · subst hy
    refine k y H' e ?_
    rw [hl, List.take_length] at hLL
    exact hLL
end
section
variable {P : Program} {w : World} {K : PySem.W.Frag} {mg : Str → Option Value} {base : Heap}
theorem call_op {σ : L2.St} {H : Hp} {E : XK} {te : TE} {v : V} {o : Op} (h : Ev te σ H v) (hd : Dt H v o.py) (ho : OpOk o) : EvS (tCall spOp [] E (tCons te tNil)) σ H o.txt :=
  evs_call (ea_cons h ea_nil) (spS fun H1 e Q q E => ⟨_, rfl, o, hd.kt (KT.ex e), ho, q⟩)
/-! ### ending_text -/
def spEnd : Sp := Pr1 fun v H Q => ∃ o : End, Dt H v o.py ∧ EndOk o ∧ RetS o.txt H Q
theorem call_end {σ : L2.St} {H : Hp} {E : XK} {te : TE} {v : V} {o : End} (h : Ev te σ H v) (hd : Dt H v o.py) (ho : EndOk o) : EvS (tCall spEnd [] E (tCons te tNil)) σ H o.txt :=
  evs_call (ea_cons h ea_nil) (spS fun H1 e Q q E => ⟨_, rfl, o, hd.kt (KT.ex e), ho, q⟩)
theorem ok_ending_text (T : Txt w K mg) (c_operand_text : C8.Cal P w K mg base 1 "operand_text" spOpd []) (c_target_text : C8.Cal P w K mg base 3 "target_text" spTgt []) : CalB P w K mg base 4 "ending_text" "ending" spEnd := by
  refine T.calB m_def_ending_text m_glo_ending_text sc_ending_text bi_ending_text (fun _ _ _ _ _ _ _ => rfl) len1 (fun cdv A outer s H vs Q E hr h => ?_)
  obtain ⟨v, rfl, o, hd, ho, q⟩ := h
  refine ⟨_, (pss_cons (ps_if (pt_cmpR op_eq (pe_ix ix_tup (pv 0) pe_int (fun _ _ => rfl)) pe_str (nomark _)) (pss_one (ps_ret (pe_op op_cats pe_str (C8.pe_c c_target_text hr (by decide) (by rfl) (pa_cons (pe_ix ix_tup (pv 0) pe_int (fun _ _ => rfl)) pa_nil))))) pss_nil)
  (pss_cons (ps_if (pt_cmpR op_eq (pe_ix ix_tup (pv 0) pe_int (fun _ _ => rfl)) pe_str (nomark _)) (pss_one (ps_ret (pe_op op_cats (pe_op op_cats (pe_op op_cats (pe_op op_cats (pe_op op_cats pe_str (C8.pe_c c_operand_text hr (by decide) (by rfl) (pa_cons (pe_ix ix_tup (pv 0) pe_int (fun _ _ => rfl)) pa_nil))) pe_str) (C8.pe_c c_target_text hr (by decide) (by rfl) (pa_cons (pe_ix ix_tup (pv 0) pe_int (fun _ _ => rfl)) pa_nil))) pe_str) (C8.pe_c c_target_text hr (by decide) (by rfl) (pa_cons (pe_ix ix_tup (pv 0) pe_int (fun _ _ => rfl)) pa_nil))))) pss_nil)
  (pss_cons (ps_if (PW.pt (pw_or (pt_cmpR op_eq (pe_ix ix_tup (pv 0) pe_int (fun _ _ => rfl)) pe_str (nomark _)) (pw_or1 (pt_cmpR op_isN1 (pe_ix ix_tup (pv 0) pe_int (fun _ _ => rfl)) pe_non (nomark _))))) (pss_one (ps_ret (pe_ix ix_tup (pv 0) pe_int (fun _ _ => rfl)))) pss_nil)
  (pss_one (ps_ret (pe_op op_cats pe_str (C8.pe_c c_operand_text hr (by decide) (by rfl) (pa_cons (pe_ix ix_tup (pv 0) pe_int (fun _ _ => rfl)) pa_nil)))))))), ?_⟩
  have hl := end_len ho
  refine (?_ : RS _ _ H o.txt) _ H (Ex.refl H) q
  cases o with
  | jump t =>
    obtain ⟨p, y1, y2, rfl, hp, h1, h2⟩ := hd.e2
    obtain rfl := h1.strE
    have h0 : ∀ σ : L2.St, σ[0]? = some (some (.ref p)) → Ev (tOp (rIxT K) (tVar 0) (tC (.int 0))) σ H (vS kJump) := fun σ h => ev_at (i := 0) (ev_var h) hp rfl
    exact rs_y (et_SK (a := kJump) (h0 _ rfl) ev_c (by decide +kernel)) (rs_ret (EvS.to (evs_add (a := kJump ++ [32]) (evs_c lit) (call_tgt (t := t) (ev_at (i := 1) (ev_var rfl) hp rfl) h2 ho)) (by simp [End.txt])) (by omega))
  | branch c s t =>
    obtain ⟨p, y1, y2, y3, y4, rfl, hp, h1, h2, h3, h4⟩ := hd.e4
    obtain rfl := h1.strE
    have h0 : ∀ σ : L2.St, σ[0]? = some (some (.ref p)) → Ev (tOp (rIxT K) (tVar 0) (tC (.int 0))) σ H (vS kBranch) := fun σ h => ev_at (i := 0) (ev_var h) hp rfl
    exact rs_n (et_SK (a := kBranch) (h0 _ rfl) ev_c (by decide +kernel)) (rs_y (et_SK (a := kBranch) (h0 _ rfl) ev_c (by decide +kernel)) (rs_ret (EvS.to (evs_add (evs_add (evs_add (evs_add (evs_add (a := kBranch ++ [32]) (evs_c lit) (call_opd (o := c) (ev_at (i := 1) (ev_var rfl) hp rfl) h2 ho.1)) (evs_c (a := [44, 32]) lit)) (call_tgt (t := s) (ev_at (i := 2) (ev_var rfl) hp rfl) h3 ho.2.1)) (evs_c (a := [44, 32]) lit)) (call_tgt (t := t) (ev_at (i := 3) (ev_var rfl) hp rfl) h4 ho.2.2)) (by simp [End.txt])) (by omega)))
  | ret o =>
    cases o with
    | none =>
      obtain ⟨p, y1, y2, rfl, hp, h1, h2⟩ := hd.e2
      obtain rfl := h1.strE
      obtain rfl := h2.nonE
      have h0 : ∀ σ : L2.St, σ[0]? = some (some (.ref p)) → Ev (tOp (rIxT K) (tVar 0) (tC (.int 0))) σ H (vS kRet) := fun σ h => ev_at (i := 0) (ev_var h) hp rfl
      exact rs_n (et_SK (a := kRet) (h0 _ rfl) ev_c (by decide +kernel)) (rs_n (et_SK (a := kRet) (h0 _ rfl) ev_c (by decide +kernel)) (rs_y (et_is (et_or (et_SK (a := kRet) (r := false) (h0 _ rfl) ev_c (by decide +kernel)) fun _ => et_isN (ev_at (i := 1) (ev_var rfl) hp rfl)) rfl) (rs_ret (EvS.to (a := kRet) (evs_of (h0 _ rfl)) rfl) (by omega))))
    | some o =>
      obtain ⟨p, y1, y2, rfl, hp, h1, h2⟩ := hd.e2
      obtain rfl := h1.strE
      have h0 : ∀ σ : L2.St, σ[0]? = some (some (.ref p)) → Ev (tOp (rIxT K) (tVar 0) (tC (.int 0))) σ H (vS kRet) := fun σ h => ev_at (i := 0) (ev_var h) hp rfl
      have hn : decide (y2 = .non) = false := decide_eq_false fun e => by
        subst e
        cases o <;> cases h2
      exact rs_n (et_SK (a := kRet) (h0 _ rfl) ev_c (by decide +kernel)) (rs_n (et_SK (a := kRet) (h0 _ rfl) ev_c (by decide +kernel)) (rs_n (et_is (et_or (et_SK (a := kRet) (r := false) (h0 _ rfl) ev_c (by decide +kernel)) fun _ => et_isN (ev_at (i := 1) (ev_var rfl) hp rfl)) (by rw [hn]; rfl)) (rs_ret (EvS.to (evs_add (a := kRet ++ [32]) (evs_c lit) (call_opd (o := o) (ev_at (i := 1) (ev_var rfl) hp rfl) h2 ho)) (by simp [End.txt])) (by omega))))
  | stop =>
    obtain ⟨p, y1, rfl, hp, h1⟩ := hd.e1
    obtain rfl := h1.strE
    have h0 : ∀ σ : L2.St, σ[0]? = some (some (.ref p)) → Ev (tOp (rIxT K) (tVar 0) (tC (.int 0))) σ H (vS kStop) := fun σ h => ev_at (i := 0) (ev_var h) hp rfl
    exact rs_n (et_SK (a := kStop) (h0 _ rfl) ev_c (by decide +kernel)) (rs_n (et_SK (a := kStop) (h0 _ rfl) ev_c (by decide +kernel)) (rs_y (et_is (et_or (b := false) (et_SK (a := kStop) (r := true) (h0 _ rfl) ev_c (by decide +kernel)) fun e => by cases e) rfl) (rs_ret (EvS.to (a := kStop) (evs_of (h0 _ rfl)) rfl) (by omega))))
/-! ### global_line -/
def spGb : Sp := Pr1 fun v H Q => ∃ g : Gb, Dt H v g.py ∧ GbOk g ∧ RetS g.txt H Q
theorem call_gb {σ : L2.St} {H : Hp} {E : XK} {te : TE} {v : V} {o : Gb} (h : Ev te σ H v) (hd : Dt H v o.py) (ho : GbOk o) : EvS (tCall spGb [] E (tCons te tNil)) σ H o.txt :=
  evs_call (ea_cons h ea_nil) (spS fun H1 e Q q E => ⟨_, rfl, o, hd.kt (KT.ex e), ho, q⟩)
theorem gb_len {g : Gb} (h : GbOk g) : g.txt.length ≤ 150 := by
  have h1 := h.name.len
  have h2 := ty_len (t := .w g.w) h.w
  have h3 := cj_len (tx := num) (k := 20) (l := g.cells) fun c hc => num_len (cell_lt h.w (h.cells c hc))
  have h4 := h.clen
  simp only [Gb.txt, kGlobal, List.length_append, List.length_cons, List.length_nil]
  omega
theorem ok_global_line (T : Txt w K mg) (c_type_text : C8.Cal P w K mg base 1 "type_text" spTyText []) : C8.Cal P w K mg base 2 "global_line" spGb [] := by
  refine T.cal m_def_global_line m_glo_global_line sc_global_line bi_global_line len1 (fun cdv A outer s H vs Q E hr h => ?_)
  obtain ⟨v, rfl, g, hd, ho, q⟩ := h
  refine ⟨_, (pss_cons (ps_asg (pv 0) (pg_tup rfl (pgs_cons (pg_name (i := 1) sc_global_line.nd rfl (Or.inl rfl)) (pgs_cons (pg_name (i := 2) sc_global_line.nd rfl (Or.inl rfl)) (pgs_cons (pg_name (i := 3) sc_global_line.nd rfl (Or.inl rfl)) (pgs_cons (pg_name (i := 4) sc_global_line.nd rfl (Or.inl rfl)) pgs_nil))))))
  (pss_one (ps_ret (pe_op op_cats (pe_op op_cats (pe_op op_cats (pe_op op_cats (pe_op op_cats (pe_op op_cats pe_str (pv 1)) pe_str) (C8.pe_c c_type_text hr (by decide) (by rfl) (pa_cons (pv 2) pa_nil))) pe_str) (pe_joinN pe_str (pe_lc (own := [("cell", 5)]) (g := gName 5) rfl sc_global_line.nd (pi_tup (pv 4)) (blkOk_by (N := n_global_line) (sc := defScope s_global_line) (by decide +kernel)) (fun _ _ _ _ _ => (pg_name (i := 5) sc_global_line.nd rfl (Or.inl rfl))) (fun _ _ _ _ _ => pts_nil) (fun _ _ _ _ _ => (pe_callTy cr_strI (by rfl) (T.free m_free_str) (by decide +kernel) (pa_cons (pv 5) pa_nil)))))) pe_str)))), ?_⟩
  have hl := gb_len ho
  obtain ⟨p, y1, y2, y3, y4, rfl, hp, h1, h2, h3, h4⟩ := hd.e4
  obtain rfl := h1.strE
  obtain rfl := h2.intE
  obtain ⟨a, xs, rfl, ha, hx⟩ := h4.tupE
  have hc : ∀ c ∈ g.cells, c < 2 ^ 64 := fun c hc => cell_lt ho.w (ho.cells c hc)
  have hcl := ho.clen
  have h2 := tot_le (tx := num) (k := 20) (l := g.cells) (fun c h => num_len (hc c h))
  refine (?_ : RS _ _ H g.txt) _ H (Ex.refl H) q
  exact rs_tup (ev_var rfl) rfl hp rfl (fun H1 Q q => ⟨_, _, rfl, _, _, rfl, _, _, rfl, _, _, rfl, rfl, q⟩) (rs_ret (EvS.to (evs_add (evs_add (evs_add (evs_add (evs_add (evs_add (a := [64]) (evs_c lit) (b := g.name) (evs_var rfl)) (evs_c (a := [32, 61, 32] ++ kGlobal ++ [32]) lit)) (call_ty (t := .w g.w) (ev_var rfl) ho.w)) (evs_c (a := [32, 91]) lit))
    (evs_join (s := [44, 32]) lit (by decide) (els_map (ev_var rfl) ha hx (by omega) (fun _ => rfl) fun c x H1 e hm hdx => by
      obtain rfl := hdx.intE
      exact evs_num (n := c) (ev_var rfl) (hc c hm)) (by omega))) (evs_c (a := [93]) lit)) (by simp [Gb.txt])) (by omega))
/-! ### block_lines -/
def spBlk : Sp := Pr1 fun v H Q => ∃ b : Blk, Dt H v b.py ∧ BlkOk' b ∧ RetL (b.lines.map vS) H Q
theorem par_len {p : Nat × Ty} (h : NumOk p.1 ∧ TyOk p.2) : (parTxt p).length ≤ 25 := by
  have h1 := num_len h.1
  have h2 := ty_len h.2
  simp only [parTxt, List.length_append, List.length_cons, List.length_nil]
  omega
theorem ok_block_lines (T : Txt w K mg) (c_type_text : C8.Cal P w K mg base 1 "type_text" spTyText []) (c_op_text : C8.Cal P w K mg base 4 "op_text" spOp []) (c_ending_text : C8.Cal P w K mg base 4 "ending_text" spEnd []) : C8.Cal P w K mg base 5 "block_lines" spBlk [] := by
  refine T.cal m_def_block_lines m_glo_block_lines sc_block_lines bi_block_lines len1 (fun cdv A outer s H vs Q E hr h => ?_)
  obtain ⟨v, rfl, b, hd, ho, q⟩ := h
  refine ⟨_, (pss_cons (ps_asg (pv 0) (pg_tup rfl (pgs_cons (pg_name (i := 1) sc_block_lines.nd rfl (Or.inl rfl)) (pgs_cons (pg_name (i := 2) sc_block_lines.nd rfl (Or.inl rfl)) (pgs_cons (pg_name (i := 3) sc_block_lines.nd rfl (Or.inl rfl)) (pgs_cons (pg_name (i := 4) sc_block_lines.nd rfl (Or.inl rfl)) pgs_nil))))))
  (pss_cons (ps_set (i := 5) sc_block_lines.nd rfl (Or.inl rfl) (pe_joinN pe_str (pe_lc (own := [("value", 6), ("kind", 7)]) (g := gTup _ 2 _) rfl sc_block_lines.nd (pi_tup (pv 2)) (blkOk_by (N := n_block_lines) (sc := defScope s_block_lines) (by decide +kernel)) (fun _ _ _ _ _ => (pg_tup rfl (pgs_cons (pg_name (i := 6) sc_block_lines.nd rfl (Or.inl rfl)) (pgs_cons (pg_name (i := 7) sc_block_lines.nd rfl (Or.inl rfl)) pgs_nil)))) (fun _ _ _ _ _ => pts_nil) (fun _ _ _ _ _ => (pe_op op_cats (pe_op op_cats (C8.pe_c c_type_text hr (by decide) (by rfl) (pa_cons (pv 7) pa_nil)) pe_str) (pe_callTy cr_strI (by rfl) (T.free m_free_str) (by decide +kernel) (pa_cons (pv 6) pa_nil)))))))
  (pss_cons (ps_set (i := 8) sc_block_lines.nd rfl (Or.inl rfl) (pe_lst (pa_cons (pe_op op_cats (pe_op op_cats (pe_op op_cats (pe_op op_cats pe_str (pe_callTy cr_strI (by rfl) (T.free m_free_str) (by decide +kernel) (pa_cons (pv 1) pa_nil))) pe_str) (pv 5)) pe_str) pa_nil)))
  (pss_one (ps_ret (pe_op op_cat (pe_op op_cat (pv 8) (pe_lc (own := [("op", 9)]) (g := gName 9) rfl sc_block_lines.nd (pi_tup (pv 3)) (blkOk_by (N := n_block_lines) (sc := defScope s_block_lines) (by decide +kernel)) (fun _ _ _ _ _ => (pg_name (i := 9) sc_block_lines.nd rfl (Or.inl rfl))) (fun _ _ _ _ _ => pts_nil) (fun _ _ _ _ _ => (pe_op op_cats pe_str (C8.pe_c c_op_text hr (by decide) (by rfl) (pa_cons (pv 9) pa_nil)))))) (pe_lst (pa_cons (pe_op op_cats pe_str (C8.pe_c c_ending_text hr (by decide) (by rfl) (pa_cons (pv 4) pa_nil))) pa_nil)))))))), ?_⟩
  obtain ⟨p, y1, y2, y3, y4, rfl, hp, h1, h2, h3, h4⟩ := hd.e4
  obtain rfl := h1.intE
  obtain ⟨a2, xs2, rfl, ha2, hx2⟩ := h2.tupE
  obtain ⟨a3, xs3, rfl, ha3, hx3⟩ := h3.tupE
  have hpl := ho.plen
  have hol := ho.olen
  have hlab := num_len ho.lab
  have hc := cj_len (tx := parTxt) (k := 25) fun p hp => par_len (ho.pars p hp)
  have ht2 := tot_le (tx := parTxt) (k := 25) fun p hp => par_len (ho.pars p hp)
  have hto := tot_le (tx := fun o : Op => 32 :: 32 :: o.txt) (k := 190) (l := b.ops) fun o h => by
    have := op_len (ho.ops o h)
    simp only [List.length_cons]
    omega
  have hel := end_len ho.en
  refine q_tup (ev_var rfl) hp rfl (fun H1 Q q => ⟨_, _, rfl, _, _, rfl, _, _, rfl, _, _, rfl, rfl, q⟩) fun H1 e1 => ?_
  refine q_asg (v := vS (cj (b.pars.map parTxt))) (evs_join (s := [44, 32]) lit (by decide) (els_mapG (ev_var rfl) (e1 _ _ ha2) (hx2.kt (KT.ex e1)) (by omega) fun pr x H2 e2 hm hdx => ?_) (by omega) (by show (cj (b.pars.map parTxt)).length ≤ _; omega)) fun H2 e2 => ?_
  · obtain ⟨a, z1, z2, rfl, hz, d1, d2⟩ := hdx.e2
    obtain rfl := d1.intE
    obtain rfl := d2.ty
    refine ⟨_, ?w, fun R r => ⟨a, _, rfl, SqT.of hz, rfl, ⟨_, _, rfl, _, _, rfl, rfl, r⟩⟩, ?v⟩
    case w => rfl
    exact EvS.to (evs_add (evs_add (call_ty (t := pr.2) (ev_var rfl) (ho.pars pr hm).2) (evs_c (a := [32, 36]) lit)) (evs_num (n := pr.1) (ev_var rfl) (ho.pars pr hm).1)) (by simp [parTxt])
  refine q_asgL (el_one (a := 98 :: num b.lab ++ 40 :: cj (b.pars.map parTxt) ++ [41, 58]) (EvS.to (evs_add (evs_add (evs_add (evs_add (a := [98]) (evs_c lit) (evs_num (n := b.lab) (ev_var rfl) ho.lab)) (evs_c (a := [40]) lit)) (evs_var (a := cj (b.pars.map parTxt)) rfl)) (evs_c (a := [41, 58]) lit)) (by simp)) (by
    simp only [List.length_append, List.length_cons, List.length_nil]
    omega)) fun L H3 hL e3 hL3 => ?_
  have e13 := e1.trans (e2.trans e3)
  refine s_retL (el_cat (el_catV (ev_var rfl) hL3 (els_map (tx := fun o : Op => 32 :: 32 :: o.txt) (ev_var rfl) (e13 _ _ ha3) (hx3.kt (KT.ex e13)) (by omega) (fun _ => rfl) (fun o x H4 e4 hm hdx => EvS.to (evs_add (a := [32, 32]) (evs_c lit) (call_op (o := o) (ev_var rfl) hdx (ho.ops o hm))) (by simp)) (by omega)) ?_) (el_one (a := 32 :: 32 :: b.en.txt) (EvS.to (evs_add (a := [32, 32]) (evs_c lit) (call_end (o := b.en) (ev_var rfl) (h4.kt (KT.ex e13)) ho.en)) (by simp)) ?_) ?_) fun q1 H4 hq e4 h4 => q q1 H4 ?_ (e13.trans e4) ?_
  · simp only [List.length_map, List.length_cons, List.length_nil]
    omega
  · simp only [List.length_cons]
    omega
  · simp only [List.length_map, List.length_cons, List.length_nil, List.length_append]
    omega
  · exact fresh_back e13 hq
  · rw [h4]
    simp [Blk.lines]
end
end K6
/-! K6W4: the program's writing: functions, modules. -/
namespace K6
open PySem PySem.Spec PyProof.Rows L2 Evl
/-! ### sizes of lines -/
theorem cj_le {α : Type} {tx : α → Tx} {k n : Nat} {l : List α} (h : ∀ a ∈ l, (tx a).length ≤ k) (hn : l.length ≤ n) : (cj (l.map tx)).length ≤ (k + 2) * n := Nat.le_trans (cj_len h) (Nat.mul_le_mul_left _ hn)
theorem lines_map {α : Type} {f : α → List Tx} {k n : Nat} {l : List α} (h : ∀ a ∈ l, (f a).length ≤ k) (hn : l.length ≤ n) : (l.flatMap f).length ≤ k * n := by
  have h1 := sum_le (fun a => (f a).length) k h
  rw [List.length_flatMap]
  exact Nat.le_trans h1 (Nat.mul_le_mul_left _ hn)
theorem blk_lines {b : Blk} (h : BlkOk' b) : b.lines.length ≤ 6 ∧ ∀ x ∈ b.lines, x.length ≤ 310 := by
  have h1 := h.olen
  refine ⟨by simp only [Blk.lines, List.length_append, List.length_cons, List.length_map, List.length_nil]; omega, fun x hx => ?_⟩
  simp only [Blk.lines, List.mem_append, List.mem_cons, List.mem_map, List.not_mem_nil, or_false] at hx
  rcases hx with (rfl | ⟨o, ho, rfl⟩) | rfl
  · have h2 := num_len h.lab
    have h3 := cj_le (tx := parTxt) (k := 25) (n := 2) (fun p hp => par_len (h.pars p hp)) h.plen
    simp only [List.length_append, List.length_cons, List.length_nil]
    omega
  · have := op_len (h.ops o ho)
    simp only [List.length_cons]
    omega
  · have := end_len h.en
    simp only [List.length_cons]
    omega
theorem res_len {o : Option Nat} (h : ResOk o) : (resTxt o).length ≤ 4 := by
  cases o with
  | none => decide
  | some n =>
    have := ty_len (t := .w n) h
    show (Ty.txt (.w n)).length ≤ 4
    omega
def fnHead (f : Fn) : Tx := kDefine ++ 32 :: resTxt f.res ++ [32, 64] ++ f.name ++ 40 :: cj (f.pars.map Ty.txt) ++ [41, 32, 123]
theorem fnHead_len {f : Fn} (h : FnOk' f) : (fnHead f).length ≤ 60 := by
  have h1 := res_len h.res
  have h2 := h.name.len
  have h3 := cj_le (tx := Ty.txt) (k := 3) (n := 2) (fun t ht => ty_len (h.pars t ht)) h.plen
  simp only [fnHead, kDefine, List.length_append, List.length_cons, List.length_nil]
  omega
theorem fn_lines {f : Fn} (h : FnOk' f) : f.lines.length ≤ 20 ∧ ∀ x ∈ f.lines, x.length ≤ 310 := by
  have h1 := lines_map (f := Blk.lines) (k := 6) (n := 3) (fun b hb => (blk_lines (h.blks b hb)).1) h.blen
  refine ⟨by simp only [Fn.lines, List.length_append, List.length_cons, List.length_nil]; omega, fun x hx => ?_⟩
  have hx : x ∈ fnHead f :: f.blks.flatMap Blk.lines ++ [[125]] := hx
  simp only [List.mem_append, List.mem_cons, List.mem_flatMap, List.not_mem_nil, or_false] at hx
  rcases hx with (rfl | ⟨b, hb, hx⟩) | rfl
  · have := fnHead_len h
    omega
  · exact (blk_lines (h.blks b hb)).2 x hx
  · decide
theorem md_lines {m : Md} (h : MdOk m) : m.lines.length ≤ 62 ∧ ∀ x ∈ m.lines, x.length ≤ 310 := by
  have h1 := lines_map (f := Fn.lines) (k := 20) (n := 3) (fun b hb => (fn_lines (h.fs b hb)).1) h.flen
  have h2 := h.glen
  refine ⟨by simp only [Md.lines, List.length_append, List.length_map]; omega, fun x hx => ?_⟩
  simp only [Md.lines, List.mem_append, List.mem_map, List.mem_flatMap] at hx
  rcases hx with ⟨g, hg, rfl⟩ | ⟨f, hf, hx⟩
  · have := gb_len (h.gs g hg)
    omega
  · exact (fn_lines (h.fs f hf)).2 x hx
theorem md_len {m : Md} (h : MdOk m) : m.txt.length ≤ 20000 := by
  have h1 : (TL.joinL [10] m.lines).length ≤ (m.lines.map List.length).sum + 1 * m.lines.length := joinL_len [10] m.lines
  have h2 : (m.lines.map List.length).sum ≤ 310 * m.lines.length := sum_le (fun x : Tx => x.length) 310 (md_lines h).2
  have h3 := (md_lines h).1
  show (TL.joinL [10] m.lines).length ≤ _
  omega
section
variable {P : Program} {w : World} {K : PySem.W.Frag} {mg : Str → Option Value} {base : Heap}
def resV : Option Nat → V := optV
theorem opt_ty {n : Nat} : optV (some n) = (Ty.w n).val := rfl
def spFn : Sp := Pr1 fun v H Q => ∃ f : Fn, Dt H v f.py ∧ FnOk' f ∧ RetL (f.lines.map vS) H Q
theorem ok_function_lines (T : Txt w K mg) (c_type_text : C8.Cal P w K mg base 1 "type_text" spTyText []) (c_block_lines : C8.Cal P w K mg base 5 "block_lines" spBlk []) : C8.Cal P w K mg base 6 "function_lines" spFn [] := by
  refine T.cal m_def_function_lines m_glo_function_lines sc_function_lines bi_function_lines len1 (fun cdv A outer s H vs Q E hr h => ?_)
  obtain ⟨v, rfl, f, hd, ho, q⟩ := h
  refine ⟨_, (pss_cons (ps_asg (pv 0) (pg_tup rfl (pgs_cons (pg_name (i := 1) sc_function_lines.nd rfl (Or.inl rfl)) (pgs_cons (pg_name (i := 2) sc_function_lines.nd rfl (Or.inl rfl)) (pgs_cons (pg_name (i := 3) sc_function_lines.nd rfl (Or.inl rfl)) (pgs_cons (pg_name (i := 4) sc_function_lines.nd rfl (Or.inl rfl)) pgs_nil))))))
  (pss_cons (ps_set (i := 5) sc_function_lines.nd rfl (Or.inl rfl) (pe_ifExp (pt_cmpR op_isN1 (pv 3) pe_non (nomark _)) pe_str (C8.pe_c c_type_text hr (by decide) (by rfl) (pa_cons (pv 3) pa_nil))))
  (pss_cons (ps_set (i := 6) sc_function_lines.nd rfl (Or.inl rfl) (pe_lst (pa_cons (pe_op op_cats (pe_op op_cats (pe_op op_cats (pe_op op_cats (pe_op op_cats (pe_op op_cats pe_str (pv 5)) pe_str) (pv 1)) pe_str) (pe_joinN pe_str (pe_lc (own := [("one", 7)]) (g := gName 7) rfl sc_function_lines.nd (pi_tup (pv 2)) (blkOk_by (N := n_function_lines) (sc := defScope s_function_lines) (by decide +kernel)) (fun _ _ _ _ _ => (pg_name (i := 7) sc_function_lines.nd rfl (Or.inl rfl))) (fun _ _ _ _ _ => pts_nil) (fun _ _ _ _ _ => (C8.pe_c c_type_text hr (by decide) (by rfl) (pa_cons (pv 7) pa_nil)))))) pe_str) pa_nil)))
  (pss_cons (ps_for PassesOwn.never rfl (pi_tup (pv 4)) (pg_name (i := 8) sc_function_lines.nd rfl (Or.inl rfl)) (pss_one (ps_expr (pe_bm PySem.F.plainAttrs_list PySem.F.slot_list_extend PySem.F.type_list_extend mt_extend (pv 6) (pa_cons (C8.pe_c c_block_lines hr (by decide) (by rfl) (pa_cons (pv 8) pa_nil)) pa_nil)))))
  (pss_one (ps_ret (pe_lst (StX.pa_star (pv 6) (pa_cons pe_str pa_nil))))))))), ?_⟩
  obtain ⟨p, y1, y2, y3, y4, rfl, hp, h1, h2, h3, h4⟩ := hd.e4
  obtain rfl := h1.strE
  obtain ⟨a2, xs2, rfl, ha2, hx2⟩ := h2.tupE
  obtain rfl := h3.opt
  obtain ⟨a4, xs4, rfl, ha4, hx4⟩ := h4.tupE
  have hpl := ho.plen
  have hbl := ho.blen
  have hrl := res_len ho.res
  have hc := cj_len (tx := Ty.txt) (k := 3) fun p hp => ty_len (ho.pars p hp)
  have ht2 := tot_le (tx := Ty.txt) (k := 3) fun p hp => ty_len (ho.pars p hp)
  have hfl := fnHead_len ho
  have hbs := lines_map (f := Blk.lines) (k := 6) (n := 3) (fun b hb => (blk_lines (ho.blks b hb)).1) hbl
  refine q_tup (ev_var rfl) hp rfl (fun H1 Q q => ⟨_, _, rfl, _, _, rfl, _, _, rfl, _, _, rfl, rfl, q⟩) fun H1 e1 => ?_
  refine q_asg (v := vS (resTxt f.res)) (evs_if (et_isN (ev_var rfl)) (fun e => ?_) (fun e => ?_) (by omega)) fun H2 e2 => ?_
  · rw [opt_non] at e
    cases hx : f.res with
    | none => exact evs_c lit
    | some n =>
      rw [hx] at e
      cases e
  · rw [opt_non] at e
    cases hx : f.res with
    | none =>
      rw [hx] at e
      cases e
    | some n =>
      have hw := ho.res
      rw [hx] at hw
      exact call_ty (t := .w n) (ev_var rfl) hw
  have e12 := e1.trans e2
  refine q_asgL (el_one (a := fnHead f) (EvS.to (evs_add (evs_add (evs_add (evs_add (evs_add (evs_add (a := kDefine ++ [32]) (evs_c lit) (b := resTxt f.res) (evs_var rfl)) (evs_c (a := [32, 64]) lit)) (evs_var (a := f.name) rfl)) (evs_c (a := [40]) lit))
    (evs_join (s := [44, 32]) lit (by decide) (els_map (tx := Ty.txt) (ev_var rfl) (e12 _ _ ha2) (hx2.kt (KT.ex e12)) (by omega) (fun _ => rfl) fun t x H3 e3 hm hdx => by
      obtain rfl := hdx.ty
      exact call_ty (ev_var rfl) (ho.pars t hm)) (by omega))) (evs_c (a := [41, 32, 123]) lit)) (by simp [fnHead])) (by omega)) fun L H3 hL e3 hL3 => ?_
  have e13 := e12.trans e3
  refine q_forExt (H0 := H) (ln := Blk.lines) (ev_var rfl) ha4 hx4 (fresh_back e12 hL) e13 hL3 (by simp only [List.length_cons, List.length_nil]; omega) ⟨none, rfl⟩ (fun _ _ => ev_var rfl) (fun b x H4 e4 hm hdx => ?_) fun y H4 e4 hL4 => ?_
  · exact el_call (ea_cons (ev_var rfl) ea_nil) fun H5 e5 Q' q' E' => ⟨x, rfl, b, hdx.kt (KT.ex e5), ho.blks b hm, fun p H6 hp e6 h6 => q' p H6 hp e6 h6⟩
  refine ⟨_, rfl, L, _, rfl, Or.inr (sq_of hL4), ?_⟩
  refine ⟨?_, fun r hr => q r _ (fresh_back e4 hr) (e4.trans (Ex.new hr)) ?_⟩
  · refine sz_of ?_
    simp only [List.length_append, List.length_cons, List.length_nil, List.length_map]
    omega
  · rw [upd_same]
    have e : (V.str "}") = vS [125] := congrArg V.str lit
    rw [e]
    simp [Fn.lines, fnHead]
/-! ### module_text -/
def spMd : Sp := Pr1 fun v H Q => ∃ m : Md, Dt H v m.py ∧ MdOk m ∧ RetS m.txt H Q
theorem ok_module_text (T : Txt w K mg) (c_global_line : C8.Cal P w K mg base 2 "global_line" spGb []) (c_function_lines : C8.Cal P w K mg base 6 "function_lines" spFn []) : CalB P w K mg base 7 "module_text" "module" spMd := by
  refine T.calB m_def_module_text m_glo_module_text sc_module_text bi_module_text (fun _ _ _ _ _ _ _ => rfl) len1 (fun cdv A outer s H vs Q E hr h => ?_)
  obtain ⟨v, rfl, m, hd, ho, q⟩ := h
  refine ⟨_, (pss_cons (ps_setLc (i := 1) (own := [("one", 2)]) (g := gName 2) rfl sc_module_text.nd rfl rfl (sw_true rfl rfl rfl (by decide +kernel)) (pi_tup (pe_ix ix_tup (pv 0) pe_int (fun _ _ => rfl))) (blkOk_by (N := n_module_text) (sc := defScope s_module_text) (by decide +kernel)) (fun _ _ _ _ _ => (pg_name (i := 2) sc_module_text.nd rfl (Or.inl rfl))) (fun _ _ _ _ _ => pts_nil) (fun _ _ _ _ _ => (C8.pe_c c_global_line hr (by decide) (by rfl) (pa_cons (pv 2) pa_nil))))
  (pss_cons (ps_for PassesOwn.never rfl (pi_tup (pe_ix ix_tup (pv 0) pe_int (fun _ _ => rfl))) (pg_name (i := 3) sc_module_text.nd rfl (Or.inl rfl)) (pss_one (ps_expr (pe_bm PySem.F.plainAttrs_list PySem.F.slot_list_extend PySem.F.type_list_extend mt_extend (pv 1) (pa_cons (C8.pe_c c_function_lines hr (by decide) (by rfl) (pa_cons (pv 3) pa_nil)) pa_nil)))))
  (pss_one (ps_ret (pe_joinN pe_str (pv 1)))))), ?_⟩
  obtain ⟨p, y1, y2, rfl, hp, h1, h2⟩ := hd.e2
  obtain ⟨a1, xs1, rfl, ha1, hx1⟩ := h1.tupE
  obtain ⟨a2, xs2, rfl, ha2, hx2⟩ := h2.tupE
  have hgl := ho.glen
  have hfl := ho.flen
  have hml := md_len ho
  have ht1 := tot_le (tx := Gb.txt) (k := 150) fun g hg => gb_len (ho.gs g hg)
  have hbs := lines_map (f := Fn.lines) (k := 20) (n := 3) (fun b hb => (fn_lines (ho.fs b hb)).1) hfl
  refine q_asgL (els_map (tx := Gb.txt) (ev_at (i := 0) (ev_var rfl) hp rfl) ha1 hx1 (by omega) (fun _ => rfl) (fun g x H4 e4 hm hdx => call_gb (o := g) (ev_var rfl) hdx (ho.gs g hm)) (by omega)) fun L H3 hL e3 hL3 => ?_
  refine q_forExt (H0 := H) (ln := Fn.lines) (ev_at (i := 1) (ev_var rfl) (e3 _ _ hp) rfl) ha2 hx2 hL e3 hL3 (by simp only [List.length_map]; omega) ⟨none, rfl⟩ (fun _ _ => ev_var rfl) (fun b x H4 e4 hm hdx => ?_) fun y H4 e4 hL4 => ?_
  · exact el_call (ea_cons (ev_var rfl) ea_nil) fun H5 e5 Q' q' E' => ⟨x, rfl, b, hdx.kt (KT.ex e5), ho.fs b hm, fun p H6 hp e6 h6 => q' p H6 hp e6 h6⟩
  rw [← List.map_append] at hL4
  exact s_ret (evs_joinV (s := [10]) (l := m.lines) lit (by decide) (ev_var rfl) hL4 (by show m.txt.length ≤ _; omega)) fun H5 e5 => q H5 (e4.trans e5)
theorem call_md {σ : L2.St} {H : Hp} {E : XK} {te : TE} {v : V} {o : Md} (h : Ev te σ H v) (hd : Dt H v o.py) (ho : MdOk o) : EvS (tCall spMd [] E (tCons te tNil)) σ H o.txt :=
  evs_call (ea_cons h ea_nil) (spS fun H1 e Q q E => ⟨_, rfl, o, hd.kt (KT.ex e), ho, q⟩)
end
end K6
/-! K6W5: the law's own writing. -/
namespace K6
open PySem PySem.Spec PyProof.Rows L2 Evl
section
variable {K : PySem.W.Frag} {σ : L2.St} {H H' : Hp} {ta te : TE} {tt : TT} {t u : TS} {a b : Tx}
theorem ev_lenT {p : Addr} {xs : List V} (ha : Ev ta σ H (.ref p)) (h : SqT K H p xs) : Ev (tCB (Evl.rLenS K) (tCons ta tNil)) σ H (.int (xs.length : Int)) := ev_cb (ea_cons ha ea_nil) fun H1 e Q q => ⟨p, xs, rfl, Or.inr (ex_t e h), q H1 (Ex.refl H1)⟩
/-- args != () -/
theorem et_argsNe {p : Addr} {l : List Opd} (hl : ArgsOk 3 l) (ha : Ev te σ H (.ref p)) (hd : Dt H (.ref p) (argsPy l)) : EvT (tTest (tOp (rNeD K) te (tTup tNil))) σ H (!l.isEmpty) := fun H1 e Q q =>
  ha H1 e _ fun H2 e2 => ⟨sz_of (Nat.zero_le _), fun r hr => by
    have e3 : Ex H2 (upd H2 r (.tup [])) := Ex.new hr
    refine ⟨argsPy l, .tuple [], (hd.kt (KT.ex ((e.trans e2).trans e3))).dp, (Dt.tup upd_same .nil).dp, (good_args hl).shaped (by decide), rfl, _, rfl, ?_⟩
    have hb : (!PyData.eqv (argsPy l) (.tuple [])) = !l.isEmpty := by
      cases l <;> rfl
    rw [hb]
    exact q _ (e2.trans e3)⟩
/-- for target in data: done so far -/
theorem s_forD {α : Type} {f : α → PyData} {l : List α} {p : Addr} {xs : List V} {tl : TE} {g : TG} {D : Ends} {H0 : Hp} (Pv : List α → L2.St → Hp → Prop) (h : Ev tl σ H (.ref p)) (hx : H0 p = some (.tup xs)) (hd : DtA H0 xs (l.map f)) (e0 : Ex H0 H) (h0 : ∀ H1, Ex H H1 → Pv [] σ H1)
    (hex : ∀ d σ' H', Pv d σ' H' → Ex H0 H') (hs : ∀ d b r x σ' H', l = d ++ b :: r → Dt H0 x (f b) → Pv d σ' H' → g x σ' H' fun σ2 H2 => t { D with nx := Pv (d ++ [b]), ct := Pv (d ++ [b]), bk := D.nx } σ2 H2)
    (hz : ∀ σ' H', Pv l σ' H' → D.nx σ' H') : tFor (iTup K tl) g t D σ H := by
  have hl := hd.length
  rw [List.length_map] at hl
  refine s_forT h (SqT.of (e0 p _ hx)) (fun i σ' H' => Pv (l.take i) σ' H') (fun H1 e => by rw [List.take_zero]; exact h0 H1 e) (fun i σ' H' _ pv => SqT.of (hex _ _ _ pv _ _ hx)) (fun i x σ' H' hi pv => ?_) (fun σ' H' pv => ?_)
  · obtain ⟨b, hb, hdb⟩ := hd.mapGet hi
    have hi' := (List.getElem?_eq_some_iff.mp hb).1
    have e1 : l = l.take i ++ b :: l.drop (i + 1) := by
      rw [← (List.getElem?_eq_some_iff.mp hb).2, ← List.drop_eq_getElem_cons hi', List.take_append_drop]
    have e2 : l.take (i + 1) = l.take i ++ [b] := by
      rw [List.take_add_one, hb]
      rfl
    rw [e2]
    exact hs _ b _ x σ' H' e1 hdb pv
  · rw [hl, List.take_length] at pv
    exact hz σ' H' pv
theorem q_forD {α : Type} {f : α → PyData} {l : List α} {p : Addr} {xs : List V} {tl : TE} {g : TG} {D : Ends} {H0 : Hp} (Pv : List α → L2.St → Hp → Prop) (h : Ev tl σ H (.ref p)) (hx : H0 p = some (.tup xs)) (hd : DtA H0 xs (l.map f)) (e0 : Ex H0 H) (h0 : ∀ H1, Ex H H1 → Pv [] σ H1)
    (hex : ∀ d σ' H', Pv d σ' H' → Ex H0 H') (hs : ∀ d b r x σ' H', l = d ++ b :: r → Dt H0 x (f b) → Pv d σ' H' → g x σ' H' fun σ2 H2 => t { D with nx := Pv (d ++ [b]), ct := Pv (d ++ [b]), bk := u D } σ2 H2)
    (hz : ∀ σ' H', Pv l σ' H' → u D σ' H') : tSeq (tFor (iTup K tl) g t) u D σ H := s_forD (D := { D with nx := u D }) Pv h hx hd e0 h0 hex hs hz
/-- the target a tuple of four -/
theorem g_tup4 {v : V} {d1 d2 d3 d4 : PyData} {i1 i2 i3 i4 : Nat} {R : L2.St → Hp → Prop} (kt : KT H H') (hd : Dt H v (.tuple [d1, d2, d3, d4])) (k : ∀ x y z u, Dt H x d1 → Dt H y d2 → Dt H z d3 → Dt H u d4 → R ((((σ.set i1 (some x)).set i2 (some y)).set i3 (some z)).set i4 (some u)) H') :
    gTup K 4 (gCons (gName i1) (gCons (gName i2) (gCons (gName i3) (gCons (gName i4) gNil)))) v σ H' R := by
  obtain ⟨p, x, y, z, u, rfl, hp, h1, h2, h3, h4⟩ := hd.e4
  exact ⟨p, _, rfl, SqT.of (kt p _ hp), rfl, _, _, rfl, _, _, rfl, _, _, rfl, _, _, rfl, rfl, k x y z u h1 h2 h3 h4⟩
end
section
variable {P : Program} {w : World} {K : PySem.W.Frag} {mg : Str → Option Value} {base : Heap}
theorem ok__law_kind (T : Txt w K mg) : C8.Cal P w K mg base 1 "_law_kind" spTyText [] := by
  refine T.cal m_def__law_kind m_glo__law_kind sc__law_kind bi__law_kind len1 (fun cdv A outer s H vs Q E hr h => ?_)
  obtain ⟨v, rfl, t, rfl, ht, q⟩ := h
  refine ⟨_, (pss_one (ps_ret (pe_ifExp (pt_cmpR op_eq (pv 0) pe_str (nomark _)) pe_str (pe_op op_cats pe_str (pe_callTy cr_strI (by rfl) (T.free m_free_str) (by decide +kernel) (pa_cons (pv 0) pa_nil)))))), ?_⟩
  have hl := ty_len ht
  refine s_ret (evs_if (t := decide (t = .ptr)) ?_ (fun e => ?_) (fun e => ?_) (by omega : t.txt.length ≤ 60000)) fun H1 e => q H1 e
  · cases t with
    | w n => exact et_eq0 (ev_var rfl) ev_c rfl (by simp [Ty.val])
    | ptr => exact et_eq0 (ev_var rfl) ev_c rfl (by decide +kernel)
  · obtain rfl := of_decide_eq_true e
    exact evs_c lit
  · cases t with
    | w n => exact evs_add (a := [105]) (evs_c lit) (evs_num (ev_var rfl) (wd_lt ht))
    | ptr => simp at e
theorem ok__law_mark (T : Txt w K mg) : C8.Cal P w K mg base 1 "_law_mark" spOpd [] := by
  refine T.cal m_def__law_mark m_glo__law_mark sc__law_mark bi__law_mark len1 (fun cdv A outer s H vs Q E hr h => ?_)
  obtain ⟨v, rfl, o, hd, ho, q⟩ := h
  refine ⟨_, (pss_cons (ps_if (pt_cmpR op_eq (pe_ix ix_tup (pv 0) pe_int (fun _ _ => rfl)) pe_str (nomark _)) (pss_one (ps_ret (pe_op op_cats pe_str (pe_callTy cr_strI (by rfl) (T.free m_free_str) (by decide +kernel) (pa_cons (pe_ix ix_tup (pv 0) pe_int (fun _ _ => rfl)) pa_nil))))) pss_nil)
  (pss_one (ps_ret (pe_ifExp (pt_cmpR op_eq (pe_ix ix_tup (pv 0) pe_int (fun _ _ => rfl)) pe_str (nomark _)) (pe_callTy cr_strI (by rfl) (T.free m_free_str) (by decide +kernel) (pa_cons (pe_ix ix_tup (pv 0) pe_int (fun _ _ => rfl)) pa_nil)) (pe_op op_cats pe_str (pe_ix ix_tup (pv 0) pe_int (fun _ _ => rfl))))))), ?_⟩
  have hl := opd_len ho
  refine (?_ : RS _ _ H o.txt) _ H (Ex.refl H) q
  cases o with
  | v i =>
    obtain ⟨a, x, y, rfl, ha, hx, hy⟩ := hd.e2
    obtain rfl := hx.strE
    obtain rfl := hy.intE
    exact rs_y (et_SK (a := [118]) (ev_at (i := 0) (ev_var rfl) ha rfl) ev_c (by decide +kernel)) (rs_ret (evs_add (a := [36]) (evs_c lit) (evs_num (ev_at (i := 1) (ev_var rfl) ha rfl) ho)) (by exact (by omega : (Opd.v i).txt.length ≤ 60000)))
  | n i =>
    obtain ⟨a, x, y, rfl, ha, hx, hy⟩ := hd.e2
    obtain rfl := hx.strE
    obtain rfl := hy.intE
    exact rs_n (et_SK (a := [110]) (ev_at (i := 0) (ev_var rfl) ha rfl) ev_c (by decide +kernel)) (rs_ret (evs_if_y (et_SK (a := [110]) (ev_at (i := 0) (ev_var rfl) ha rfl) ev_c (by decide +kernel)) (evs_num (ev_at (i := 1) (ev_var rfl) ha rfl) ho)) (by exact (by omega : (Opd.n i).txt.length ≤ 60000)))
  | g x =>
    obtain ⟨a, x1, y, rfl, ha, hx, hy⟩ := hd.e2
    obtain rfl := hx.strE
    obtain rfl := hy.strE
    exact rs_n (et_SK (a := [103]) (ev_at (i := 0) (ev_var rfl) ha rfl) ev_c (by decide +kernel)) (rs_ret (evs_if_n (et_SK (a := [103]) (ev_at (i := 0) (ev_var rfl) ha rfl) ev_c (by decide +kernel)) (evs_add (a := [64]) (evs_c lit) (evs_of (a := x) (ev_at (i := 1) (ev_var rfl) ha rfl)))) (by exact (by omega : (Opd.g x).txt.length ≤ 60000)))
/-- ' '.join([kind, type] + ([args] if there are any else [])) -/
theorem evs_kta {σ : L2.St} {H : Hp} {E1 E2 : XK} {ta tb tc td : TE} {k : Tx} {t : Ty} {p : Addr} {l : List Opd} (hk : Ev ta σ H (vS k)) (hk6 : k.length ≤ 10) (ht : Ev tb σ H t.val) (ok : TyOk t) (hc : Ev tc σ H (.ref p)) (hl : ArgsOk 3 l) (hd : Dt H (.ref p) (argsPy l)) (hcd : Ev td σ H (.ref p)) :
    EvS (tM1 (rJoin K) (tC (.str " ")) (tOp rCat (tLst (tCons ta (tCons (tCall spTyText [] E1 (tCons tb tNil)) tNil))) (tIf (tTest (tOp (rNeD K) tc (tTup tNil))) (tLst (tCons (tCall spArgs [] E2 (tCons td tNil)) tNil)) (tLst tNil)))) σ H (k ++ 32 :: t.txt ++ (if l = [] then [] else 32 :: argsTxt l)) := by
  have h1 := ty_len ok
  have h2 := args_len hl.2
  have h3 := hl.1
  have hty : Ev (tCall spTyText [] E1 (tCons tb tNil)) σ H (vS t.txt) := call_ty ht ok (by omega)
  cases l with
  | nil =>
    exact EvS.to (evs_join (s := [32]) (l := [k, t.txt] ++ []) lit (by decide) (fun _ => el_cat (xs := [vS k, vS t.txt]) (ys := []) (el_lst (ea_cons hk (ea_cons hty ea_nil)) (by show 2 ≤ 100000; omega)) (fun H1 e Q q => et_argsNe hl hc hd H1 e _ fun H2 e2 => el_lst ea_nil (by show 0 ≤ 100000; omega) H2 (Ex.refl H2) _ fun p H3 h3 e3 hp3 => q p H3 (fresh_back e2 h3) (e2.trans e3) hp3) (by show 2 + 0 ≤ 100000; omega)) (by
      simp only [tot, List.append_nil, List.map_cons, List.map_nil, List.sum_cons, List.sum_nil, List.length_cons, List.length_nil]
      omega)) (by simp [TL.joinL])
  | cons o r =>
    exact EvS.to (evs_join (s := [32]) (l := [k, t.txt] ++ [argsTxt (o :: r)]) lit (by decide) (fun _ => el_cat (xs := [vS k, vS t.txt]) (ys := [vS (argsTxt (o :: r))]) (el_lst (ea_cons hk (ea_cons hty ea_nil)) (by show 2 ≤ 100000; omega)) (fun H1 e Q q => et_argsNe hl hc hd H1 e _ fun H2 e2 => el_one (call_args (hcd.mono (e.trans e2)) (hd.kt (KT.ex (e.trans e2))) hl) (by omega) H2 (Ex.refl H2) _ fun p H3 h3 e3 hp3 => q p H3 (fresh_back e2 h3) (e2.trans e3) hp3) (by show 2 + 1 ≤ 100000; omega)) (by
      simp only [tot, List.cons_append, List.nil_append, List.map_cons, List.map_nil, List.sum_cons, List.sum_nil, List.length_cons, List.length_nil]
      simp only [List.length_cons] at h2 h3
      omega)) (by simp [TL.joinL])
theorem ok__law_listed (T : Txt w K mg) (c__law_mark : C8.Cal P w K mg base 1 "_law_mark" spOpd []) : C8.Cal P w K mg base 2 "_law_listed" spArgs [] := by
  refine T.cal m_def__law_listed m_glo__law_listed sc__law_listed bi__law_listed len1 (fun cdv A outer s H vs Q E hr h => ?_)
  obtain ⟨v, rfl, l, hd, ⟨hl, ho⟩, q⟩ := h
  refine ⟨_, (pss_one (ps_ret (pe_joinN pe_str (pe_lc (own := [("_law_one", 1)]) (g := gName 1) rfl sc__law_listed.nd (pi_tup (pv 0)) (blkOk_by (N := n__law_listed) (sc := defScope s__law_listed) (by decide +kernel)) (fun _ _ _ _ _ => (pg_name (i := 1) sc__law_listed.nd rfl (Or.inl rfl))) (fun _ _ _ _ _ => pts_nil) (fun _ _ _ _ _ => (C8.pe_c c__law_mark hr (by decide) (by rfl) (pa_cons (pv 1) pa_nil))))))), ?_⟩
  obtain ⟨a, xs, rfl, ha, hx⟩ := hd.tupE
  have h1 := args_len ho
  have h2 := tot_le (tx := Opd.txt) (fun o h => opd_len (ho o h))
  exact s_ret (evs_join (s := [44, 32]) lit (by decide) (els_map (ev_var rfl) ha hx (by omega) (fun _ => rfl) fun o x H1 e hm hdx => call_opd (ev_var rfl) hdx (ho o hm)) (Nat.le_trans h2 (by omega)) (by show (argsTxt l).length ≤ _; omega)) fun H1 e => q H1 e
theorem ok__law_goal (T : Txt w K mg) (c__law_listed : C8.Cal P w K mg base 2 "_law_listed" spArgs []) : C8.Cal P w K mg base 3 "_law_goal" spTgt [] := by
  refine T.cal m_def__law_goal m_glo__law_goal sc__law_goal bi__law_goal len1 (fun cdv A outer s H vs Q E hr h => ?_)
  obtain ⟨v, rfl, t, hd, ho, q⟩ := h
  refine ⟨_, (pss_one (ps_ret (pe_op op_cats (pe_op op_cats (pe_op op_cats (pe_op op_cats pe_str (pe_callTy cr_strI (by rfl) (T.free m_free_str) (by decide +kernel) (pa_cons (pe_ix ix_tup (pv 0) pe_int (fun _ _ => rfl)) pa_nil))) pe_str) (C8.pe_c c__law_listed hr (by decide) (by rfl) (pa_cons (pe_ix ix_tup (pv 0) pe_int (fun _ _ => rfl)) pa_nil))) pe_str))), ?_⟩
  obtain ⟨a, x, y, rfl, ha, hx, hy⟩ := hd.e2
  obtain rfl := hx.intE
  have hl := tgt_len ho
  refine s_ret (EvS.to (b := t.txt) (evs_add (evs_add (evs_add (evs_add (a := [98]) (evs_c lit) (evs_num (ev_at (i := 0) (ev_var rfl) ha rfl) ho.lab)) (evs_c (a := [40]) lit)) (call_args (l := t.args) (ev_at (i := 1) (ev_var rfl) ha rfl) hy ⟨?_, ho.args.2⟩)) (evs_c (a := [41]) lit)) ?_ (by omega)) fun H1 e => q H1 e
  · have := ho.args.1
    omega
  · simp [Tgt.txt]
def madeTxt (o : Op) : Tx := match o.made with
  | none => []
  | some x => 36 :: num x ++ [32, 61, 32]
theorem op_txt (o : Op) : o.txt = madeTxt o ++ deedTxt o := by
  unfold Op.txt madeTxt
  cases o.made <;> rfl
theorem ok__law_op_text (T : Txt w K mg) (c__law_kind : C8.Cal P w K mg base 1 "_law_kind" spTyText []) (c__law_listed : C8.Cal P w K mg base 2 "_law_listed" spArgs []) : C8.Cal P w K mg base 4 "_law_op_text" spOp [] := by
  refine T.cal m_def__law_op_text m_glo__law_op_text sc__law_op_text bi__law_op_text len1 (fun cdv A outer s H vs Q E hr h => ?_)
  obtain ⟨v, rfl, o, hd, ho, q⟩ := h
  refine ⟨_, (pss_cons (ps_asg (pv 0) (pg_tup rfl (pgs_cons (pg_name (i := 1) sc__law_op_text.nd rfl (Or.inl rfl)) (pgs_cons (pg_name (i := 2) sc__law_op_text.nd rfl (Or.inl rfl)) (pgs_cons (pg_name (i := 3) sc__law_op_text.nd rfl (Or.inl rfl)) (pgs_cons (pg_name (i := 4) sc__law_op_text.nd rfl (Or.inl rfl)) pgs_nil))))))
  (pss_cons (ps_set (i := 5) sc__law_op_text.nd rfl (Or.inl rfl) (pe_ifExp (pt_cmpR op_isN1 (pv 1) pe_non (nomark _)) pe_str (pe_op op_cats (pe_op op_cats pe_str (pe_callTy cr_strI (by rfl) (T.free m_free_str) (by decide +kernel) (pa_cons (pv 1) pa_nil))) pe_str)))
  (pss_cons (ps_if (pt_cmpR op_eq (pv 2) pe_str (nomark _)) (pss_one (ps_ret (pe_op op_cats (pe_op op_cats (pe_op op_cats (pe_op op_cats (pe_op op_cats (pv 5) pe_str) (pe_ix ix_tup (pv 3) pe_int (fun _ _ => rfl))) pe_str) (C8.pe_c c__law_listed hr (by decide) (by rfl) (pa_cons (pv 4) pa_nil))) pe_str))) pss_nil)
  (pss_cons (ps_if (pt_cmpR op_eq (pv 2) pe_str (nomark _)) (pss_one (ps_ret (pe_op op_cats (pe_op op_cats (pe_op op_cats (pe_op op_cats (pe_op op_cats (pe_op op_cats (pe_op op_cats (pv 5) (pe_ix ix_tup (pv 3) pe_int (fun _ _ => rfl))) pe_str) (C8.pe_c c__law_kind hr (by decide) (by rfl) (pa_cons (pe_ix ix_tup (pv 3) pe_int (fun _ _ => rfl)) pa_nil))) pe_str) (C8.pe_c c__law_listed hr (by decide) (by rfl) (pa_cons (pv 4) pa_nil))) pe_str) (C8.pe_c c__law_kind hr (by decide) (by rfl) (pa_cons (pe_ix ix_tup (pv 3) pe_int (fun _ _ => rfl)) pa_nil))))) pss_nil)
  (pss_cons (ps_if (pt_cmpR op_eq (pv 2) pe_str (nomark _)) (pss_one (ps_ret (pe_op op_cats (pe_op op_cats (pe_op op_cats (pe_op op_cats (pv 5) pe_str) (C8.pe_c c__law_kind hr (by decide) (by rfl) (pa_cons (pe_ix ix_tup (pv 3) pe_int (fun _ _ => rfl)) pa_nil))) pe_str) (pe_callTy cr_strI (by rfl) (T.free m_free_str) (by decide +kernel) (pa_cons (pe_ix ix_tup (pv 3) pe_int (fun _ _ => rfl)) pa_nil))))) pss_nil)
  (pss_cons (ps_if (pt_cmpR op_eq (pv 2) pe_str (nomark _)) (pss_one (ps_ret (pe_op op_cats (pe_op op_cats (pe_op op_cats (pe_op op_cats (pe_op op_cats (pv 5) (pe_ix ix_tup (pv 3) pe_int (fun _ _ => rfl))) pe_str) (C8.pe_c c__law_kind hr (by decide) (by rfl) (pa_cons (pe_ix ix_tup (pv 3) pe_int (fun _ _ => rfl)) pa_nil))) pe_str) (C8.pe_c c__law_listed hr (by decide) (by rfl) (pa_cons (pv 4) pa_nil))))) pss_nil)
  (pss_cons (ps_if (pt_cmpR op_eq (pv 2) pe_str (nomark _)) (pss_one (ps_ret (pe_op op_cats (pe_op op_cats (pe_op op_cats (pe_op op_cats (pe_op op_cats (pe_op op_cats (pv 5) pe_str) (pe_ix ix_tup (pv 3) pe_int (fun _ _ => rfl))) pe_str) (C8.pe_c c__law_kind hr (by decide) (by rfl) (pa_cons (pe_ix ix_tup (pv 3) pe_int (fun _ _ => rfl)) pa_nil))) pe_str) (C8.pe_c c__law_listed hr (by decide) (by rfl) (pa_cons (pv 4) pa_nil))))) pss_nil)
  (pss_one (ps_ret (pe_op op_cats (pv 5) (pe_joinN pe_str (pe_op op_cat (pe_lst (pa_cons (pv 2) (pa_cons (C8.pe_c c__law_kind hr (by decide) (by rfl) (pa_cons (pe_ix ix_tup (pv 3) pe_int (fun _ _ => rfl)) pa_nil)) pa_nil))) (pe_ifExp (pt_cmpR (op_neD hr.units) (pv 4) (pe_tup pa_nil) (nomark _)) (pe_lst (pa_cons (C8.pe_c c__law_listed hr (by decide) (by rfl) (pa_cons (pv 4) pa_nil)) pa_nil)) (pe_lst pa_nil)))))))))))))), ?_⟩
  have hl := op_len ho
  have hm := op_made ho
  have hA := op_args ho
  obtain ⟨p, y1, y2, y3, y4, rfl, hp, h1, h2, hd, has⟩ := hd.e4
  obtain rfl := h1.opt
  obtain rfl := h2.strE
  have hot := op_txt o
  have hml : (madeTxt o).length ≤ 180 := by
    rw [hot, List.length_append] at hl
    omega
  refine (?_ : RS _ _ H o.txt) _ H (Ex.refl H) q
  refine rs_tup (ev_var rfl) rfl hp rfl (fun H1 Q q => ⟨_, _, rfl, _, _, rfl, _, _, rfl, _, _, rfl, rfl, q⟩) (rs_asg (b := madeTxt o) (evs_if (et_isN (ev_var rfl)) (fun e => ?_) (fun e => ?_)) (by omega) ?_)
  · rw [opt_non] at e
    unfold madeTxt
    cases hx : o.made with
    | none => exact evs_c lit
    | some n =>
      rw [hx] at e
      cases e
  · rw [opt_non] at e
    unfold madeTxt
    cases hx : o.made with
    | none =>
      rw [hx] at e
      cases e
    | some n =>
      rw [hx] at hm
      exact evs_add (evs_add (a := [36]) (evs_c lit) (evs_num (n := n) (ev_var rfl) hm)) (evs_c (a := [32, 61, 32]) lit)
  rw [hot] at hl ⊢
  cases o with
  | bin x op w' a b =>
    obtain ⟨p, y, z, rfl, hp, hy, hz⟩ := hd.e2
    obtain rfl := hy.strE
    obtain rfl := hz.intE
    exact rs_n (et_SK (a := kBin) (ev_var rfl) ev_c (by decide +kernel)) (rs_n (et_SK (a := kBin) (ev_var rfl) ev_c (by decide +kernel)) (rs_n (et_SK (a := kBin) (ev_var rfl) ev_c (by decide +kernel)) (rs_y (et_SK (a := kBin) (ev_var rfl) ev_c (by decide +kernel))
      (rs_ret (EvS.to (evs_add (evs_add (evs_add (evs_add (evs_add (evs_var (a := madeTxt (.bin x op w' a b)) rfl) (evs_of (a := op) (ev_at (i := 0) (ev_var rfl) hp rfl))) (evs_c (a := [32]) lit)) (call_ty (t := .w w') (ev_at (i := 1) (ev_var rfl) hp rfl) ho.2.2.1)) (evs_c (a := [32]) lit)) (call_args (ev_var rfl) has hA)) (by simp [deedTxt, headTxt, Op.args])) (by omega)))))
  | cmp x op w' a b =>
    obtain ⟨p, y, z, rfl, hp, hy, hz⟩ := hd.e2
    obtain rfl := hy.strE
    obtain rfl := hz.intE
    exact rs_n (et_SK (a := kCmp) (ev_var rfl) ev_c (by decide +kernel)) (rs_n (et_SK (a := kCmp) (ev_var rfl) ev_c (by decide +kernel)) (rs_n (et_SK (a := kCmp) (ev_var rfl) ev_c (by decide +kernel)) (rs_n (et_SK (a := kCmp) (ev_var rfl) ev_c (by decide +kernel)) (rs_y (et_SK (a := kCmp) (ev_var rfl) ev_c (by decide +kernel))
      (rs_ret (EvS.to (evs_add (evs_add (evs_add (evs_add (evs_add (evs_add (evs_var (a := madeTxt (.cmp x op w' a b)) rfl) (evs_c (a := kCmp ++ [32]) lit)) (evs_of (a := op) (ev_at (i := 0) (ev_var rfl) hp rfl))) (evs_c (a := [32]) lit)) (call_ty (t := .w w') (ev_at (i := 1) (ev_var rfl) hp rfl) ho.2.2.1)) (evs_c (a := [32]) lit)) (call_args (ev_var rfl) has hA)) (by simp [deedTxt, headTxt, Op.args])) (by omega))))))
  | sel x t c a b =>
    obtain ⟨pi, y, rfl, hpi, hy⟩ := hd.e1
    obtain rfl := hy.ty
    obtain ⟨p4, xs4, e4, hp4, _⟩ := id has.tupE
    subst e4
    exact rs_n (et_SK (a := kSel) (ev_var rfl) ev_c (by decide +kernel)) (rs_n (et_SK (a := kSel) (ev_var rfl) ev_c (by decide +kernel)) (rs_n (et_SK (a := kSel) (ev_var rfl) ev_c (by decide +kernel)) (rs_n (et_SK (a := kSel) (ev_var rfl) ev_c (by decide +kernel)) (rs_n (et_SK (a := kSel) (ev_var rfl) ev_c (by decide +kernel))
      (rs_ret (EvS.to (evs_add (evs_var (a := madeTxt (.sel x t c a b)) rfl) (evs_kta (k := kSel) (t := t) (l := [c, a, b]) (ev_var rfl) (by decide) (ev_at (i := 0) (ev_var rfl) hpi rfl) ho.2.1 (ev_var rfl) hA has (ev_var rfl))) (by simp [deedTxt, headTxt, Op.args])) (by omega))))))
  | cast x kd v' w' a =>
    obtain ⟨pi, y, z, z2, rfl, hpi, hy, hz, hz2⟩ := hd.e3
    obtain rfl := hy.strE
    obtain rfl := hz.intE
    obtain rfl := hz2.intE
    exact rs_n (et_SK (a := kCast) (ev_var rfl) ev_c (by decide +kernel)) (rs_y (et_SK (a := kCast) (ev_var rfl) ev_c (by decide +kernel))
      (rs_ret (EvS.to (evs_add (evs_add (evs_add (evs_add (evs_add (evs_add (evs_add (evs_var (a := madeTxt (.cast x kd v' w' a)) rfl) (evs_of (a := kd) (ev_at (i := 0) (ev_var rfl) hpi rfl))) (evs_c (a := [32]) lit)) (call_ty (t := .w v') (ev_at (i := 1) (ev_var rfl) hpi rfl) ho.2.2.1)) (evs_c (a := [32]) lit)) (call_args (ev_var rfl) has hA)) (evs_c (a := 32 :: kTo ++ [32]) lit)) (call_ty (t := .w w') (ev_at (i := 2) (ev_var rfl) hpi rfl) ho.2.2.2.1)) (by simp [deedTxt, headTxt, Op.args])) (by omega)))
  | alloca x w' size =>
    obtain ⟨pi, y, z, rfl, hpi, hy, hz⟩ := hd.e2
    obtain rfl := hy.intE
    obtain rfl := hz.intE
    exact rs_n (et_SK (a := kAlloca) (ev_var rfl) ev_c (by decide +kernel)) (rs_n (et_SK (a := kAlloca) (ev_var rfl) ev_c (by decide +kernel)) (rs_y (et_SK (a := kAlloca) (ev_var rfl) ev_c (by decide +kernel))
      (rs_ret (EvS.to (evs_add (evs_add (evs_add (evs_add (evs_var (a := madeTxt (.alloca x w' size)) rfl) (evs_c (a := kAlloca ++ [32]) lit)) (call_ty (t := .w w') (ev_at (i := 0) (ev_var rfl) hpi rfl) ho.2.1)) (evs_c (a := [44, 32]) lit)) (evs_num (n := size) (ev_at (i := 1) (ev_var rfl) hpi rfl) ho.2.2)) (by simp [deedTxt, headTxt])) (by omega))))
  | mem x kd w' args =>
    obtain ⟨pi, y, rfl, hpi, hy⟩ := hd.e1
    obtain rfl := hy.intE
    obtain ⟨p4, xs4, e4, hp4, _⟩ := id has.tupE
    subst e4
    have hmk := mem_kind ho.2.1
    have hn : ∀ y : Str, y ∈ [Str.ofString "call", "cast", "alloca", "bin", "cmp"] → decide (V.str (SX.S kd) = V.str y) = false := by
      rcases hmk with ⟨rfl, _⟩ | ⟨rfl, _⟩ | ⟨rfl, _⟩ | ⟨rfl, _⟩ | ⟨rfl, _⟩ <;> decide +kernel
    have hk6 : kd.length ≤ 10 := by
      rcases hmk with ⟨rfl, _⟩ | ⟨rfl, _⟩ | ⟨rfl, _⟩ | ⟨rfl, _⟩ | ⟨rfl, _⟩ <;> decide
    have he : madeTxt (.mem x kd w' args) ++ (kd ++ 32 :: Ty.txt (.w w') ++ (if args = [] then [] else 32 :: argsTxt args)) = madeTxt (.mem x kd w' args) ++ deedTxt (.mem x kd w' args) := by
      by_cases e : args = []
      · rw [mem_deed0 e, if_pos e]
        simp [headTxt]
      · rw [mem_deed1 e, if_neg e]
        simp [headTxt]
    exact rs_n (et_SK (a := kd) (ev_var rfl) ev_c (hn _ (by simp))) (rs_n (et_SK (a := kd) (ev_var rfl) ev_c (hn _ (by simp))) (rs_n (et_SK (a := kd) (ev_var rfl) ev_c (hn _ (by simp))) (rs_n (et_SK (a := kd) (ev_var rfl) ev_c (hn _ (by simp))) (rs_n (et_SK (a := kd) (ev_var rfl) ev_c (hn _ (by simp)))
      (rs_ret (EvS.to (evs_add (evs_var (a := madeTxt (.mem x kd w' args)) rfl) (evs_kta (k := kd) (t := .w w') (l := args) (ev_var rfl) hk6 (ev_at (i := 0) (ev_var rfl) hpi rfl) ho.2.2.1 (ev_var rfl) hA has (ev_var rfl))) he) (by omega))))))
  | call x name args =>
    obtain ⟨pi, y, rfl, hpi, hy⟩ := hd.e1
    obtain rfl := hy.strE
    exact rs_y (et_SK (a := kCall) (ev_var rfl) ev_c (by decide +kernel)) (rs_ret (EvS.to (evs_add (evs_add (evs_add (evs_add (evs_add (evs_var (a := madeTxt (.call x name args)) rfl) (evs_c (a := kCall ++ [32, 64]) lit)) (evs_of (a := name) (ev_at (i := 0) (ev_var rfl) hpi rfl))) (evs_c (a := [40]) lit)) (call_args (ev_var rfl) has hA)) (evs_c (a := [41]) lit)) (by simp [deedTxt, Op.args])) (by omega))
theorem ok__law_ending_text (T : Txt w K mg) (c__law_mark : C8.Cal P w K mg base 1 "_law_mark" spOpd []) (c__law_goal : C8.Cal P w K mg base 3 "_law_goal" spTgt []) : C8.Cal P w K mg base 4 "_law_ending_text" spEnd [] := by
  refine T.cal m_def__law_ending_text m_glo__law_ending_text sc__law_ending_text bi__law_ending_text len1 (fun cdv A outer s H vs Q E hr h => ?_)
  obtain ⟨v, rfl, o, hd, ho, q⟩ := h
  refine ⟨_, (pss_cons (ps_if (pt_cmpR op_eq (pe_ix ix_tup (pv 0) pe_int (fun _ _ => rfl)) pe_str (nomark _)) (pss_one (ps_ret (pe_op op_cats pe_str (C8.pe_c c__law_goal hr (by decide) (by rfl) (pa_cons (pe_ix ix_tup (pv 0) pe_int (fun _ _ => rfl)) pa_nil))))) pss_nil)
  (pss_cons (ps_if (pt_cmpR op_eq (pe_ix ix_tup (pv 0) pe_int (fun _ _ => rfl)) pe_str (nomark _)) (pss_one (ps_ret (pe_op op_cats (pe_op op_cats (pe_op op_cats (pe_op op_cats (pe_op op_cats pe_str (C8.pe_c c__law_mark hr (by decide) (by rfl) (pa_cons (pe_ix ix_tup (pv 0) pe_int (fun _ _ => rfl)) pa_nil))) pe_str) (C8.pe_c c__law_goal hr (by decide) (by rfl) (pa_cons (pe_ix ix_tup (pv 0) pe_int (fun _ _ => rfl)) pa_nil))) pe_str) (C8.pe_c c__law_goal hr (by decide) (by rfl) (pa_cons (pe_ix ix_tup (pv 0) pe_int (fun _ _ => rfl)) pa_nil))))) pss_nil)
  (pss_one (ps_ret (pe_ifExp (PW.pt (pw_and (pt_cmpR op_gt (pe_callB call_len_seq (by rfl) (T.free m_free_len) PySem.boot_len (pa_cons (pv 0) pa_nil)) pe_int (nomark _)) (pw_and1 (pt_cmpR op_notN1 (pe_ix ix_tup (pv 0) pe_int (fun _ _ => rfl)) pe_non (nomark _))))) (pe_op op_cats pe_str (C8.pe_c c__law_mark hr (by decide) (by rfl) (pa_cons (pe_ix ix_tup (pv 0) pe_int (fun _ _ => rfl)) pa_nil))) (pe_ix ix_tup (pv 0) pe_int (fun _ _ => rfl))))))), ?_⟩
  have hl := end_len ho
  refine (?_ : RS _ _ H o.txt) _ H (Ex.refl H) q
  cases o with
  | jump t =>
    obtain ⟨p, y1, y2, rfl, hp, h1, h2⟩ := hd.e2
    obtain rfl := h1.strE
    exact rs_y (et_SK (a := kJump) (ev_at (i := 0) (ev_var rfl) hp rfl) ev_c (by decide +kernel)) (rs_ret (EvS.to (evs_add (a := kJump ++ [32]) (evs_c lit) (call_tgt (t := t) (ev_at (i := 1) (ev_var rfl) hp rfl) h2 ho)) (by simp [End.txt])) (by omega))
  | branch c s t =>
    obtain ⟨p, y1, y2, y3, y4, rfl, hp, h1, h2, h3, h4⟩ := hd.e4
    obtain rfl := h1.strE
    exact rs_n (et_SK (a := kBranch) (ev_at (i := 0) (ev_var rfl) hp rfl) ev_c (by decide +kernel)) (rs_y (et_SK (a := kBranch) (ev_at (i := 0) (ev_var rfl) hp rfl) ev_c (by decide +kernel)) (rs_ret (EvS.to (evs_add (evs_add (evs_add (evs_add (evs_add (a := kBranch ++ [32]) (evs_c lit) (call_opd (o := c) (ev_at (i := 1) (ev_var rfl) hp rfl) h2 ho.1)) (evs_c (a := [44, 32]) lit)) (call_tgt (t := s) (ev_at (i := 2) (ev_var rfl) hp rfl) h3 ho.2.1)) (evs_c (a := [44, 32]) lit)) (call_tgt (t := t) (ev_at (i := 3) (ev_var rfl) hp rfl) h4 ho.2.2)) (by simp [End.txt])) (by omega)))
  | ret o =>
    cases o with
    | none =>
      obtain ⟨p, y1, y2, rfl, hp, h1, h2⟩ := hd.e2
      obtain rfl := h1.strE
      obtain rfl := h2.nonE
      exact rs_n (et_SK (a := kRet) (ev_at (i := 0) (ev_var rfl) hp rfl) ev_c (by decide +kernel)) (rs_n (et_SK (a := kRet) (ev_at (i := 0) (ev_var rfl) hp rfl) ev_c (by decide +kernel)) (rs_ret (evs_if_n (et_is (et_and (a := true) (et_is (et_test (ev_op (ev_lenT (ev_var rfl) (SqT.of hp)) ev_c rv_I0)) rfl) fun _ => et_notN (ev_at (i := 1) (ev_var rfl) hp rfl)) rfl) (evs_of (a := kRet) (ev_at (i := 0) (ev_var rfl) hp rfl))) (by decide)))
    | some o =>
      obtain ⟨p, y1, y2, rfl, hp, h1, h2⟩ := hd.e2
      obtain rfl := h1.strE
      have hn : decide (y2 = .non) = false := decide_eq_false fun e => by
        subst e
        cases o <;> cases h2
      exact rs_n (et_SK (a := kRet) (ev_at (i := 0) (ev_var rfl) hp rfl) ev_c (by decide +kernel)) (rs_n (et_SK (a := kRet) (ev_at (i := 0) (ev_var rfl) hp rfl) ev_c (by decide +kernel)) (rs_ret (evs_if_y (et_is (et_and (a := true) (et_is (et_test (ev_op (ev_lenT (ev_var rfl) (SqT.of hp)) ev_c rv_I0)) rfl) fun _ => et_notN (ev_at (i := 1) (ev_var rfl) hp rfl)) (by rw [hn]; rfl)) (EvS.to (evs_add (a := kRet ++ [32]) (evs_c lit) (call_opd (o := o) (ev_at (i := 1) (ev_var rfl) hp rfl) h2 ho)) (by simp [End.txt]))) (by omega)))
  | stop =>
    obtain ⟨p, y1, rfl, hp, h1⟩ := hd.e1
    obtain rfl := h1.strE
    exact rs_n (et_SK (a := kStop) (ev_at (i := 0) (ev_var rfl) hp rfl) ev_c (by decide +kernel)) (rs_n (et_SK (a := kStop) (ev_at (i := 0) (ev_var rfl) hp rfl) ev_c (by decide +kernel)) (rs_ret (evs_if_n (et_is (et_and (a := false) (b := false) (et_is (et_test (ev_op (ev_lenT (ev_var rfl) (SqT.of hp)) ev_c rv_I0)) rfl) fun e => by cases e) rfl) (evs_of (a := kStop) (ev_at (i := 0) (ev_var rfl) hp rfl))) (by decide)))
end
end K6
/-! K6W6: the law's own text of a module. -/
namespace K6
open PySem PySem.Spec PyProof.Rows L2 Evl
def S19 (m : V) (L : Addr) (σ : L2.St) : Prop := ∃ a2 a3 a4 a5 a6 a7 a8 a9 b0 b1 b2 b3 b4 b5 b6 b7 b8 : Option V, σ = [some m, some (.ref L), a2, a3, a4, a5, a6, a7, a8, a9, b0, b1, b2, b3, b4, b5, b6, b7, b8]
/-- the lines so far, in the list that slot 1 names -/
def LnS (H : Hp) (m : V) (l : List Tx) (σ' : L2.St) (H' : Hp) : Prop := ∃ L, H L = none ∧ Ex H H' ∧ H' L = some (.lst (l.map vS)) ∧ S19 m L σ'
section
variable {P : Program} {w : World} {K : PySem.W.Frag} {mg : Str → Option Value} {base : Heap}
theorem pre_len {α : Type} {f : α → List Tx} {l d r : List α} {b : α} {n : Nat} (e : l = d ++ b :: r) (h : (l.flatMap f).length ≤ n) : (d.flatMap f).length + (f b).length ≤ n := by
  subst e
  simp only [List.flatMap_append, List.flatMap_cons, List.length_append] at h
  omega
theorem ok__law_text (T : Txt w K mg) (c__law_kind : C8.Cal P w K mg base 1 "_law_kind" spTyText []) (c__law_op_text : C8.Cal P w K mg base 4 "_law_op_text" spOp []) (c__law_ending_text : C8.Cal P w K mg base 4 "_law_ending_text" spEnd []) : C8.Cal P w K mg base 7 "_law_text" spMd [] := by
  refine T.cal m_def__law_text m_glo__law_text sc__law_text bi__law_text len1 (fun cdv A outer s H vs Q E hr h => ?_)
  obtain ⟨v, rfl, m, hd, ho, q⟩ := h
  refine ⟨_, (pss_cons (ps_set (i := 1) sc__law_text.nd rfl (Or.inl rfl) (pe_lst pa_nil))
  (pss_cons (ps_for PassesOwn.never rfl (pi_tup (pe_ix ix_tup (pv 0) pe_int (fun _ _ => rfl))) (pg_tup rfl (pgs_cons (pg_name (i := 2) sc__law_text.nd rfl (Or.inl rfl)) (pgs_cons (pg_name (i := 3) sc__law_text.nd rfl (Or.inl rfl)) (pgs_cons (pg_name (i := 4) sc__law_text.nd rfl (Or.inl rfl)) (pgs_cons (pg_name (i := 5) sc__law_text.nd rfl (Or.inl rfl)) pgs_nil))))) (pss_one (ps_expr (pe_bm PySem.F.plainAttrs_list PySem.F.slot_list_append PySem.F.type_list_append mt_append (pv 1) (pa_cons (pe_op op_cats (pe_op op_cats (pe_op op_cats (pe_op op_cats (pe_op op_cats (pe_op op_cats pe_str (pv 2)) pe_str) (pe_callTy cr_strI (by rfl) (T.free m_free_str) (by decide +kernel) (pa_cons (pv 3) pa_nil))) pe_str) (pe_joinN pe_str (pe_lc (own := [("_law_cell", 6)]) (g := gName 6) rfl sc__law_text.nd (pi_tup (pv 5)) (blkOk_by (N := n__law_text) (sc := defScope s__law_text) (by decide +kernel)) (fun _ _ _ _ _ => (pg_name (i := 6) sc__law_text.nd rfl (Or.inl rfl))) (fun _ _ _ _ _ => pts_nil) (fun _ _ _ _ _ => (pe_callTy cr_strI (by rfl) (T.free m_free_str) (by decide +kernel) (pa_cons (pv 6) pa_nil)))))) pe_str) pa_nil)))))
  (pss_cons (ps_for PassesOwn.never rfl (pi_tup (pe_ix ix_tup (pv 0) pe_int (fun _ _ => rfl))) (pg_tup rfl (pgs_cons (pg_name (i := 2) sc__law_text.nd rfl (Or.inl rfl)) (pgs_cons (pg_name (i := 7) sc__law_text.nd rfl (Or.inl rfl)) (pgs_cons (pg_name (i := 8) sc__law_text.nd rfl (Or.inl rfl)) (pgs_cons (pg_name (i := 9) sc__law_text.nd rfl (Or.inl rfl)) pgs_nil))))) (pss_cons (ps_set (i := 10) sc__law_text.nd rfl (Or.inl rfl) (pe_ifExp (pt_cmpR op_isN1 (pv 8) pe_non (nomark _)) pe_str (pe_op op_cats pe_str (pe_callTy cr_strI (by rfl) (T.free m_free_str) (by decide +kernel) (pa_cons (pv 8) pa_nil)))))
  (pss_cons (ps_expr (pe_bm PySem.F.plainAttrs_list PySem.F.slot_list_append PySem.F.type_list_append mt_append (pv 1) (pa_cons (pe_op op_cats (pe_op op_cats (pe_op op_cats (pe_op op_cats (pe_op op_cats (pe_op op_cats pe_str (pv 10)) pe_str) (pv 2)) pe_str) (pe_joinN pe_str (pe_lc (own := [("_law_one", 11)]) (g := gName 11) rfl sc__law_text.nd (pi_tup (pv 7)) (blkOk_by (N := n__law_text) (sc := defScope s__law_text) (by decide +kernel)) (fun _ _ _ _ _ => (pg_name (i := 11) sc__law_text.nd rfl (Or.inl rfl))) (fun _ _ _ _ _ => pts_nil) (fun _ _ _ _ _ => (C8.pe_c c__law_kind hr (by decide) (by rfl) (pa_cons (pv 11) pa_nil)))))) pe_str) pa_nil)))
  (pss_cons (ps_for PassesOwn.never rfl (pi_tup (pv 9)) (pg_tup rfl (pgs_cons (pg_name (i := 12) sc__law_text.nd rfl (Or.inl rfl)) (pgs_cons (pg_name (i := 13) sc__law_text.nd rfl (Or.inl rfl)) (pgs_cons (pg_name (i := 14) sc__law_text.nd rfl (Or.inl rfl)) (pgs_cons (pg_name (i := 15) sc__law_text.nd rfl (Or.inl rfl)) pgs_nil))))) (pss_cons (ps_set (i := 16) sc__law_text.nd rfl (Or.inl rfl) (pe_joinN pe_str (pe_lc (own := [("_law_value", 17), ("_law_one", 11)]) (g := gTup _ 2 _) rfl sc__law_text.nd (pi_tup (pv 13)) (blkOk_by (N := n__law_text) (sc := defScope s__law_text) (by decide +kernel)) (fun _ _ _ _ _ => (pg_tup rfl (pgs_cons (pg_name (i := 17) sc__law_text.nd rfl (Or.inl rfl)) (pgs_cons (pg_name (i := 11) sc__law_text.nd rfl (Or.inl rfl)) pgs_nil)))) (fun _ _ _ _ _ => pts_nil) (fun _ _ _ _ _ => (pe_op op_cats (pe_op op_cats (C8.pe_c c__law_kind hr (by decide) (by rfl) (pa_cons (pv 11) pa_nil)) pe_str) (pe_callTy cr_strI (by rfl) (T.free m_free_str) (by decide +kernel) (pa_cons (pv 17) pa_nil)))))))
  (pss_cons (ps_expr (pe_bm PySem.F.plainAttrs_list PySem.F.slot_list_append PySem.F.type_list_append mt_append (pv 1) (pa_cons (pe_op op_cats (pe_op op_cats (pe_op op_cats (pe_op op_cats pe_str (pe_callTy cr_strI (by rfl) (T.free m_free_str) (by decide +kernel) (pa_cons (pv 12) pa_nil))) pe_str) (pv 16)) pe_str) pa_nil)))
  (pss_one (ps_set (i := 1) sc__law_text.nd rfl (Or.inl rfl) (pe_op op_cat (pe_op op_cat (pv 1) (pe_lc (own := [("_law_op_here", 18)]) (g := gName 18) rfl sc__law_text.nd (pi_tup (pv 14)) (blkOk_by (N := n__law_text) (sc := defScope s__law_text) (by decide +kernel)) (fun _ _ _ _ _ => (pg_name (i := 18) sc__law_text.nd rfl (Or.inl rfl))) (fun _ _ _ _ _ => pts_nil) (fun _ _ _ _ _ => (pe_op op_cats pe_str (C8.pe_c c__law_op_text hr (by decide) (by rfl) (pa_cons (pv 18) pa_nil)))))) (pe_lst (pa_cons (pe_op op_cats pe_str (C8.pe_c c__law_ending_text hr (by decide) (by rfl) (pa_cons (pv 15) pa_nil))) pa_nil))))))))
  (pss_one (ps_expr (pe_bm PySem.F.plainAttrs_list PySem.F.slot_list_append PySem.F.type_list_append mt_append (pv 1) (pa_cons pe_str pa_nil))))))))
  (pss_one (ps_ret (pe_joinN pe_str (pv 1))))))), ?_⟩
  obtain ⟨p, y1, y2, rfl, hp, h1, h2⟩ := hd.e2
  obtain ⟨a1, xs1, rfl, ha1, hx1⟩ := h1.tupE
  obtain ⟨a2, xs2, rfl, ha2, hx2⟩ := h2.tupE
  have hgl := ho.glen
  have hfl := ho.flen
  have hml := md_len ho
  have hbs := lines_map (f := Fn.lines) (k := 20) (n := 3) (fun b hb => (fn_lines (ho.fs b hb)).1) hfl
  refine q_asgL (el_lst ea_nil (Nat.zero_le _)) fun L0 H1 hL0 e1 hL1 => ?_
  refine q_forD (fun d σ' H' => LnS H (.ref p) (d.map Gb.txt) σ' H') (ev_at (i := 0) (ev_var rfl) (e1 _ _ hp) rfl) ha1 hx1 e1 (fun H2 e2 => ⟨L0, hL0, e1.trans e2, e2 _ _ hL1, _, _, _, _, _, _, _, _, _, _, _, _, _, _, _, _, _, rfl⟩) (fun d σ' H' h => h.choose_spec.2.1) (fun d g r x σ' H' el hdx pv => ?_) fun σ' H' pv => ?_
  · obtain ⟨L, hL, e, hLL, z2, z3, z4, z5, z6, z7, z8, z9, y0, y1, y2, y3, y4, y5, y6, y7, y8, rfl⟩ := pv
    have hg := ho.gs g (by rw [el]; simp)
    refine g_tup4 (KT.ex e) hdx fun x1 x2 x3 x4 d1 d2 d3 d4 => ?_
    obtain rfl := d1.strE
    obtain rfl := d2.intE
    obtain ⟨a, xs, rfl, ha, hx⟩ := d4.tupE
    have hc : ∀ c ∈ g.cells, c < 2 ^ 64 := fun c hc => cell_lt hg.w (hg.cells c hc)
    have hcl := hg.clen
    have hgt := gb_len hg
    have h2 : tot (g.cells.map num) ≤ _ := tot_le (tx := num) (k := 20) (l := g.cells) (fun c h => num_len (hc c h))
    have hdl : (d.map Gb.txt).length ≤ 2 := by
      rw [List.length_map]
      have := congrArg List.length el
      rw [List.length_append] at this
      omega
    refine s_app (xs := (d.map Gb.txt).map vS) (v := vS g.txt) hLL (ev_var rfl) (EvS.to (evs_add (evs_add (evs_add (evs_add (evs_add (evs_add (a := [64]) (evs_c lit) (b := g.name) (evs_var rfl)) (evs_c (a := [32, 61, 32] ++ kGlobal ++ [32, 105]) lit)) (evs_num (n := g.w) (ev_var rfl) (wd_lt hg.w))) (evs_c (a := [32, 91]) lit))
      (evs_join (s := [44, 32]) (l := g.cells.map num) lit (by decide) (els_map (ev_var rfl) (e _ _ ha) (hx.kt (KT.ex e)) (by omega) (fun _ => rfl) fun c x H1 e hm hdx => by
        obtain rfl := hdx.intE
        exact evs_num (n := c) (ev_var rfl) (hc c hm)) (Nat.le_trans h2 (by omega)))) (evs_c (a := [93]) lit)) (by simp [Gb.txt, Ty.txt]) (Nat.le_trans hgt (by decide))) (by rw [List.length_map]; omega) fun H4 e4 => ?_
    refine ⟨L, hL, Ex.mut (e.trans e4) hL, ?_, _, _, _, _, _, _, _, _, _, _, _, _, _, _, _, _, _, rfl⟩
    rw [upd_same, List.map_append, List.map_append]
    rfl
  obtain ⟨L1, hL1, e1, hLL1, z2, z3, z4, z5, z6, z7, z8, z9, y0, y1, y2, y3, y4, y5, y6, y7, y8, rfl⟩ := pv
  refine q_forD (fun d σ' H' => LnS H (.ref p) (m.gs.map Gb.txt ++ d.flatMap Fn.lines) σ' H') (ev_at (i := 1) (ev_var rfl) (e1 _ _ hp) rfl) ha2 hx2 e1 (fun H2 e2 => ⟨L1, hL1, e1.trans e2, by
    rw [List.flatMap_nil, List.append_nil]
    exact e2 _ _ hLL1, _, _, _, _, _, _, _, _, _, _, _, _, _, _, _, _, _, rfl⟩) (fun d σ' H' h => h.choose_spec.2.1) (fun d f r x σ' H' el hdx pv => ?_) fun σ' H' pv => ?_
  · obtain ⟨L, hL, e, hLL, z2, z3, z4, z5, z6, z7, z8, z9, y0, y1, y2, y3, y4, y5, y6, y7, y8, rfl⟩ := pv
    have hf := ho.fs f (by rw [el]; simp)
    have hpre := pre_len (n := 60) el hbs
    have hfn := (fn_lines hf).1
    have hgm : (m.gs.map Gb.txt).length ≤ 2 := by
      rw [List.length_map]
      exact hgl
    refine g_tup4 (KT.ex e) hdx fun x1 x2 x3 x4 d1 d2 d3 d4 => ?_
    obtain rfl := d1.strE
    obtain ⟨a, xs, rfl, ha, hx⟩ := d2.tupE
    obtain rfl := d3.opt
    obtain ⟨a4, xs4, rfl, ha4, hx4⟩ := d4.tupE
    have hpl := hf.plen
    have hbl := hf.blen
    have hrl := res_len hf.res
    have ht2 : tot (f.pars.map Ty.txt) ≤ _ := tot_le (tx := Ty.txt) (k := 3) fun p hp => ty_len (hf.pars p hp)
    have hfl := fnHead_len hf
    have hbs2 := lines_map (f := Blk.lines) (k := 6) (n := 3) (fun b hb => (blk_lines (hf.blks b hb)).1) hbl
    refine q_asg (v := vS (resTxt f.res)) (evs_if (et_isN (ev_var rfl)) (fun e => ?_) (fun e => ?_) (by omega)) fun H2 e2 => ?_
    · rw [opt_non] at e
      cases hx : f.res with
      | none => exact evs_c lit
      | some n =>
        rw [hx] at e
        cases e
    · rw [opt_non] at e
      cases hx : f.res with
      | none =>
        rw [hx] at e
        cases e
      | some n =>
        have hw := hf.res
        rw [hx] at hw
        exact evs_add (a := [105]) (evs_c lit) (evs_num (n := n) (ev_var rfl) (wd_lt hw))
    have e12 := e.trans e2
    refine q_app (xs := (m.gs.map Gb.txt ++ d.flatMap Fn.lines).map vS) (v := vS (fnHead f)) (e2 _ _ hLL) (ev_var rfl) (EvS.to (evs_add (evs_add (evs_add (evs_add (evs_add (evs_add (a := kDefine ++ [32]) (evs_c lit) (b := resTxt f.res) (evs_var rfl)) (evs_c (a := [32, 64]) lit)) (evs_var (a := f.name) rfl)) (evs_c (a := [40]) lit))
      (evs_join (s := [44, 32]) (l := f.pars.map Ty.txt) lit (by decide) (els_map (tx := Ty.txt) (ev_var rfl) (e12 _ _ ha) (hx.kt (KT.ex e12)) (by omega) (fun _ => rfl) fun t x H3 e3 hm hdx => by
        obtain rfl := hdx.ty
        exact call_ty (ev_var rfl) (hf.pars t hm)) (Nat.le_trans ht2 (by omega)))) (evs_c (a := [41, 32, 123]) lit)) (by simp [fnHead]) (by omega)) (by
      rw [List.length_map, List.length_append]
      omega) fun H3 e3 => ?_
    have e13 : Ex H (upd H3 L (.lst ((m.gs.map Gb.txt ++ d.flatMap Fn.lines).map vS ++ [vS (fnHead f)]))) := Ex.mut (e12.trans e3) hL
    refine q_forD (fun d2 σ' H' => LnS H (.ref p) (m.gs.map Gb.txt ++ d.flatMap Fn.lines ++ [fnHead f] ++ d2.flatMap Blk.lines) σ' H') (ev_var rfl) ha4 hx4 e13 (fun H4 e4 => ⟨L, hL, e13.trans e4, by
      rw [List.flatMap_nil, List.append_nil, List.map_append]
      exact e4 _ _ upd_same, _, _, _, _, _, _, _, _, _, _, _, _, _, _, _, _, _, rfl⟩) (fun d σ' H' h => h.choose_spec.2.1) (fun dd b r2 x σ' H' el2 hdx pv => ?_) fun σ' H' pv => ?_
    · obtain ⟨L, hL, e, hLL, z2, z3, z4, z5, z6, z7, z8, z9, y0, y1, y2, y3, y4, y5, y6, y7, y8, rfl⟩ := pv
      have hb := hf.blks b (by rw [el2]; simp)
      have hpre2 := pre_len (n := 18) el2 hbs2
      have hpl := hb.plen
      have hol := hb.olen
      have hlab := num_len hb.lab
      have hc := cj_len (tx := parTxt) (k := 25) fun p hp => par_len (hb.pars p hp)
      have ht2 : tot (b.pars.map parTxt) ≤ _ := tot_le (tx := parTxt) (k := 25) fun p hp => par_len (hb.pars p hp)
      have hto : tot (b.ops.map fun o : Op => 32 :: 32 :: o.txt) ≤ _ := tot_le (tx := fun o : Op => 32 :: 32 :: o.txt) (k := 190) (l := b.ops) fun o h => by
        have := op_len (hb.ops o h)
        simp only [List.length_cons]
        omega
      have hel := end_len hb.en
      refine g_tup4 (KT.ex e) hdx fun x1 x2 x3 x4 d1 d2 d3 d4 => ?_
      obtain rfl := d1.intE
      obtain ⟨a2, xs2, rfl, ha2, hx2⟩ := d2.tupE
      obtain ⟨a3, xs3, rfl, ha3, hx3⟩ := d3.tupE
      refine q_asg (v := vS (cj (b.pars.map parTxt))) (evs_join (s := [44, 32]) (l := b.pars.map parTxt) lit (by decide) (els_mapG (ev_var rfl) (e _ _ ha2) (hx2.kt (KT.ex e)) (by omega) fun pr x H2 e2 hm hdx => ?_) (Nat.le_trans ht2 (by omega)) (by show (cj (b.pars.map parTxt)).length ≤ _; omega)) fun H2 e2 => ?_
      · obtain ⟨a, z1, z2, rfl, hz, d1, d2⟩ := hdx.e2
        obtain rfl := d1.intE
        obtain rfl := d2.ty
        refine ⟨_, ?w, fun R r => ⟨a, _, rfl, SqT.of hz, rfl, ⟨_, _, rfl, _, _, rfl, rfl, r⟩⟩, ?v⟩
        case w => rfl
        exact EvS.to (evs_add (evs_add (call_ty (t := pr.2) (ev_var rfl) (hb.pars pr hm).2) (evs_c (a := [32, 36]) lit)) (evs_num (n := pr.1) (ev_var rfl) (hb.pars pr hm).1)) (by simp [parTxt])
      refine q_app (v := vS (98 :: num b.lab ++ 40 :: cj (b.pars.map parTxt) ++ [41, 58])) (e2 _ _ hLL) (ev_var rfl) (EvS.to (evs_add (evs_add (evs_add (evs_add (a := [98]) (evs_c lit) (evs_num (n := b.lab) (ev_var rfl) hb.lab)) (evs_c (a := [40]) lit)) (evs_var (a := cj (b.pars.map parTxt)) rfl)) (evs_c (a := [41, 58]) lit)) (by simp) (by
        simp only [List.length_append, List.length_cons, List.length_nil]
        omega)) (by
        simp only [List.length_append, List.length_cons, List.length_nil, List.length_map] at hgm ⊢
        omega) fun H3 e3 => ?_
      have e13 := Ex.mut (o := .lst (((m.gs.map Gb.txt ++ d.flatMap Fn.lines ++ [fnHead f] ++ dd.flatMap Blk.lines).map vS) ++ [vS (98 :: num b.lab ++ 40 :: cj (b.pars.map parTxt) ++ [41, 58])])) (e.trans (e2.trans e3)) hL
      refine s_asgL (el_cat (el_catV (ev_var rfl) upd_same (els_map (tx := fun o : Op => 32 :: 32 :: o.txt) (ev_var rfl) (e13 _ _ ha3) (hx3.kt (KT.ex e13)) (by omega) (fun _ => rfl) (fun o x H4 e4 hm hdx => EvS.to (evs_add (a := [32, 32]) (evs_c lit) (call_op (o := o) (ev_var rfl) hdx (hb.ops o hm))) (by simp)) (Nat.le_trans hto (by omega))) ?_) (el_one (a := 32 :: 32 :: b.en.txt) (EvS.to (evs_add (a := [32, 32]) (evs_c lit) (call_end (o := b.en) (ev_var rfl) (d4.kt (KT.ex e13)) hb.en)) (by simp)) ?_) ?_) fun q1 H4 hq e4 h4 => ?_
      · simp only [List.length_append, List.length_cons, List.length_nil, List.length_map] at hgm ⊢
        omega
      · simp only [List.length_cons]
        omega
      · simp only [List.length_append, List.length_cons, List.length_nil, List.length_map] at hgm ⊢
        omega
      · refine ⟨q1, fresh_back e13 hq, e13.trans e4, ?_, _, _, _, _, _, _, _, _, _, _, _, _, _, _, _, _, _, rfl⟩
        rw [h4]
        simp [Blk.lines]
    · obtain ⟨L, hL, e, hLL, z2, z3, z4, z5, z6, z7, z8, z9, y0, y1, y2, y3, y4, y5, y6, y7, y8, rfl⟩ := pv
      refine s_app (v := vS [125]) hLL (ev_var rfl) (by
        have e : (V.str "}") = vS [125] := congrArg V.str lit
        rw [← e]
        exact ev_c) ?_ fun H4 e4 => ?_
      · simp only [List.length_append, List.length_cons, List.length_nil, List.length_map] at hgm ⊢
        omega
      · refine ⟨L, hL, Ex.mut (e.trans e4) hL, ?_, _, _, _, _, _, _, _, _, _, _, _, _, _, _, _, _, _, rfl⟩
        rw [upd_same]
        simp [Fn.lines, fnHead]
  · obtain ⟨L, hL, e, hLL, z2, z3, z4, z5, z6, z7, z8, z9, y0, y1, y2, y3, y4, y5, y6, y7, y8, rfl⟩ := pv
    exact s_ret (evs_joinV (s := [10]) (l := m.lines) lit (by decide) (ev_var rfl) hLL (by show m.txt.length ≤ _; omega)) fun H5 e5 => q H5 (e.trans e5)
end
end K6
/-! K6L1: the program's tokens: run_end, token_end, scanned. -/
namespace K6
open PySem PySem.Spec PyProof.Rows L2 Evl
/-! ### texts laid out, sign by sign -/
theorem lay_step {g : Bool} {ts : List Tx} {c : Nat} {x : Tx} (h : LayF g ts (c :: x)) : (isBl c = true ∧ LayF true ts x) ∨ (isBl c = false ∧ ∃ t us r, ts = t :: us ∧ c :: x = t ++ r ∧ TkOk t ∧ LayF (sgT t) us r) := by
  cases h with
  | nil hs => exact .inl ⟨hs c List.mem_cons_self, .nil fun d hd => hs d (List.mem_cons_of_mem _ hd)⟩
  | @cons _ s t r _ us hs hn ht hr e =>
    cases s with
    | nil =>
      refine .inr ⟨?_, t, us, r, rfl, e, ht, hr⟩
      exact tok_hd ht c x e.symm
    | cons d q =>
      injection e with e1 e2
      subst e1 e2
      exact .inl ⟨hs c List.mem_cons_self, .cons (fun z hz => hs z (List.mem_cons_of_mem _ hz)) (fun _ => .inl rfl) ht hr rfl⟩
theorem lay_none {g : Bool} {ts : List Tx} (h : LayF g ts []) : ts = [] := by
  cases h with
  | nil _ => rfl
  | @cons _ s t r _ us hs hn ht hr e =>
    have := congrArg List.length e
    have h1 : t.length ≠ 0 := fun z => ht.ne (List.eq_nil_of_length_eq_zero z)
    simp only [List.length_append, List.length_nil] at this
    omega
theorem tok_kind {tk r : Tx} (ht : TkOk tk) (hb : sgT tk = true ∨ Brk r) : (∃ c, tk = [c] ∧ isSg c = true) ∨ ∃ m x c, tk = m ++ x ∧ m.length ≤ 1 ∧ x ≠ [] ∧ (∀ d ∈ x, isWd d = true) ∧ Brk r ∧ m ++ x = c :: (m ++ x).tail ∧ isSg c = false ∧ isBl c = false ∧ decide (c ∈ [36, 64]) = decide (m.length = 1) := by
  cases ht with
  | @sg c hc => exact .inl ⟨c, rfl, hc⟩
  | @wd c x hc hx =>
    have hbr : Brk r := hb.elim (fun z => by
      cases x with
      | nil =>
        have z' : isSg c = true := z
        rw [wd_not_sg hc] at z'
        cases z'
      | cons _ _ => cases z) id
    exact .inr ⟨[], c :: x, c, rfl, by decide, by simp, fun d hd => by
      rcases List.mem_cons.mp hd with rfl | hd
      · exact hc
      · exact hx d hd, hbr, rfl, wd_not_sg hc, wd_not_bl hc, by rw [wd_not_mk hc]; rfl⟩
  | @mk m c x hm hc hx =>
    have hbr : Brk r := hb.elim (fun z => by cases z) id
    exact .inr ⟨[m], c :: x, m, rfl, by simp, by simp, fun d hd => by
      rcases List.mem_cons.mp hd with rfl | hd
      · exact hc
      · exact hx d hd, hbr, rfl, (mk_cases hm).2, by
      have h' : m = 36 ∨ m = 64 := by simpa using hm
      rcases h' with e | e <;> rw [e] <;> decide, by rw [decide_eq_true hm]; rfl⟩
section
variable {K : PySem.W.Frag} {σ : L2.St} {H H' : Hp} {ta tb te : TE} {tt : TT} {t u : TS} {a b : Tx}
def rLenT : List V → Hp → VK → Prop := fun xs H Q => ∃ z, xs = [.str z] ∧ z.length ≤ sizeLine ∧ Q (.int z.length) H
theorem ev_lenS (ha : Ev ta σ H (vS a)) (hz : a.length ≤ 60000) : Ev (tCB rLenT (tCons ta tNil)) σ H (.int (a.length : Int)) := ev_cb (ea_cons ha ea_nil) fun H1 e Q q => ⟨_, rfl, by
  rw [len_S]
  exact sz_of (by omega), by
  rw [len_S]
  exact q H1 (Ex.refl H1)⟩
theorem ev_chr {p r : Tx} {c i : Nat} (ha : Ev ta σ H (vS a)) (hz : a.length ≤ 60000) (hb : Ev tb σ H (.int (i : Int))) (e : a = p ++ c :: r) (hi : i = p.length) : Ev (tOp rIxS ta tb) σ H (vS [c]) := ev_op ha hb (rv_ixS (by
  rw [len_S]
  exact Nat.le_trans hz (by decide)) (atI_nat (by
  show a[i]? = some c
  rw [e, hi]
  simp)))
theorem et_inC {L : Tx} {c : Nat} (ha : Ev ta σ H (vS [c])) (hb : Ev tb σ H (vS L)) : EvT (tTest (tOp rInS ta tb)) σ H (decide (c ∈ L)) := et_test (ev_op ha hb (rv_val fun H1 e Q q => ⟨c, SX.S L, rfl, rfl, q⟩))
theorem ev_inC {L : Tx} {c : Nat} (ha : Ev ta σ H (vS [c])) (hb : Ev tb σ H (vS L)) : Ev (tOp rInS ta tb) σ H (.bl (decide (c ∈ L))) := ev_op ha hb (rv_val fun H1 e Q q => ⟨c, SX.S L, rfl, rfl, q⟩)
theorem et_niC {L : Tx} {c : Nat} (ha : Ev ta σ H (vS [c])) (hb : Ev tb σ H (vS L)) : EvT (tTest (tOp rNotInS ta tb)) σ H (!decide (c ∈ L)) := et_test (ev_op ha hb (rv_val fun H1 e Q q => ⟨c, SX.S L, rfl, rfl, q⟩))
theorem ev_lit {x : Str} {L : Tx} (h : x = SX.S L) : Ev (tC (.str x)) σ H (vS L) := by
  rw [h]
  exact ev_c
theorem et_ltI {i j : Int} (ha : Ev ta σ H (.int i)) (hb : Ev tb σ H (.int j)) : EvT (tTest (tOp (rI0 fun i j => .bl (decide (i < j))) ta tb)) σ H (decide (i < j)) := et_test (ev_op ha hb rv_I0)
theorem et_eqI {i j : Int} (ha : Ev ta σ H (.int i)) (hb : Ev tb σ H (.int j)) : EvT (tTest (tOp rEq ta tb)) σ H (decide (i = j)) := et_is (et_test (ev_op ha hb (rv_eq rfl))) (decide_eq_decide.mpr ⟨fun h => by injection h, fun h => by rw [h]⟩)
/-- a text cut: from, to, between -/
def rCutT : V → Option Int → Option Int → Hp → VK → Prop := fun x lo hi H Q => ∃ z, x = .str z ∧ z.length ≤ sizeLine ∧ Q (.str (Txt.slice z lo hi)) H
theorem evs_mid {p w r : Tx} {i j : Nat} {tl th : TO} (ha : Ev ta σ H (vS a)) (hz : a.length ≤ 60000) (hl : EvO tl σ H (some (i : Int))) (hh : EvO th σ H (some (j : Int))) (e : a = p ++ (w ++ r)) (hi : i = p.length) (hj : j = p.length + w.length) : Ev (tSl rCutT ta tl th) σ H (vS w) := fun H1 e1 Q q =>
  ha H1 e1 _ fun H2 e2 => hl H2 (e1.trans e2) _ fun H3 e3 => hh H3 (e1.trans (e2.trans e3)) _ fun H4 e4 => ⟨_, rfl, by
    rw [len_S]
    exact sz_of (by omega), by
    have hl : (SX.S a).length = a.length := len_S a
    have h2 : p.length + w.length ≤ a.length := by
      rw [e, List.length_append, List.length_append]
      omega
    have h := beq_iff_eq.mp (slice_closesL (x := SX.S a) (i := (i : Int)) (j := (j : Int)) (by omega) (by omega) (by omega))
    have hh : (⟨(((SX.S a).cps.toList.drop (i : Int).toNat).take ((j : Int) - (i : Int)).toNat).toArray⟩ : Str) = SX.S w := by
      have e0 : (SX.S a).cps.toList = a := rfl
      rw [e0, e, Int.toNat_natCast, hi, List.drop_left, show ((j : Int) - ((p.length : Nat) : Int)).toNat = w.length by omega, List.take_left]
    rw [h, hh]
    exact q H4 (e2.trans (e3.trans e4))⟩
theorem evs_to {i : Nat} {th : TO} (ha : Ev ta σ H (vS a)) (hz : a.length ≤ 60000) (hh : EvO th σ H (some (i : Int))) : Ev (tSl rCutT ta tNoPart th) σ H (vS (a.take i)) := fun H1 e1 Q q =>
  ha H1 e1 _ fun H2 e2 => hh H2 (e1.trans e2) _ fun H4 e4 => ⟨_, rfl, by
    rw [len_S]
    exact sz_of (by omega), by
    rw [SX.slice_to (by omega), Int.toNat_natCast]
    exact q H4 (e2.trans e4)⟩
theorem evs_from {i : Nat} {th : TO} (ha : Ev ta σ H (vS a)) (hz : a.length ≤ 60000) (hh : EvO th σ H (some (i : Int))) : Ev (tSl rCutT ta th tNoPart) σ H (vS (a.drop i)) := fun H1 e1 Q q =>
  ha H1 e1 _ fun H2 e2 => hh H2 (e1.trans e2) _ fun H4 e4 => ⟨_, rfl, by
    rw [len_S]
    exact sz_of (by omega), by
    rw [SX.slice_from (by omega), Int.toNat_natCast]
    exact q H4 (e2.trans e4)⟩
end
theorem lit_LET : (Str.ofString "abcdefghijklmnopqrstuvwxyzABCDEFGHIJKLMNOPQRSTUVWXYZ_") = SX.S letL := by decide +kernel
theorem lit_FIG : (Str.ofString "0123456789") = SX.S figL := by decide +kernel
theorem lit_SGN : (Str.ofString "()[]{},:=") = SX.S sgnL := by decide +kernel
theorem lit_BL : (Str.ofString " \n") = SX.S [32, 10] := by decide +kernel
theorem lit_MK : (Str.ofString "$@") = SX.S [36, 64] := by decide +kernel
section
variable {P : Program} {w : World} {K : PySem.W.Frag} {mg : Str → Option Value} {base : Heap}
def spRun : Sp := Pr2 fun t i H Q => ∃ a pre r w' : Tx, t = vS a ∧ i = .int (pre.length : Int) ∧ a = pre ++ (w' ++ r) ∧ (∀ c ∈ w', isWd c = true) ∧ Brk r ∧ a.length ≤ 60000 ∧ RetV (.int ((pre.length + w'.length : Nat) : Int)) H Q
theorem ok_run_end (T : Txt w K mg) : C8.Cal P w K mg base 1 "run_end" spRun [] := by
  refine T.cal m_def_run_end m_glo_run_end sc_run_end bi_run_end len2 (fun cdv A outer s H vs Q E hr h => ?_)
  obtain ⟨t, i, rfl, a, pre, r, wd, rfl, rfl, ea, hw, hb, hz, q⟩ := h
  refine ⟨_, (pss_cons (ps_while PassesOwn.never (PW.pt (pw_and (pt_cmpR op_lt (pv 1) (pe_callB call_len_str (by rfl) (T.free m_free_len) PySem.boot_len (pa_cons (pv 0) pa_nil)) (nomark _)) (pw_and1 (PW.pt (pw_or (pt_cmpR op_inS (pe_ix ix_str (pv 0) (pv 1) (fun _ _ => rfl)) (C8.pe_gc (by rfl) (T.str m_str_LETTERS)) (by rfl)) (pw_or1 (pt_cmpR op_inS (pe_ix ix_str (pv 0) (pv 1) (fun _ _ => rfl)) (C8.pe_gc (by rfl) (T.str m_str_FIGURES)) (by rfl)))))))) (pss_one (ps_aug (i := 1) sc_run_end.nd rfl (Or.inl rfl) pe_int ip_add)))
  (pss_one (ps_ret (pv 1)))), ?_⟩
  refine q_while (fun m σ' H' => ∃ p2 w2, pre ++ (wd ++ r) = p2 ++ (w2 ++ r) ∧ p2.length + w2.length = pre.length + wd.length ∧ (∀ c ∈ w2, isWd c = true) ∧ m = w2.length ∧ Ex H H' ∧ σ' = [some (vS a), some (.int (p2.length : Int))]) wd.length ⟨pre, wd, rfl, rfl, hw, rfl, Ex.refl H, rfl⟩ fun m σ' H' ⟨p2, w2, e1, e2, hw2, hm, ex, es⟩ => ?_
  subst es
  have eal : a.length = p2.length + w2.length + r.length := by
    rw [ea, e1, List.length_append, List.length_append]
    omega
  have hchr : ∀ c x, w2 ++ r = c :: x → EvT (tOr (tTest (tOp rInS (tOp rIxS (tVar 0) (tVar 1)) (tC (.str "abcdefghijklmnopqrstuvwxyzABCDEFGHIJKLMNOPQRSTUVWXYZ_")))) (tTest (tOp rInS (tOp rIxS (tVar 0) (tVar 1)) (tC (.str "0123456789"))))) [some (vS a), some (.int (p2.length : Int))] H' (isWd c) := fun c x hx => by
    have h1 : Ev (tOp rIxS (tVar 0) (tVar 1)) [some (vS a), some (.int (p2.length : Int))] H' (vS [c]) := ev_chr (ev_var rfl) hz (ev_var rfl) (by rw [ea, e1, hx]) rfl
    exact et_or (et_inC h1 (ev_lit lit_LET)) fun _ => et_inC h1 (ev_lit lit_FIG)
  cases w2 with
  | nil =>
    refine ⟨false, ?_, (fun e => by cases e), fun _ H1 e3 => ?_⟩
    · refine et_is (et_and (b := false) (et_ltI (ev_var rfl) (ev_lenS (ev_var rfl) hz)) fun h => ?_) (Bool.and_false _)
      cases r with
      | nil =>
        have h' := of_decide_eq_true h
        simp only [List.length_nil] at eal
        omega
      | cons c x => exact et_is (hchr c x rfl) hb
    · refine s_ret (ev_var rfl) fun H4 e4 => ?_
      have e0 : p2.length = pre.length + wd.length := by simpa using e2
      rw [← e0] at q
      exact q H4 (ex.trans (e3.trans e4))
  | cons c x =>
    refine ⟨true, ?_, fun _ H1 e3 => ?_, (fun e => by cases e)⟩
    · refine et_is (et_and (et_ltI (ev_var rfl) (ev_lenS (ev_var rfl) hz)) fun h => hchr c (x ++ r) rfl) ?_
      rw [hw2 c List.mem_cons_self, Bool.and_true]
      refine decide_eq_true ?_
      simp only [List.length_cons] at eal
      omega
    · refine ⟨_, fun σ2 H2 (h : ∃ (_ : Ex H H2), σ2 = [some (vS a), some (.int ((p2.length : Int) + 1))]) => ⟨x.length, by rw [hm]; exact Nat.lt_succ_self _, p2 ++ [c], x, by rw [e1]; simp, ?_, fun d hd => hw2 d (List.mem_cons_of_mem _ hd), rfl, h.1, ?_⟩, s_aug rfl ev_c fun H4 e4 => ⟨ex.trans (e3.trans e4), rfl⟩⟩
      · simp only [List.length_append, List.length_cons, List.length_nil] at e2 ⊢
        omega
      · rw [h.2]
        simp
/-! ### token_end -/
def spTok : Sp := Pr2 fun t i H Q => ∃ a pre : Tx, t = vS a ∧ i = .int (pre.length : Int) ∧ a.length ≤ 60000 ∧
  ((∃ c r, a = pre ++ c :: r ∧ isBl c = true ∧ RetV (.int ((pre.length + 1 : Nat) : Int)) H Q) ∨ ∃ tk r, a = pre ++ (tk ++ r) ∧ TkOk tk ∧ (sgT tk = true ∨ Brk r) ∧ RetV (.int ((pre.length + tk.length : Nat) : Int)) H Q)
theorem ok_token_end (T : Txt w K mg) (c_run_end : C8.Cal P w K mg base 1 "run_end" spRun []) : C8.Cal P w K mg base 2 "token_end" spTok [] := by
  refine T.cal m_def_token_end m_glo_token_end sc_token_end bi_token_end len2 (fun cdv A outer s H vs Q E hr h => ?_)
  obtain ⟨t, i, rfl, a, pre, rfl, rfl, hz, h⟩ := h
  refine ⟨_, (pss_cons (ps_if (PW.pt (pw_or (pt_cmpR op_inS (pe_ix ix_str (pv 0) (pv 1) (fun _ _ => rfl)) (C8.pe_gc (by rfl) (T.str m_str_SIGNS)) (by rfl)) (pw_or1 (pt_cmpR op_inS (pe_ix ix_str (pv 0) (pv 1) (fun _ _ => rfl)) pe_str (by rfl))))) (pss_one (ps_ret (pe_op op_add (pv 1) pe_int))) pss_nil)
  (pss_cons (ps_set (i := 2) sc_token_end.nd rfl (Or.inl rfl) (pe_ifExp (pt_cmpR op_inS (pe_ix ix_str (pv 0) (pv 1) (fun _ _ => rfl)) pe_str (by rfl)) (pe_op op_add (pv 1) pe_int) (pv 1)))
  (pss_cons (ps_set (i := 3) sc_token_end.nd rfl (Or.inl rfl) (C8.pe_c c_run_end hr (by decide) (by rfl) (pa_cons (pv 0) (pa_cons (pv 2) pa_nil))))
  (pss_one (ps_ret (pe_ifExp (pt_cmpR op_eq (pv 3) (pv 2) (nomark _)) (pv 1) (pv 3))))))), ?_⟩
  have first : ∀ {c : Nat} {x : Tx} (σ' : L2.St) H', a = pre ++ c :: x → σ'[0]? = some (some (vS a)) → σ'[1]? = some (some (.int (pre.length : Int))) → EvT (tOr (tTest (tOp rInS (tOp rIxS (tVar 0) (tVar 1)) (tC (.str "()[]{},:=")))) (tTest (tOp rInS (tOp rIxS (tVar 0) (tVar 1)) (tC (.str " \n"))))) σ' H' (isSg c || isBl c) := fun {c x} σ' H' e h0 h1 => by
    have hc : Ev (tOp rIxS (tVar 0) (tVar 1)) σ' H' (vS [c]) := ev_chr (ev_var h0) hz (ev_var h1) e rfl
    exact et_or (et_inC hc (ev_lit lit_SGN)) fun _ => et_inC hc (ev_lit lit_BL)
  rcases h with ⟨c, r, e, hc, q⟩ | ⟨tk, r, e, ht, hb, q⟩
  · refine q_when (b := true) (et_is (first _ _ e rfl rfl) (by rw [hc, Bool.or_true])) (fun _ H1 e1 => s_ret (ev_op (ev_var rfl) ev_c rv_I0) fun H2 e2 => ?_) fun e => by cases e
    exact q H2 (e1.trans e2)
  · rcases tok_kind ht hb with ⟨c, rfl, hc⟩ | ⟨m, x, c, rfl, hm, hx, hw, hb, hc, h1, h2, h3⟩
    · refine q_when (b := true) (et_is (first (c := c) (x := r) _ _ (by rw [e]; rfl) rfl rfl) (by rw [hc, Bool.true_or])) (fun _ H1 e1 => s_ret (ev_op (ev_var rfl) ev_c rv_I0) fun H2 e2 => ?_) fun e => by cases e
      exact q H2 (e1.trans e2)
    have e' : a = pre ++ c :: ((m ++ x).tail ++ r) := by
      rw [e]
      refine congrArg (pre ++ ·) ?_
      show (m ++ x) ++ r = (c :: (m ++ x).tail) ++ r
      rw [← hc]
    refine q_when (b := false) (et_is (first _ _ e' rfl rfl) (by rw [h1, h2]; rfl)) (fun e => by cases e) fun _ H1 e1 => ?_
    refine q_asg (v := .int ((pre ++ m).length : Int)) (ev_if (b := decide (m.length = 1)) (et_is (et_inC (ev_chr (ev_var rfl) hz (ev_var rfl) e' rfl) (ev_lit lit_MK)) h3) (fun h => ?_) (fun h => ?_)) fun H2 e2 => ?_
    · refine ev_is (ev_op (ev_var rfl) ev_c rv_I0) ?_
      have := of_decide_eq_true h
      rw [List.length_append, this]
      rfl
    · refine ev_is (ev_var rfl) ?_
      have := of_decide_eq_false h
      rw [List.length_append, show m.length = 0 by omega]
      rfl
    refine q_asg (v := .int (((pre ++ m).length + x.length : Nat) : Int)) (ev_call (ea_cons (ev_var rfl) (ea_cons (ev_var rfl) ea_nil)) fun H3 e3 Q' q' E' => ⟨_, _, rfl, a, pre ++ m, r, x, rfl, rfl, by rw [e]; simp, hw, hb, hz, q'⟩) fun H3 e3 => ?_
    refine s_ret (ev_if (b := false) (et_is (et_eqI (ev_var rfl) (ev_var rfl)) (decide_eq_false ?_)) (fun e => by cases e) fun _ => ev_var rfl) fun H4 e4 => ?_
    · have : x.length ≠ 0 := fun z => hx (List.eq_nil_of_length_eq_zero z)
      omega
    · have h := q H4 (e1.trans (e2.trans (e3.trans e4)))
      rw [List.length_append, ← Nat.add_assoc, ← List.length_append] at h
      exact h
end
end K6
/-! K6L2: the program's tokens: scanned, number_of, is_name. -/
namespace K6
open PySem PySem.Spec PyProof.Rows L2 Evl
/-- the list of the tokens found: place and text -/
inductive TkL (H : Hp) : List V → List Tx → Prop
  | nil : TkL H [] []
  | cons {q : Addr} {i : Int} {t : Tx} {es : List V} {ts : List Tx} : H q = some (.tup [.int i, vS t]) → TkL H es ts → TkL H (.ref q :: es) (t :: ts)
theorem TkL.kt {H H' : Hp} (k : KT H H') : ∀ {es : List V} {ts : List Tx}, TkL H es ts → TkL H' es ts
  | _, _, .nil => .nil
  | _, _, .cons h r => .cons (k _ _ h) (TkL.kt k r)
theorem TkL.app {H : Hp} : ∀ {es fs : List V} {ts us : List Tx}, TkL H es ts → TkL H fs us → TkL H (es ++ fs) (ts ++ us)
  | _, _, _, _, .nil, k => k
  | _, _, _, _, .cons h r, k => .cons h (TkL.app r k)
theorem TkL.length {H : Hp} : ∀ {es : List V} {ts : List Tx}, TkL H es ts → es.length = ts.length
  | _, _, .nil => rfl
  | _, _, .cons _ r => congrArg Nat.succ (TkL.length r)
theorem TkL.get {H : Hp} : ∀ {es : List V} {ts us : List Tx} {t : Tx}, TkL H es (us ++ t :: ts) → ∃ q i, es[us.length]? = some (.ref q) ∧ H q = some (.tup [.int i, vS t])
  | _, ts, [], t, h => by
    cases h with
    | cons h r => exact ⟨_, _, rfl, h⟩
  | _, ts, u :: us, t, h => by
    cases h with
    | cons h r =>
      obtain ⟨q, i, h1, h2⟩ := TkL.get (us := us) r
      exact ⟨q, i, by simpa using h1, h2⟩
theorem KT.updL {H : Hp} {L : Addr} {xs ys : List V} (h : H L = some (.lst xs)) : KT H (upd H L (.lst ys)) := fun b zs hb => by
  have ne : b ≠ L := fun e => by
    rw [e, h] at hb
    cases hb
  rw [upd_ne ne]
  exact hb
theorem q_par_lst0 {σ : L2.St} {H : Hp} {te : TE} {u : TS} {D : Ends} {i j : Nat} {v : V} (h : ∀ H1, Ev te σ H1 v) (k : ∀ L H1, H L = none → Ex H H1 → H1 L = some (.lst []) → u D ((σ.set i (some (.ref L))).set j (some v)) H1) : tSeq (tPar i j (tCons (tLst tNil) (tCons te tNil))) u D σ H :=
  ⟨sz_of (Nat.zero_le _), fun L hL => h _ _ (Ex.refl _) _ fun H2 e2 => ⟨_, _, rfl, k L H2 hL ((Ex.new hL).trans e2) (e2 _ _ upd_same)⟩⟩
section
variable {P : Program} {w : World} {K : PySem.W.Frag} {mg : Str → Option Value} {base : Heap}
def spScan : Sp := Pr1 fun t H Q => ∃ (a : Tx) (g : Bool) (ts : List Tx), t = vS a ∧ LayF g ts a ∧ a.length ≤ 60000 ∧
  ∀ p f es H2, H p = none → H f = none → Ex H H2 → H2 p = some (.tup [.ref f, .non]) → H2 f = some (.lst es) → TkL H2 es ts → Q (.ref p) H2
theorem ok_scanned (T : Txt w K mg) (c_token_end : C8.Cal P w K mg base 2 "token_end" spTok []) : C8.Cal P w K mg base 3 "scanned" spScan [] := by
  refine T.cal m_def_scanned m_glo_scanned sc_scanned bi_scanned len1 (fun cdv A outer s H vs Q E hr h => ?_)
  obtain ⟨t, rfl, a, g, ts, rfl, hl, hz, q⟩ := h
  refine ⟨_, (pss_cons (ps_par (i := 1) (j := 2) (by rfl) sc_scanned.nd rfl rfl (by decide) rfl rfl (pa_cons (pe_lst pa_nil) (pa_cons pe_int pa_nil)) (by rfl))
  (pss_cons (ps_while PassesOwn.never (pt_cmpR op_lt (pv 2) (pe_callB call_len_str (by rfl) (T.free m_free_len) PySem.boot_len (pa_cons (pv 0) pa_nil)) (nomark _)) (pss_cons (ps_set (i := 3) sc_scanned.nd rfl (Or.inl rfl) (C8.pe_c c_token_end hr (by decide) (by rfl) (pa_cons (pv 0) (pa_cons (pv 2) pa_nil))))
  (pss_cons (ps_if (pt_cmpR op_notInS (pe_ix ix_str (pv 0) (pv 2) (fun _ _ => rfl)) pe_str (by rfl)) (pss_cons (ps_if (pt_cmpR op_eq (pv 3) (pv 2) (nomark _)) (pss_one (ps_ret (pe_tup (pa_cons (pv 1) (pa_cons (pv 2) pa_nil))))) pss_nil)
  (pss_one (ps_expr (pe_bm PySem.F.plainAttrs_list PySem.F.slot_list_append PySem.F.type_list_append mt_append (pv 1) (pa_cons (pe_tup (pa_cons (pv 2) (pa_cons (pe_slice C8.sl_txt (pv 0) (po_some (pv 2)) (po_some (pv 3))) pa_nil))) pa_nil))))) pss_nil)
  (pss_one (ps_set (i := 2) sc_scanned.nd rfl (Or.inl rfl) (pv 3))))))
  (pss_one (ps_ret (pe_tup (pa_cons (pv 1) (pa_cons pe_non pa_nil))))))), ?_⟩
  refine q_par_lst0 (fun _ => ev_c) fun L H1 hL0 e1 hL1 => ?_
  refine q_while (fun m σ' H' => ∃ pre rest dn us g' es y, a = pre ++ rest ∧ LayF g' us rest ∧ ts = dn ++ us ∧ m = rest.length ∧ Ex H H' ∧ H' L = some (.lst es) ∧ TkL H' es dn ∧ dn.length ≤ pre.length ∧ σ' = [some (vS a), some (.ref L), some (.int (pre.length : Int)), y]) a.length
    ⟨[], a, [], ts, g, [], none, rfl, hl, rfl, rfl, e1, hL1, .nil, Nat.zero_le _, rfl⟩ fun m σ' H' ⟨pre, rest, dn, us, g', es, y, ea, hl', ets, hm, ex, hL, htk, hdn, es'⟩ => ?_
  subst es'
  have hal : a.length = pre.length + rest.length := by
    rw [ea, List.length_append]
  refine ⟨decide ((pre.length : Int) < (a.length : Int)), et_ltI (ev_var rfl) (ev_lenS (ev_var rfl) hz), fun hb H2 e2 => ?_, fun hb H2 e2 => ?_⟩
  · have hlt := of_decide_eq_true hb
    obtain ⟨c, x, rfl⟩ : ∃ c x, rest = c :: x := by
      cases rest with
      | nil =>
        simp only [List.length_nil] at hal
        omega
      | cons c x => exact ⟨c, x, rfl⟩
    have hc : ∀ (n : Nat) H3, Ev (tOp rIxS (tVar 0) (tVar 2)) [some (vS a), some (.ref L), some (.int (pre.length : Int)), some (.int (n : Int))] H3 (vS [c]) := fun n H3 => ev_chr (ev_var rfl) hz (ev_var rfl) ea rfl
    refine ⟨fun σ2 H3 => ∃ pre rest' dn us g' es y, a = pre ++ rest' ∧ LayF g' us rest' ∧ ts = dn ++ us ∧ rest'.length < (c :: x).length ∧ Ex H H3 ∧ H3 L = some (.lst es) ∧ TkL H3 es dn ∧ dn.length ≤ pre.length ∧ σ2 = [some (vS a), some (.ref L), some (.int (pre.length : Int)), y], fun σ2 H3 ⟨pre, rest', dn, us, g', es, y, h1, h2, h3, h4, h5, h6, h7, h8, h9⟩ => ⟨rest'.length, by rw [hm]; exact h4, pre, rest', dn, us, g', es, y, h1, h2, h3, rfl, h5, h6, h7, h8, h9⟩, ?_⟩
    rcases lay_step hl' with ⟨hbl, hl2⟩ | ⟨hbl, tk, us, r, rfl, etk, ht, hl2⟩
    · refine q_asg (v := .int ((pre.length + 1 : Nat) : Int)) (ev_call (ea_cons (ev_var rfl) (ea_cons (ev_var rfl) ea_nil)) fun H3 e3 Q' q' E' => ⟨_, _, rfl, a, pre, rfl, rfl, hz, .inl ⟨c, x, ea, hbl, q'⟩⟩) fun H3 e3 => ?_
      refine q_when (b := false) (et_is (et_niC (hc _ _) (ev_lit lit_BL)) ?_) (fun e => by cases e) fun _ H4 e4 => ?_
      · have hbl' : decide (c ∈ [32, 10]) = true := hbl
        rw [hbl']
        rfl
      refine s_asg (ev_var rfl) fun H5 e5 => ?_
      have e25 := e2.trans (e3.trans (e4.trans e5))
      exact ⟨pre ++ [c], x, dn, us, true, es, some (.int ((pre.length + 1 : Nat) : Int)), by rw [ea]; simp, hl2, ets, Nat.lt_succ_self _, ex.trans e25, e25 _ _ hL, htk.kt (KT.ex e25), by rw [List.length_append]; omega, by rw [List.length_append]; rfl⟩
    · have hbr : sgT tk = true ∨ Brk r := by
        cases h : sgT tk with
        | true => exact .inl rfl
        | false =>
          rw [h] at hl2
          exact .inr hl2.brk
      have htl : tk.length ≠ 0 := fun z => ht.ne (List.eq_nil_of_length_eq_zero z)
      have htl2 := congrArg List.length etk
      rw [List.length_append] at htl2
      refine q_asg (v := .int ((pre.length + tk.length : Nat) : Int)) (ev_call (ea_cons (ev_var rfl) (ea_cons (ev_var rfl) ea_nil)) fun H3 e3 Q' q' E' => ⟨_, _, rfl, a, pre, rfl, rfl, hz, .inr ⟨tk, r, by rw [ea, etk], ht, hbr, q'⟩⟩) fun H3 e3 => ?_
      refine q_if (b := true) (et_is (et_niC (hc _ _) (ev_lit lit_BL)) ?_) (fun _ H4 e4 => ?_) fun e => by cases e
      · have hbl' : decide (c ∈ [32, 10]) = false := hbl
        rw [hbl']
        rfl
      refine q_when (b := false) (et_is (et_eqI (ev_var rfl) (ev_var rfl)) (decide_eq_false (by omega))) (fun e => by cases e) fun _ H5 e5 => ?_
      have e25 := e2.trans (e3.trans (e4.trans e5))
      refine s_appU (e25 _ _ hL) (ev_var rfl) (eu_tup (ea_cons (ev_var rfl) (ea_cons (evs_mid (w := tk) (p := pre) (r := r) (ev_var rfl) hz (eo_some (ev_var rfl)) (eo_some (ev_var rfl)) (by rw [ea, etk]) rfl rfl) ea_nil)) (by show 2 ≤ 100000; omega)) (by rw [htk.length]; omega) fun pn H6 hpn e6 hp6 => ?_
      refine s_asg (ev_var rfl) fun H7 e7 => ?_
      have e27 : Ex H (upd H6 L (.lst (es ++ [.ref pn]))) := Ex.mut (ex.trans (e25.trans e6)) hL0
      have hne : pn ≠ L := fun z => by
        rw [z, e25 _ _ hL] at hpn
        cases hpn
      have hp7 : upd H6 L (.lst (es ++ [.ref pn])) pn = some (.tup [.int (pre.length : Int), vS tk]) := by
        rw [upd_ne hne]
        exact hp6
      refine ⟨pre ++ tk, r, dn ++ [tk], us, sgT tk, es ++ [.ref pn], some (.int ((pre.length + tk.length : Nat) : Int)), by rw [ea, etk]; simp, hl2, by rw [ets]; simp, by omega, e27.trans e7, e7 _ _ upd_same, ?_, ?_, by rw [List.length_append]; rfl⟩
      · have k1 : TkL H6 es dn := htk.kt (KT.ex (e25.trans e6))
        exact TkL.app ((k1.kt (KT.updL ((e25.trans e6) _ _ hL))).kt (KT.ex e7)) (.cons (e7 _ _ hp7) .nil)
      · simp only [List.length_append, List.length_cons, List.length_nil]
        omega
  · have hge := of_decide_eq_false hb
    obtain rfl : rest = [] := List.eq_nil_of_length_eq_zero (by omega)
    obtain rfl := lay_none hl'
    refine s_retU (eu_tup (ea_cons (ev_var rfl) (ea_cons ev_c ea_nil)) (by show 2 ≤ 100000; omega)) fun p H3 hp e3 hp3 => ?_
    have e23 := e2.trans e3
    rw [List.append_nil] at ets
    subst ets
    exact q p L es H3 (fresh_back (ex.trans e2) hp) hL0 (ex.trans e23) hp3 (e23 _ _ hL) (htk.kt (KT.ex e23))
end
end K6
/-! K6L3: number_of, is_name. -/
namespace K6
open PySem PySem.Spec PyProof.Rows L2 Evl
section
variable {K : PySem.W.Frag} {σ : L2.St} {H H' : Hp} {ta tb te : TE} {tt : TT} {t u : TS} {a b : Tx}
theorem el_lcS {tl : TE} {j : Nat} {vs : List Nat} {f : Nat → V} (h : Ev tl σ H (vS a)) (hz : a.length ≤ 40000) (hw : ∀ x, wipe ((wipe σ vs).set j (some x)) vs = wipe σ vs) (he : ∀ c H1, Ex H H1 → c ∈ a → Ev te ((wipe σ vs).set j (some (vS [c]))) H1 (f c)) :
    EvL (tLc (iStr tl) (gName j) tYes te vs) σ H (a.map f) := fun H0 e Q q => h H0 e _ fun H1 e1 => ⟨_, rfl, fun D hD =>
  lc_it (walk_str (z := SX.S a)) (fun i H' => H1 D = none ∧ Ex H1 H' ∧ H' D = some (.lst ((a.take i).map f))) ⟨hD, Ex.new hD, upd_same⟩ (fun _ _ _ _ => trivial)
    (fun i x H2 H3 hi p y => by
      obtain ⟨rfl, c, hc, rfl⟩ := y
      have hc' : a[i]? = some c := by simpa [SX.S] using hc
      refine ⟨hw _, ?_⟩
      simp only [tYes, if_true]
      refine he c H1 (e.trans e1) (List.mem_of_getElem? hc') _ p.2.1 _ fun H4 e4 => ⟨(a.take i).map f, e4 D _ p.2.2, sz_lt (by rw [List.length_map, List.length_take]; omega), p.1, Ex.mut (p.2.1.trans e4) p.1, ?_⟩
      rw [upd_same, List.take_add_one, hc']
      simp)
    (fun H' p => q D H' (fresh_back e1 p.1) (e1.trans p.2.1) (by
      have h2 := p.2.2
      have e0 : (SX.S a).cps.size = a.length := len_S a
      rw [e0, List.take_length] at h2
      exact h2))⟩
theorem ev_all {bs : List Bool} (h : EvL te σ H (bs.map V.bl)) : Ev (tCB (rAll K) (tCons te tNil)) σ H (.bl (bs.all id)) := fun H1 e Q q => h H1 e _ fun p H2 _ e2 hp => ⟨p, bs, rfl, sq_of hp, q H2 e2⟩
theorem ev_any {bs : List Bool} (h : EvL te σ H (bs.map V.bl)) : Ev (tCB (rAny K) (tCons te tNil)) σ H (.bl (bs.any id)) := fun H1 e Q q => h H1 e _ fun p H2 _ e2 hp => ⟨p, bs, rfl, sq_of hp, q H2 e2⟩
theorem ev_allS {tl : TE} {j : Nat} {vs : List Nat} {f : Nat → Bool} (h : Ev tl σ H (vS a)) (hz : a.length ≤ 40000) (hw : ∀ x, wipe ((wipe σ vs).set j (some x)) vs = wipe σ vs) (he : ∀ c H1, Ex H H1 → c ∈ a → Ev te ((wipe σ vs).set j (some (vS [c]))) H1 (.bl (f c))) :
    Ev (tCB (rAll K) (tCons (tLc (iStr tl) (gName j) tYes te vs) tNil)) σ H (.bl (a.all f)) := by
  have h1 := ev_all (K := K) (bs := a.map f) (by rw [List.map_map]; exact el_lcS (f := fun c => V.bl (f c)) h hz hw he)
  rw [List.all_map] at h1
  exact h1
/-- a <= b <= c of ints -/
theorem et_chain {i j k : Int} {tc : TE} (ha : Ev ta σ H (.int i)) (hb : Ev tb σ H (.int j)) (hc : Ev tc σ H (.int k)) : EvT (tTest (tChain (rI0 fun i j => .bl (decide (i ≤ j))) (rI0 fun i j => .bl (decide (i ≤ j))) ta tb tc)) σ H (decide (i ≤ j) && decide (j ≤ k)) := fun H1 e Q q =>
  ha H1 e _ fun H2 e2 => hb H2 (e.trans e2) _ fun H3 e3 => ⟨i, j, rfl, rfl, _, rfl, by
    cases h : decide (i ≤ j) with
    | true =>
      simp only [if_true]
      refine hc H3 (e.trans (e2.trans e3)) _ fun H4 e4 => ⟨j, k, rfl, rfl, _, rfl, ?_⟩
      rw [h, Bool.true_and] at q
      exact q H4 (e2.trans (e3.trans e4))
    | false =>
      rw [h, Bool.false_and] at q
      simp only [Bool.false_eq_true, if_false]
      exact ⟨_, rfl, q H3 (e2.trans e3)⟩⟩
end
theorem num_hd : ∀ {n : Nat} {r : Tx}, num n = 48 :: r → r = [] := by
  intro n
  induction n using Nat.strongRecOn with
  | ind n ih =>
    intro r h
    by_cases h10 : n < 10
    · have h' : TL.numL n = 48 :: r := h
      rw [TL.numL_lt h10] at h'
      injection h' with _ h2
      exact h2.symm
    · have h' : TL.numL n = 48 :: r := h
      rw [TL.numL_step (by omega)] at h'
      cases hd : TL.numL (n / 10) with
      | nil => exact absurd hd (TL.numL_ne _)
      | cons c x =>
        rw [hd] at h'
        injection h' with e1 e2
        subst e1
        have hx := ih (n / 10) (by omega) hd
        subst hx
        have h0 : TL.numL 0 = [48] := TL.numL_lt (by decide)
        have := TL.numL_inj (hd.trans h0.symm)
        omega
theorem num_c {n : Nat} : ∃ c x, num n = c :: x ∧ (1 < (num n).length → c ≠ 48) := by
  cases h : num n with
  | nil => exact absurd h (TL.numL_ne n)
  | cons c x => exact ⟨c, x, rfl, fun hl e => by
      subst e
      rw [num_hd h] at hl
      exact absurd hl (by decide)⟩
theorem sc_ne {c d : Nat} (h : c ≠ d) : decide (vS [c] = vS [d]) = false := decide_eq_false fun e => h (by
  have h' : SX.S [c] = SX.S [d] := by injection e
  have := SX.S_inj h'
  simpa using this)
section
variable {P : Program} {w : World} {K : PySem.W.Frag} {mg : Str → Option Value} {base : Heap}
def spNum : Sp := Pr2 fun wd b H Q => ∃ n bnd : Nat, wd = vS (num n) ∧ n < 2 ^ 64 ∧ b = .int (bnd : Int) ∧ n < bnd ∧ RetV (.int (n : Int)) H Q
theorem ok_number_of (T : Txt w K mg) : C8.Cal P w K mg base 1 "number_of" spNum [] := by
  refine T.cal m_def_number_of m_glo_number_of sc_number_of bi_number_of len2 (fun cdv A outer s H vs Q E hr h => ?_)
  obtain ⟨wd, b, rfl, n, bnd, rfl, hn, rfl, hb, q⟩ := h
  refine ⟨_, (pss_cons (ps_if (PW.pt (pw_or (pt_not (pt_chain op_le op_le pe_int (pe_callB call_len_str (by rfl) (T.free m_free_len) PySem.boot_len (pa_cons (pv 0) pa_nil)) pe_int)) (pw_or1 (pt_not (pt_val (pe_callB (cr_all rfl) (by rfl) (T.free m_free_all) (by decide +kernel) (pa_cons (pe_lc (own := [("sign", 2)]) (g := gName 2) rfl sc_number_of.nd (pi_str (pv 0)) (blkOk_by (N := n_number_of) (sc := defScope s_number_of) (by decide +kernel)) (fun _ _ _ _ _ => (pg_name (i := 2) sc_number_of.nd rfl (Or.inl rfl))) (fun _ _ _ _ _ => pts_nil) (fun _ _ _ _ _ => (pe_cmpR op_inS (pv 2) (C8.pe_gc (by rfl) (T.str m_str_FIGURES)) (by rfl)))) pa_nil))))))) (pss_one (ps_ret pe_non)) pss_nil)
  (pss_cons (ps_if (PW.pt (pw_and (pt_cmpR op_gt (pe_callB call_len_str (by rfl) (T.free m_free_len) PySem.boot_len (pa_cons (pv 0) pa_nil)) pe_int (nomark _)) (pw_and1 (pt_cmpR op_eq (pe_ix ix_str (pv 0) pe_int (fun _ _ => rfl)) pe_str (nomark _))))) (pss_one (ps_ret pe_non)) pss_nil)
  (pss_one (ps_ret (pe_ifExp (pt_cmpR op_lt (pe_callTy call_int_str (by rfl) (T.free m_free_int) (by decide +kernel) (pa_cons (pv 0) pa_nil)) (pv 1) (nomark _)) (pe_callTy call_int_str (by rfl) (T.free m_free_int) (by decide +kernel) (pa_cons (pv 0) pa_nil)) pe_non))))), ?_⟩
  have hl := num_len hn
  have hp : (num n).length ≠ 0 := fun z => TL.numL_ne n (List.eq_nil_of_length_eq_zero z)
  have hint : ∀ σ' H', σ'[0]? = some (some (vS (num n))) → Ev (tCB (fun xs H Q => ∃ a n, xs = [.str a] ∧ PySem.intText? a = some n ∧ a.length ≤ 640 ∧ Q (.int n) H) (tCons (tVar 0) tNil)) σ' H' (.int (n : Int)) := fun σ' H' h0 => ev_cb (ea_cons (ev_var h0) ea_nil) fun H1 e Q q => ⟨_, _, rfl, by
    have := TL.int_num (n := n) (by show (num n).length ≤ _; omega)
    rw [SX.num_S] at this
    exact this, by rw [len_S]; omega, q H1 (Ex.refl H1)⟩
  refine q_when (b := false) (et_is (et_or (et_not (et_chain ev_c (ev_lenS (ev_var rfl) (by omega)) ev_c)) fun _ => et_not (et_test (ev_allS (f := fun c => decide (c ∈ figL)) (ev_var rfl) (by omega) (fun _ => rfl) fun c H1 e hc => ev_inC (ev_var rfl) (ev_lit lit_FIG)))) ?_) (fun e => by cases e) fun _ H1 e1 => ?_
  · have h1 : (num n).all (fun c => decide (c ∈ figL)) = true := List.all_eq_true.mpr fun c hc => by
      have := TL.numL_digits n c hc
      exact decide_eq_true (mem_fig.mpr this)
    rw [h1, decide_eq_true (show (1 : Int) ≤ ((num n).length : Int) by omega), decide_eq_true (show ((num n).length : Int) ≤ 20 by omega)]
    rfl
  obtain ⟨c, x, hc, hc1⟩ := num_c (n := n)
  refine q_when (b := false) (et_is (et_and (b := false) (et_is (et_test (ev_op (ev_lenS (ev_var rfl) (by omega)) ev_c rv_I0)) rfl) fun h => ?_) (Bool.and_false _)) (fun e => by cases e) fun _ H2 e2 => ?_
  · have h' := of_decide_eq_true h
    exact et_eq0 (ev_chr (p := []) (i := 0) (ev_var rfl) (by omega) ev_c hc rfl) (ev_lit (L := [48]) lit) rfl (sc_ne (hc1 (by omega)))
  · exact s_ret (ev_if (b := true) (et_is (et_ltI (hint _ _ rfl) (ev_var rfl)) (decide_eq_true (by omega))) (fun _ => hint _ _ rfl) fun e => by cases e) fun H3 e3 => q H3 (e1.trans (e2.trans e3))
def spName : Sp := Pr1 fun v H Q => ∃ x : Tx, v = vS x ∧ NameOk x ∧ RetV (.bl true) H Q
theorem ok_is_name (T : Txt w K mg) : C8.Cal P w K mg base 1 "is_name" spName [] := by
  refine T.cal m_def_is_name m_glo_is_name sc_is_name bi_is_name len1 (fun cdv A outer s H vs Q E hr h => ?_)
  obtain ⟨v, rfl, x, rfl, hx, q⟩ := h
  refine ⟨_, (pss_cons (ps_if (PW.pt (pw_or (pt_not (pt_val (pe_callB RZ.call_isTy (by rfl) (T.free m_free_isinstance) (by decide +kernel) (pa_cons (pv 0) (pa_cons (pe_bltn (v := .ty "str") (by rfl) (T.free m_free_str) (by decide +kernel) rfl) pa_nil))))) (pw_or (pt_cmpR op_eq (pe_callB call_len_str (by rfl) (T.free m_free_len) PySem.boot_len (pa_cons (pv 0) pa_nil)) pe_int (nomark _)) (pw_or1 (pt_cmpR op_inS (pe_ix ix_str (pv 0) pe_int (fun _ _ => rfl)) (C8.pe_gc (by rfl) (T.str m_str_FIGURES)) (by rfl)))))) (pss_one (ps_ret pe_bl)) pss_nil)
  (pss_one (ps_ret (pe_callB (cr_all rfl) (by rfl) (T.free m_free_all) (by decide +kernel) (pa_cons (pe_lc (own := [("sign", 1)]) (g := gName 1) rfl sc_is_name.nd (pi_str (pv 0)) (blkOk_by (N := n_is_name) (sc := defScope s_is_name) (by decide +kernel)) (fun _ _ _ _ _ => (pg_name (i := 1) sc_is_name.nd rfl (Or.inl rfl))) (fun _ _ _ _ _ => pts_nil) (fun _ _ _ _ _ => (pe_or (pe_cmpR op_inS (pv 1) (C8.pe_gc (by rfl) (T.str m_str_LETTERS)) (by rfl)) (pe_one (pe_cmpR op_inS (pv 1) (C8.pe_gc (by rfl) (T.str m_str_FIGURES)) (by rfl)))))) pa_nil))))), ?_⟩
  have hl := hx.len
  obtain ⟨c, r, ec⟩ : ∃ c r, x = c :: r := by
    cases h : x with
    | nil => exact absurd h hx.ne
    | cons c r => exact ⟨c, r, rfl⟩
  have hc := hx.hd c r ec
  refine q_when (b := false) (et_is (et_or (b := false) (et_not (et_B (ev_cb (z := .bl true) (ea_cons (ev_var rfl) (ea_cons ev_c ea_nil)) fun H1 e Q q => ⟨_, _, rfl, .str _, q H1 (Ex.refl H1)⟩))) fun _ => et_is (et_or (b := false) (et_eqI (ev_lenS (ev_var rfl) (by omega)) ev_c) fun _ => et_is (et_inC (ev_chr (p := []) (i := 0) (ev_var rfl) (by omega) ev_c ec rfl) (ev_lit lit_FIG)) ?_) ?_) rfl) (fun e => by cases e) fun _ H1 e1 => ?_
  · exact hc
  · rw [ec, List.length_cons, decide_eq_false (by omega)]
    rfl
  · refine s_ret (ev_is (ev_allS (f := isWd) (ev_var rfl) (by omega) (fun _ => rfl) fun c H1 e hc => ev_orV (ev_inC (ev_var rfl) (ev_lit lit_LET)) fun _ => ev_inC (ev_var rfl) (ev_lit lit_FIG)) (congrArg V.bl (List.all_eq_true.mpr hx.wd))) fun H3 e3 => q H3 (e1.trans e3)
end
end K6
/-! K6L4: the Reader: what stands in its fields, its methods. -/
namespace K6
open PySem PySem.Spec PyProof.Rows L2 Evl
/-! ### all but one object stays, and the tables of code objects -/
def tabT (K : PySem.W.Frag) : List (Addr × Str) := [((He.cT K ("read_global", none)).2, ("read_global" : Str) ++ ".<locals>." ++ "<lambda>"), ((He.cT K ("law", none)).2, ("law" : Str) ++ ".<locals>." ++ "<lambda>")]
abbrev NoTb (o : HO) : Prop := ∀ ps, o ≠ .tbl ps
theorem noTb_lst {xs : List V} : NoTb (.lst xs) := fun _ z => by cases z
theorem noTb_tup {xs : List V} : NoTb (.tup xs) := fun _ z => by cases z
theorem noTb_ins {C dx : Addr} {fs : List (Str × V)} : NoTb (.ins C dx fs) := fun _ z => by cases z
/-- nothing stands there, or a table -/
def Fre (H : Hp) (L : Addr) : Prop := ∀ o, H L = some o → ∃ ps, o = .tbl ps
theorem fre_of {H : Hp} {L : Addr} (h : H L = none) : Fre H L := fun o e => by
  rw [h] at e
  cases e
theorem Fre.back {H H' : Hp} {L : Addr} (h : Fre H' L) (e : Ex H H') : Fre H L := fun o ho => h o (e _ _ ho)
theorem Fre.ne {H : Hp} {L b : Addr} {o : HO} (h : Fre H L) (hb : H b = some o) (t : NoTb o) : b ≠ L := fun e => by
  rw [e] at hb
  obtain ⟨ps, z⟩ := h o hb
  exact t ps z
structure KR (K : PySem.W.Frag) (r : Addr) (H H' : Hp) : Prop where
  other : ∀ b o, b ≠ r → NoTb o → H b = some o → H' b = some o
  tups : KT H H'
  new : ∀ b, Fre H' b → Fre H b
  tabs : LamX.Tabs (tabT K) H → LamX.Tabs (tabT K) H'
  fnd : ∀ C dx fs x, H r = some (.ins C dx fs) → fs.lookup ("found" : Str) = some x → ∃ C' dx' fs', H' r = some (.ins C' dx' fs') ∧ fs'.lookup ("found" : Str) = some x
section
variable {K : PySem.W.Frag}
theorem KR.refl (r : Addr) (H : Hp) : KR K r H H := ⟨fun _ _ _ _ h => h, KT.refl H, fun _ h => h, id, fun C dx fs x h l => ⟨C, dx, fs, h, l⟩⟩
theorem KR.trans {r : Addr} {H H1 H2 : Hp} (a : KR K r H H1) (b : KR K r H1 H2) : KR K r H H2 := ⟨fun c o n t h => b.other c o n t (a.other c o n t h), a.tups.trans b.tups, fun c h => a.new c (b.new c h), fun t => b.tabs (a.tabs t), fun C dx fs x h l => by
  obtain ⟨C1, dx1, fs1, h1, l1⟩ := a.fnd C dx fs x h l
  exact b.fnd C1 dx1 fs1 x h1 l1⟩
theorem KR.ex {r : Addr} {H H' : Hp} (e : Ex H H') : KR K r H H' := ⟨fun b o _ _ h => e b o h, KT.ex e, fun _ h => h.back e, fun t => t.ext e, fun C dx fs x h l => ⟨C, dx, fs, e _ _ h, l⟩⟩
/-- an object that is no table and no code object is written over -/
theorem KR.wr {r C : Addr} {dx : Addr} {fs gs : List (Str × V)} {H : Hp} (h : H r = some (.ins C dx fs)) (hf : ∀ x, fs.lookup ("found" : Str) = some x → gs.lookup ("found" : Str) = some x) : KR K r H (upd H r (.ins C dx gs)) := ⟨fun b o n _ hb => by
  rw [upd_ne n]
  exact hb, fun b xs hb => by
  rw [upd_ne fun e => by
    rw [e, h] at hb
    cases hb]
  exact hb, fun b hb o ho => by
  by_cases e : b = r
  · subst e
    obtain ⟨ps, z⟩ := hb _ upd_same
    cases z
  · exact hb o (by rw [upd_ne e]; exact ho), fun t p hp => by
  obtain ⟨ps, h1, h2, h3⟩ := t p hp
  refine ⟨ps, ?_, h2, fun pos cv hc => ?_⟩
  · rw [upd_ne fun e => by
      rw [e, h] at h1
      cases h1]
    exact h1
  · obtain ⟨c, e1, e2⟩ := h3 pos cv hc
    refine ⟨c, e1, ?_⟩
    rw [upd_ne fun e => by
      rw [e, h] at e2
      unfold LamX.CodeO at e2
      cases e2]
    exact e2, fun C' dx' fs' x h' l => by
  rw [h] at h'
  injection h' with h'
  injection h' with h1 h2 h3
  subst h1 h2 h3
  exact ⟨_, _, gs, upd_same, hf x l⟩⟩
end
/-- the Reader's fields -/
abbrev rFs (L : Addr) (e : Int) (n : Nat) : List (Str × V) := [("found", .ref L), ("end", .int e), ("is_whole", .bl true), ("at", .int (n : Int))]
def RAt (K : PySem.W.Frag) (H : Hp) (r : Addr) (ts : List Tx) : Prop := ∃ dx L es e dn, H r = some (.ins (He.ga K "Reader") dx (rFs L e dn.length)) ∧ H L = some (.lst es) ∧ TkL H es (dn ++ ts) ∧ (∀ t ∈ ts, t.length ≤ 60000) ∧ (dn ++ ts).length ≤ 60000
theorem RAt.ex {K : PySem.W.Frag} {H H' : Hp} {r : Addr} {ts : List Tx} (e : Ex H H') (h : RAt K H r ts) : RAt K H' r ts := by
  obtain ⟨dx, L, es, en, dn, h1, h2, h3, h4⟩ := h
  exact ⟨dx, L, es, en, dn, e _ _ h1, e _ _ h2, h3.kt (KT.ex e), h4⟩
theorem KR.mutL {K : PySem.W.Frag} {r L : Addr} {H H' : Hp} {xs ys : List V} (k : KR K r H H') (hL : Fre H L) (hl : H' L = some (.lst xs)) : KR K r H (upd H' L (.lst ys)) := by
  have ne : ∀ b o, NoTb o → H b = some o → b ≠ L := fun b o t h => hL.ne h t
  refine ⟨fun b o n t h => ?_, fun b zs h => ?_, fun b h o ho => ?_, fun t p hp => ?_, fun C dx fs x h l => ?_⟩
  · rw [upd_ne (ne _ _ t h)]
    exact k.other b o n t h
  · rw [upd_ne (ne _ _ noTb_tup h)]
    exact k.tups b zs h
  · by_cases e : b = L
    · rw [e] at ho
      exact hL o ho
    · exact k.new b (fun o' ho' => h o' (by rw [upd_ne e]; exact ho')) o ho
  · obtain ⟨ps, h1, h2, h3⟩ := k.tabs t p hp
    refine ⟨ps, ?_, h2, fun pos cv hc => ?_⟩
    · rw [upd_ne fun e => by
        rw [e, hl] at h1
        cases h1]
      exact h1
    · obtain ⟨c, e1, e2⟩ := h3 pos cv hc
      refine ⟨c, e1, ?_⟩
      rw [upd_ne fun e => by
        rw [e, hl] at e2
        unfold LamX.CodeO at e2
        cases e2]
      exact e2
  · obtain ⟨C', dx', fs', h1, h2⟩ := k.fnd C dx fs x h l
    exact ⟨C', dx', fs', by rw [upd_ne (ne _ _ noTb_ins h)]; exact h1, h2⟩
theorem RAt.mutL {K : PySem.W.Frag} {r L : Addr} {H H' : Hp} {xs ys : List V} {ts0 ts : List Tx} (h0 : RAt K H r ts0) (k : KR K r H H') (hL : Fre H L) (hl : H' L = some (.lst xs)) (h : RAt K H' r ts) : RAt K (upd H' L (.lst ys)) r ts := by
  obtain ⟨dx0, L0, es0, en0, dn0, g1, g2, g3, g4⟩ := h0
  obtain ⟨dx, L1, es, en, dn, h1, h2, h3, h4⟩ := h
  obtain ⟨C', dx', fs', k1, k2⟩ := k.fnd _ _ _ _ g1 rfl
  rw [h1] at k1
  injection k1 with k1
  injection k1 with _ _ k3
  subst k3
  have e : L1 = L0 := by
    have := Option.some.inj k2
    injection this
  subst e
  have n1 : r ≠ L := hL.ne g1 noTb_ins
  have n2 : L1 ≠ L := hL.ne g2 noTb_lst
  exact ⟨dx, L1, es, en, dn, by rw [upd_ne n1]; exact h1, by rw [upd_ne n2]; exact h2, h3.kt (KT.updL hl), h4⟩
theorem lay_len : ∀ {ts : List Tx} {g : Bool} {x : Tx}, LayF g ts x → ts.length ≤ x.length ∧ ∀ t ∈ ts, t.length ≤ x.length
  | [], _, _, _ => ⟨Nat.zero_le _, fun t h => by cases h⟩
  | t :: ts, _, x, h => by
    cases h with
    | @cons _ s _ r _ _ hs hn ht hr e =>
      obtain ⟨h1, h2⟩ := lay_len hr
      have htl : t.length ≠ 0 := fun z => ht.ne (List.eq_nil_of_length_eq_zero z)
      have hx := congrArg List.length e
      simp only [List.length_append] at hx
      refine ⟨by rw [List.length_cons]; omega, fun u hu => ?_⟩
      rcases List.mem_cons.mp hu with rfl | hu
      · omega
      · have := h2 u hu
        omega
section
variable {K : PySem.W.Frag} {σ : L2.St} {H H' : Hp} {ta tb te : TE} {tt : TT} {t u : TS} {a b : Tx}
theorem ev_fld {r C dx : Addr} {fs : List (Str × V)} {f : Str} {v : V} (ha : Ev ta σ H (.ref r)) (hr : H r = some (.ins C dx fs)) (hc : Cls K C) (hn : NoAttr K C f) (hl : fs.lookup f = some v) : Ev (tFld K ta f) σ H v := fun H1 e Q q =>
  ha H1 e _ fun H2 e2 => ⟨r, C, dx, fs, v, rfl, e2 _ _ (e _ _ hr), hc, hn, hl, q H2 e2⟩
theorem ev_meth {C r dx : Addr} {fs : List (Str × V)} {m : Str} {sp : Sp} {E : XK} {ts : TA} {vs : List V} {v : V} (ha : Ev ta σ H (.ref r)) (hr : H r = some (.ins C dx fs)) (hm : fs.lookup m = none) (ht : EvA ts σ H vs) (hs : SpV sp (.ref r :: (vs ++ [])) H v) : Ev (tMeth C m sp [] E ta ts) σ H v := fun H1 e Q q =>
  ha H1 e _ fun H2 e2 => ⟨r, dx, fs, rfl, e2 _ _ (e _ _ hr), hm, ht H2 (e.trans e2) _ fun H3 e3 => hs H3 (e.trans (e2.trans e3)) Q (fun H4 e4 => q H4 (e2.trans (e3.trans e4))) E⟩
/-- r.at += 1 -/
theorem s_step {r : Addr} {ts : List Tx} {x : Tx} {D : Ends} (ha : Ev ta σ H (.ref r)) (hc : Cls K (He.ga K "Reader")) (hn : NoAttr K (He.ga K "Reader") "at") (h : RAt K H r (x :: ts)) (k : ∀ H2, KR K r H H2 → RAt K H2 r ts → D.nx σ H2) : sFldAug K ta (tC (.int 1)) rAdd "at" D σ H := by
  obtain ⟨dx, L, es, e, dn, h1, h2, h3, h4, h5⟩ := h
  refine ha H (Ex.refl H) _ fun H1 e1 => ⟨r, _, dx, _, .int (dn.length : Int), rfl, e1 _ _ h1, hc, hn, by rfl, (dn.length : Int), 1, rfl, rfl, dx, _, e1 _ _ h1, (by show 4 < 1000; omega), ?_⟩
  have hLr : L ≠ r := fun z => by
    rw [z, h1] at h2
    cases h2
  have kr : KR K r H1 (upd H1 r (.ins (He.ga K "Reader") dx (putF "at" (.int ((dn.length : Int) + 1)) (rFs L e dn.length)))) := KR.wr (e1 _ _ h1) fun x hx => hx
  refine k _ ((KR.ex e1).trans kr) ⟨dx, L, es, e, dn ++ [x], ?_, ?_, ?_, fun t ht => h4 t (List.mem_cons_of_mem _ ht), by simpa using h5⟩
  · rw [upd_same, List.length_append]
    rfl
  · exact kr.other _ _ hLr noTb_lst (e1 _ _ h2)
  · have := (h3.kt (KT.ex e1)).kt kr.tups
    simpa using this
end
section
variable {P : Program} {w : World} {K : PySem.W.Frag} {mg : Str → Option Value} {base : Heap}
theorem Txt.noat (T : Txt w K mg) {f : Str} (h : He.Fa.noat "Reader" f ∈ faL) : NoAttr K (He.ga K "Reader") f := He.noat_ok (T.t.d.facts h)
abbrev rc (K : PySem.W.Frag) : Addr := He.ga K "Reader"
/-! ### word -/
def spWord (K : PySem.W.Frag) : Sp := Pr1 fun s H Q => ∃ r ts, s = .ref r ∧ RAt K H r ts ∧ RetV (vS (ts.headD [])) H Q
theorem ok_word (T : Txt w K mg) : C8.Met P w K mg base 1 (rc K) "word" (spWord K) [] := by
  refine T.met m_def_Reader_word m_meth_Reader_word sc_Reader_word bi_Reader_word len1 (fun cdv A outer s H vs Q E hr h => ?_)
  obtain ⟨v, rfl, r, ts, rfl, h, q⟩ := h
  refine ⟨_, (pss_one (ps_ret (pe_ifExp (pt_cmpR op_lt (pe_fld (pv 0) rfl) (pe_callB call_len_seq (by rfl) (T.free m_free_len) PySem.boot_len (pa_cons (pe_fld (pv 0) rfl) pa_nil)) (nomark _)) (pe_ix ix_tup (pe_ix ix_list (pe_fld (pv 0) rfl) (pe_fld (pv 0) rfl) (fun _ _ => rfl)) pe_int (fun _ _ => rfl)) pe_str))), ?_⟩
  obtain ⟨dx, L, es, e, dn, h1, h2, h3, h4, h5⟩ := h
  have hat : Ev (tFld K (tVar 0) "at") [some (.ref r)] H (.int (dn.length : Int)) := ev_fld (ev_var rfl) h1 T.rcls (T.noat m_noat_Reader_at) rfl
  have hfo : Ev (tFld K (tVar 0) "found") [some (.ref r)] H (.ref L) := ev_fld (ev_var rfl) h1 T.rcls (T.noat m_noat_Reader_found) rfl
  have hl := h3.length
  refine s_ret (ev_if (et_ltI hat (ev_len hfo (sq_of h2))) (fun hb => ?_) fun hb => ?_) fun H1 e1 => q H1 e1
  · have hb' := of_decide_eq_true hb
    cases ts with
    | nil =>
      rw [List.append_nil] at hl
      omega
    | cons t ts =>
      obtain ⟨qa, i, g1, g2⟩ := h3.get
      exact ev_at (i := 1) (ev_op hfo hat (rv_ixL (sq_of h2) (atI_nat g1))) g2 rfl
  · have hb' := of_decide_eq_false hb
    cases ts with
    | nil => exact ev_lit (L := []) lit
    | cons t ts =>
      rw [List.length_append, List.length_cons] at hl
      omega
theorem ev_word {σ : L2.St} {H : Hp} {E : XK} {ta : TE} {r : Addr} {ts : List Tx} (ha : Ev ta σ H (.ref r)) (h : RAt K H r ts) : Ev (tMeth (rc K) "word" (spWord K) [] E ta tNil) σ H (vS (ts.headD [])) := by
  have h' := h
  obtain ⟨dx, L, es, e, dn, h1, _⟩ := h'
  exact ev_meth ha h1 rfl ea_nil fun H1 e1 Q q E => ⟨_, rfl, r, ts, rfl, h.ex e1, q⟩
/-! ### need -/
def spNeed (K : PySem.W.Frag) : Sp := Pr2 fun s v H Q => ∃ r t ts, s = .ref r ∧ v = vS t ∧ RAt K H r (t :: ts) ∧ ∀ H2, KR K r H H2 → RAt K H2 r ts → Q .non H2
theorem et_neS {σ : L2.St} {H : Hp} {ta tb : TE} {a b : Tx} (ha : Ev ta σ H (vS a)) (hb : Ev tb σ H (vS b)) : EvT (tTest (tOp rNe ta tb)) σ H (!decide (a = b)) := et_is (et_test (ev_op ha hb (rv_ne rfl))) (by
  by_cases e : a = b
  · rw [e, decide_eq_true rfl, decide_eq_true rfl]
  · rw [decide_eq_false e]
    exact congrArg (!·) (decide_eq_false fun z => e (SX.S_inj (by injection z))))
theorem ok_need (T : Txt w K mg) (c_Reader_word : C8.Met P w K mg base 1 (rc K) "word" (spWord K) []) : C8.Met P w K mg base 2 (rc K) "need" (spNeed K) [] := by
  refine T.met m_def_Reader_need m_meth_Reader_need sc_Reader_need bi_Reader_need len2 (fun cdv A outer s H vs Q E hr h => ?_)
  obtain ⟨v, v2, rfl, r, t, ts, rfl, rfl, h, q⟩ := h
  refine ⟨_, (pss_cons (ps_if (pt_cmpR op_ne (C8.pe_mt0 c_Reader_word hr (by decide) (pv 0)) (pv 1) (nomark _)) (pss_one ps_never) pss_nil)
  (pss_one (ps_fldaug (pv 0) pe_int in_add))), ?_⟩
  refine q_when (b := false) (et_is (et_neS (ev_word (ev_var rfl) h) (ev_var rfl)) (by simp)) (fun e => by cases e) fun _ H1 e1 => ?_
  exact s_step (ev_var rfl) T.rcls (T.noat m_noat_Reader_at) (h.ex e1) fun H2 k2 h2 => q H2 ((KR.ex e1).trans k2) h2
/-! ### number, name, close -/
def spNumber (K : PySem.W.Frag) : Sp := Pr3 fun s m b H Q => ∃ r mk n bnd ts, s = .ref r ∧ m = vS mk ∧ mk.length ≤ 10 ∧ b = .int ((bnd : Nat) : Int) ∧ n < bnd ∧ n < 2 ^ 64 ∧ RAt K H r ((mk ++ num n) :: ts) ∧ ∀ H2, KR K r H H2 → RAt K H2 r ts → Q (.int (n : Int)) H2
theorem ok_number (T : Txt w K mg) (c_Reader_word : C8.Met P w K mg base 1 (rc K) "word" (spWord K) []) (c_number_of : C8.Cal P w K mg base 1 "number_of" spNum []) : C8.Met P w K mg base 2 (rc K) "number" (spNumber K) [] := by
  refine T.met m_def_Reader_number m_meth_Reader_number sc_Reader_number bi_Reader_number len3 (fun cdv A outer s H vs Q E hr h => ?_)
  obtain ⟨v, v2, v3, rfl, r, mk, n, bnd, ts, rfl, rfl, hm, rfl, hb, hn, h, q⟩ := h
  refine ⟨_, (pss_cons (ps_set (i := 3) sc_Reader_number.nd rfl (Or.inl rfl) (C8.pe_mt0 c_Reader_word hr (by decide) (pv 0)))
  (pss_cons (ps_set (i := 4) sc_Reader_number.nd rfl (Or.inl rfl) (pe_ifExp (pt_cmpR op_eq (pe_slice C8.sl_txt (pv 3) po_none (po_some (pe_callB call_len_str (by rfl) (T.free m_free_len) PySem.boot_len (pa_cons (pv 1) pa_nil)))) (pv 1) (nomark _)) (C8.pe_c c_number_of hr (by decide) (by rfl) (pa_cons (pe_slice C8.sl_txt (pv 3) (po_some (pe_callB call_len_str (by rfl) (T.free m_free_len) PySem.boot_len (pa_cons (pv 1) pa_nil))) po_none) (pa_cons (pv 2) pa_nil))) pe_non))
  (pss_cons (ps_if (pt_cmpR op_isN1 (pv 4) pe_non (nomark _)) (pss_one ps_never) pss_nil)
  (pss_cons (ps_fldaug (pv 0) pe_int in_add)
  (pss_one (ps_ret (pv 4))))))), ?_⟩
  have hl := num_len hn
  have hwl : (mk ++ num n).length ≤ 60000 := by
    rw [List.length_append]
    omega
  refine q_asg (v := vS (mk ++ num n)) (ev_word (ev_var rfl) h) fun H1 e1 => ?_
  refine q_asg (v := .int (n : Int)) (ev_if (b := true) (et_is (et_eqS (ev_is (evs_to (i := mk.length) (ev_var rfl) hwl (eo_some (ev_lenS (ev_var rfl) (by omega)))) (by rw [List.take_left])) (ev_var rfl)) (decide_eq_true rfl)) (fun _ => ?_) fun e => by cases e) fun H2 e2 => ?_
  · refine ev_call (ea_cons (ev_is (evs_from (i := mk.length) (ev_var rfl) hwl (eo_some (ev_lenS (ev_var rfl) (by omega)))) (by rw [List.drop_left])) (ea_cons (ev_var rfl) ea_nil)) fun H3 e3 Q' q' E' => ⟨_, _, rfl, n, bnd, rfl, hn, rfl, hb, q'⟩
  refine q_when (b := false) (et_is (et_isN (ev_var rfl)) rfl) (fun e => by cases e) fun _ H3 e3 => ?_
  have e13 := e1.trans (e2.trans e3)
  refine s_step (ev_var rfl) T.rcls (T.noat m_noat_Reader_at) (h.ex e13) fun H4 k4 h4 => ?_
  refine s_ret (ev_var rfl) fun H5 e5 => q H5 ((KR.ex e13).trans (k4.trans (KR.ex e5))) (h4.ex e5)
def spNameM (K : PySem.W.Frag) : Sp := Pr1 fun s H Q => ∃ r x ts, s = .ref r ∧ NameOk x ∧ RAt K H r ((64 :: x) :: ts) ∧ ∀ H2, KR K r H H2 → RAt K H2 r ts → Q (vS x) H2
theorem ok_name (T : Txt w K mg) (c_Reader_word : C8.Met P w K mg base 1 (rc K) "word" (spWord K) []) (c_is_name : C8.Cal P w K mg base 1 "is_name" spName []) : C8.Met P w K mg base 2 (rc K) "name" (spNameM K) [] := by
  refine T.met m_def_Reader_name m_meth_Reader_name sc_Reader_name bi_Reader_name len1 (fun cdv A outer s H vs Q E hr h => ?_)
  obtain ⟨v, rfl, r, x, ts, rfl, hx, h, q⟩ := h
  refine ⟨_, (pss_cons (ps_set (i := 1) sc_Reader_name.nd rfl (Or.inl rfl) (C8.pe_mt0 c_Reader_word hr (by decide) (pv 0)))
  (pss_cons (ps_if (PW.pt (pw_or (pt_cmpR op_ne (pe_slice C8.sl_txt (pv 1) po_none (po_some pe_int)) pe_str (nomark _)) (pw_or1 (pt_not (pt_val (C8.pe_c c_is_name hr (by decide) (by rfl) (pa_cons (pe_slice C8.sl_txt (pv 1) (po_some pe_int) po_none) pa_nil))))))) (pss_one ps_never) pss_nil)
  (pss_cons (ps_fldaug (pv 0) pe_int in_add)
  (pss_one (ps_ret (pe_slice C8.sl_txt (pv 1) (po_some pe_int) po_none)))))), ?_⟩
  have hl := hx.len
  have hwl : (64 :: x).length ≤ 60000 := by
    rw [List.length_cons]
    omega
  refine q_asg (v := vS (64 :: x)) (ev_word (ev_var rfl) h) fun H1 e1 => ?_
  refine q_when (b := false) (et_is (et_or (a := false) (b := false) (et_is (et_neS (ev_is (w := vS [64]) (evs_to (i := 1) (ev_var rfl) hwl (eo_some ev_c)) rfl) (ev_lit (L := [64]) lit)) (by simp)) fun _ => et_not (et_B (ev_call (z := .bl true) (ea_cons (ev_is (w := vS x) (evs_from (i := 1) (ev_var rfl) hwl (eo_some ev_c)) rfl) ea_nil) fun H3 e3 Q' q' E' => ⟨_, rfl, x, rfl, hx, q'⟩))) rfl) (fun e => by cases e) fun _ H2 e2 => ?_
  have e12 := e1.trans e2
  refine s_step (ev_var rfl) T.rcls (T.noat m_noat_Reader_at) (h.ex e12) fun H4 k4 h4 => ?_
  refine s_ret (ev_is (w := vS x) (evs_from (i := 1) (ev_var rfl) hwl (eo_some ev_c)) rfl) fun H5 e5 => q H5 ((KR.ex e12).trans (k4.trans (KR.ex e5))) (h4.ex e5)
def spClose (K : PySem.W.Frag) : Sp := Pr1 fun s H Q => ∃ r, s = .ref r ∧ RAt K H r [] ∧ RetV .non H Q
theorem ok_close (T : Txt w K mg) : C8.Met P w K mg base 1 (rc K) "close" (spClose K) [] := by
  refine T.met m_def_Reader_close m_meth_Reader_close sc_Reader_close bi_Reader_close len1 (fun cdv A outer s H vs Q E hr h => ?_)
  obtain ⟨v, rfl, r, rfl, h, q⟩ := h
  refine ⟨_, (pss_one (ps_if (PW.pt (pw_or (pt_cmpR op_lt (pe_fld (pv 0) rfl) (pe_callB call_len_seq (by rfl) (T.free m_free_len) PySem.boot_len (pa_cons (pe_fld (pv 0) rfl) pa_nil)) (nomark _)) (pw_or1 (pt_not (pt_val (pe_fld (pv 0) rfl)))))) (pss_one ps_never) pss_nil)), ?_⟩
  obtain ⟨dx, L, es, e, dn, h1, h2, h3, h4, h5⟩ := h
  have hat : Ev (tFld K (tVar 0) "at") [some (.ref r)] H (.int (dn.length : Int)) := ev_fld (ev_var rfl) h1 T.rcls (T.noat m_noat_Reader_at) rfl
  have hfo : Ev (tFld K (tVar 0) "found") [some (.ref r)] H (.ref L) := ev_fld (ev_var rfl) h1 T.rcls (T.noat m_noat_Reader_found) rfl
  have hl := h3.length
  rw [List.append_nil] at hl
  exact s_when (b := false) (et_is (et_or (b := false) (et_is (et_ltI hat (ev_len hfo (sq_of h2))) (decide_eq_false (by omega))) fun _ => et_not (et_B (b := true) (ev_fld (ev_var rfl) h1 T.rcls (T.noat m_noat_Reader_is_whole) rfl))) rfl) (fun e => by cases e) fun _ H1 e1 => q H1 e1
/-! ### __init__ -/
def spInit (K : PySem.W.Frag) : Sp := Pr2 fun s v H Q => ∃ r dx a g ts, s = .ref r ∧ v = vS a ∧ H r = some (.ins (rc K) dx []) ∧ LayF g ts a ∧ a.length ≤ 60000 ∧ ∀ H2, KR K r H H2 → RAt K H2 r ts → Q .non H2
theorem s_fld {σ : L2.St} {H : Hp} {ta tv : TE} {r C dx : Addr} {fs : List (Str × V)} {f : Str} {v : V} {D : Ends} {u : TS} (ha : Ev ta σ H (.ref r)) (hv : Ev tv σ H v) (hr : H r = some (.ins C dx fs)) (hc : Cls K C) (hn : NoAttr K C f) (hl : fs.length < 1000) (k : ∀ H1, Ex H H1 → u D σ (upd H1 r (.ins C dx (putF f v fs)))) : tSeq (sFld K ta tv f) u D σ H :=
  hv H (Ex.refl H) _ fun H1 e1 => ha H1 e1 _ fun H2 e2 => ⟨r, C, dx, fs, rfl, e2 _ _ (e1 _ _ hr), hc, hn, hl, k H2 (e1.trans e2)⟩
theorem ok_init (T : Txt w K mg) (c_scanned : C8.Cal P w K mg base 3 "scanned" spScan []) : C8.Mak P w K mg base 4 "Reader" (rc K) (spInit K) [] := by
  obtain ⟨fd, F⟩ := T.t.d.defs m_def_Reader_init
  have F' : FunD K "__init__" "Reader.__init__" (defArgs s_Reader_init) (defBody s_Reader_init) (defScope s_Reader_init) [] [] (He.ma K (He.ga K "Reader") "__init__") fd := F
  refine ⟨He.ma K (He.ga K "Reader") "__init__", fd, _, [], He.mkr_ok (T.t.d.facts m_mkr_Reader), F'.ok sc_Reader_init len2 fun cdv A outer s H vs Q E hr h => ?_, T.glo m_glo_Reader, F'.bindsN bi_Reader_init, .nil⟩
  obtain ⟨v, v2, rfl, r, dx, a, g, ts, rfl, rfl, h0, hl, hz, q⟩ := h
  refine ⟨_, PSs.nox (pss_cons (ps_if (pt_not (pt_val (pe_callB RZ.call_isTy (by rfl) (T.free m_free_isinstance) (by decide +kernel) (pa_cons (pv 1) (pa_cons (pe_bltn (v := .ty "str") (by rfl) (T.free m_free_str) (by decide +kernel) rfl) pa_nil))))) (pss_one ps_never) pss_nil)
  (pss_cons (ps_asg (C8.pe_c c_scanned hr (by decide) (by rfl) (pa_cons (pv 1) pa_nil)) (pg_tup rfl (pgs_cons (pg_name (i := 2) sc_Reader_init.nd rfl (Or.inl rfl)) (pgs_cons (pg_name (i := 3) sc_Reader_init.nd rfl (Or.inl rfl)) pgs_nil))))
  (pss_cons (ps_fld (pv 0) (pv 2) rfl)
  (pss_cons (ps_fld (pv 0) (pe_ifExp (pt_cmpR op_isN1 (pv 3) pe_non (nomark _)) (pe_callB call_len_str (by rfl) (T.free m_free_len) PySem.boot_len (pa_cons (pv 1) pa_nil)) (pv 3)) rfl)
  (pss_cons (ps_fld (pv 0) (pe_cmpR op_isN1 (pv 3) pe_non (nomark _)) rfl)
  (pss_one (ps_fld (pv 0) pe_int rfl))))))), ?_⟩
  obtain ⟨hl1, hl2⟩ := lay_len hl
  refine q_when (b := false) (et_is (et_not (et_B (ev_cb (z := .bl true) (ea_cons (ev_var rfl) (ea_cons ev_c ea_nil)) fun H1 e Q q => ⟨_, _, rfl, .str _, q H1 (Ex.refl H1)⟩))) rfl) (fun e => by cases e) fun _ H1 e1 => ?_
  refine ⟨_, rfl, _, rfl, a, g, ts, rfl, hl, hz, fun p f es H2 hp hf e2 hp2 hf2 htk => ⟨p, _, rfl, SqT.of hp2, rfl, _, _, rfl, _, _, rfl, rfl, ?_⟩⟩
  have e12 := e1.trans e2
  have hr2 := e12 _ _ h0
  have hfr : f ≠ r := fun z => by
    rw [z, hr2] at hf2
    cases hf2
  refine s_fld (r := r) (v := .ref f) (ev_var rfl) (ev_var rfl) hr2 T.rcls (T.noat m_noat_Reader_found) (by decide) fun H3 e3 => ?_
  have hr3 := e3 _ _ hr2
  refine s_fld (r := r) (v := .int (a.length : Int)) (ev_var rfl) (ev_if (b := true) (et_is (et_isN (ev_var rfl)) rfl) (fun _ => ev_lenS (ev_var rfl) hz) fun e => by cases e) upd_same T.rcls (T.noat m_noat_Reader_end) (by show 1 < 1000; omega) fun H4 e4 => ?_
  have hr4 := e4 _ _ upd_same
  refine s_fld (r := r) (v := .bl true) (ev_var rfl) (ev_op (ev_var rfl) ev_c fun H e Q q => ⟨rfl, q H (Ex.refl H)⟩) upd_same T.rcls (T.noat m_noat_Reader_is_whole) (by show 2 < 1000; omega) fun H5 e5 => ?_
  have hr5 := e5 _ _ upd_same
  refine ⟨_, rfl, r, _, dx, _, rfl, upd_same, T.rcls, T.noat m_noat_Reader_at, (by show 3 < 1000; omega), ?_⟩
  have kr : KR K r H2 _ := ((KR.ex e3).trans (KR.wr (gs := putF "found" (.ref f) []) hr3 fun x hx => by cases hx)).trans (((KR.ex e4).trans (KR.wr (gs := putF "end" (.int (a.length : Int)) (putF "found" (.ref f) [])) hr4 fun x hx => hx)).trans (((KR.ex e5).trans (KR.wr (gs := putF "is_whole" (.bl true) (putF "end" (.int (a.length : Int)) (putF "found" (.ref f) []))) hr5 fun x hx => hx)).trans (KR.wr (gs := putF "at" (.int 0) (putF "is_whole" (.bl true) (putF "end" (.int (a.length : Int)) (putF "found" (.ref f) [])))) upd_same fun x hx => hx)))
  exact q _ ((KR.ex e12).trans kr) ⟨dx, f, es, (a.length : Int), [], upd_same, kr.other _ _ hfr noTb_lst hf2, htk.kt kr.tups, fun t ht => Nat.le_trans (hl2 t ht) hz, Nat.le_trans hl1 hz⟩
end
end K6
/-! K6L5: Reader.one_of, the told tuples; readings that take tokens. -/
namespace K6
open PySem PySem.Spec PyProof.Rows L2 Evl
/-! ### the told tuples -/
inductive TLs (K : PySem.W.Frag) : List V → List (Str × V) → Prop
  | nil : TLs K [] []
  | cons {q : Addr} {y : Str} {v : V} {xs : List V} {tl : List (Str × V)} : (∀ H, SqT K H q [.str y, v]) → TLs K xs tl → TLs K (.ref q :: xs) ((y, v) :: tl)
theorem TLs.length {K : PySem.W.Frag} : ∀ {xs : List V} {tl : List (Str × V)}, TLs K xs tl → xs.length = tl.length
  | _, _, .nil => rfl
  | _, _, .cons _ r => congrArg Nat.succ (TLs.length r)
theorem TLs.get {K : PySem.W.Frag} : ∀ {xs : List V} {tl : List (Str × V)} {i : Nat} {x : V}, TLs K xs tl → xs[i]? = some x → ∃ q y v, x = .ref q ∧ tl[i]? = some (y, v) ∧ ∀ H, SqT K H q [.str y, v]
  | _, _, 0, _, .cons h r, e => by
    have e' := Option.some.inj e
    exact ⟨_, _, _, e'.symm, rfl, h⟩
  | _, _, i + 1, _, .cons h r, e => by
    obtain ⟨q, y, v, h1, h2, h3⟩ := TLs.get (i := i) r (by simpa using e)
    exact ⟨q, y, v, h1, by simpa using h2, h3⟩
def TLK (K : PySem.W.Frag) (p : Addr) (tl : List (Str × V)) : Prop := ∃ xs, (∀ H, SqT K H p xs) ∧ TLs K xs tl
theorem pairs_ok {K : PySem.W.Frag} : ∀ {ps : List (Str × He.Dv)} {us : List Value}, pairsB K ps us = true → ∃ xs, Vals xs us ∧ TLs K xs (ps.map fun p => (p.1, p.2.v K))
  | [], [], _ => ⟨[], .nil, .nil⟩
  | p :: ps, u :: us, h => by
    have h' : (pairB K p u && pairsB K ps us) = true := h
    rw [Bool.and_eq_true] at h'
    obtain ⟨xs, h1, h2⟩ := pairs_ok h'.2
    have hp := h'.1
    cases u with
    | ref b =>
      refine ⟨.ref b :: xs, .cons rfl h1, .cons (fun H => ?_) h2⟩
      unfold pairB at hp
      simp only at hp
      cases q : K.lookup b with
      | none =>
        rw [q] at hp
        cases hp
      | some o =>
        obtain ⟨oc, od, dt, osl⟩ := o
        rw [q] at hp
        cases oc with
        | type c =>
          cases dt with
          | seq its n =>
            have hp' : (decide (c = "tuple") && (decide (its.size ≤ sizeLine) && He.relAll [.str p.1, p.2.v K] its.toList)) = true := hp
            rw [Bool.and_eq_true, Bool.and_eq_true] at hp'
            exact .inr ⟨_, its, n, q, congrArg Value.type (of_decide_eq_true hp'.1), rfl, of_decide_eq_true hp'.2.1, He.relAll_ok hp'.2.2⟩
          | _ => cases hp
        | _ => cases dt <;> cases hp
    | _ => cases hp
  | [], _ :: _, h => by cases h
  | _ :: _, [], h => by cases h
theorem toldB_ok {K : PySem.W.Frag} {x : Str} {ps : List (Str × He.Dv)} (h : toldB K x ps = true) : TLK K (He.ga K x) (ps.map fun p => (p.1, p.2.v K)) := by
  unfold toldB at h
  cases q : K.lookup (He.ga K x) with
  | none =>
    rw [q] at h
    cases h
  | some o =>
    obtain ⟨oc, od, dt, osl⟩ := o
    rw [q] at h
    cases oc with
    | type c =>
      cases dt with
      | seq its n =>
        have h' : (decide (c = "tuple") && (decide (its.size ≤ sizeLine) && pairsB K ps its.toList)) = true := h
        rw [Bool.and_eq_true, Bool.and_eq_true] at h'
        obtain ⟨xs, h1, h2⟩ := pairs_ok h'.2.2
        exact ⟨xs, fun H => .inr ⟨_, its, n, q, congrArg Value.type (of_decide_eq_true h'.1), rfl, of_decide_eq_true h'.2.1, h1⟩, h2⟩
      | _ => cases h
    | _ => cases dt <;> cases h
structure Told (K : PySem.W.Frag) : Prop where
  ops : He.tupB K "OPS" v_OPS = true
  casts : He.tupB K "CASTS" v_CASTS = true
  widths : TLK K (He.ga K "WIDTHS_TOLD") (v_WIDTHS_TOLD.map fun p => (p.1, p.2.v K))
  types : TLK K (He.ga K "TYPES_TOLD") (v_TYPES_TOLD.map fun p => (p.1, p.2.v K))
  results : TLK K (He.ga K "RESULTS_TOLD") (v_RESULTS_TOLD.map fun p => (p.1, p.2.v K))
  preds : TLK K (He.ga K "PREDS_TOLD") (v_PREDS_TOLD.map fun p => (p.1, p.2.v K))
  ends : TLK K (He.ga K "ENDINGS_TOLD") (v_ENDINGS_TOLD.map fun p => (p.1, p.2.v K))
  counts : He.valsB K (He.ga K "ARG_COUNTS") v_ARG_COUNTS = true
  apart : (He.cT K ("read_global", none)).2 ≠ (He.cT K ("law", none)).2
theorem told_of {K : PySem.W.Frag} (h : ex K = true) : Told K := by
  unfold ex at h
  simp only [Bool.and_eq_true] at h
  obtain ⟨h1, h2, h3, h4, h5, h6, h7, h8, h9⟩ := h
  exact ⟨h1, h2, toldB_ok h3, toldB_ok h4, toldB_ok h5, toldB_ok h6, toldB_ok h7, h8, fun e => by
    rw [e] at h9
    simp at h9⟩
section
variable {K : PySem.W.Frag} {σ : L2.St} {H H' : Hp} {ta tb te : TE} {tt : TT} {t u : TS} {a b : Tx}
/-- over a told tuple: those for which f, h of each -/
theorem el_lcP {p : Addr} {l : List (Str × V)} {tl : TE} {g : TG} {vs : List Nat} (f : Str × V → Bool) (h : Str × V → V) (hl : Ev tl σ H (.ref p)) (hp : TLK K p l) (hz : l.length ≤ 1000)
    (hs : ∀ q y H1, Ex H H1 → (∀ H, SqT K H q [.str y.1, y.2]) → y ∈ l → ∃ σ2, wipe σ2 vs = wipe σ vs ∧ (∀ R : L2.St → Hp → Prop, R σ2 H1 → g (.ref q) (wipe σ vs) H1 R) ∧ EvT tt σ2 H1 (f y) ∧ (f y = true → ∀ H2, Ex H1 H2 → Ev te σ2 H2 (h y))) :
    EvL (tLc (iTup K tl) g tt te vs) σ H ((l.filter f).map h) := fun H0 e Q q => hl H0 e _ fun H1 e1 => by
  obtain ⟨xs, hxs, hT⟩ := hp
  have hlen := hT.length
  refine ⟨p, rfl, ⟨xs, hxs _⟩, fun D hD => lc_tup (xs := xs) (fun i H' => H1 D = none ∧ Ex H1 H' ∧ H' D = some (.lst (((l.take i).filter f).map h))) ⟨hD, Ex.new hD, by rw [List.take_zero]; exact upd_same⟩ (fun i H' _ _ => hxs _) (fun i x H' hi pv => ?_) (fun H' pv => ?_)⟩
  · obtain ⟨qa, y, v, rfl, hy, hq⟩ := hT.get hi
    obtain ⟨σ2, w1, w2, w3, w4⟩ := hs qa (y, v) H' ((e.trans e1).trans pv.2.1) hq (List.mem_of_getElem? hy)
    have htk : l.take (i + 1) = l.take i ++ [(y, v)] := by
      rw [List.take_add_one, hy]
      rfl
    have hle : (((l.take i).filter f).map h).length ≤ 1000 := by
      rw [List.length_map]
      have := List.length_filter_le f (l.take i)
      rw [List.length_take] at this
      omega
    refine w2 _ ⟨w1, w3 H' (Ex.refl H') _ fun H3 e3 => ?_⟩
    cases hf : f (y, v) with
    | true =>
      simp only [if_true]
      refine w4 hf H3 e3 H3 (Ex.refl H3) _ fun H4 e4 => ⟨_, (e3.trans e4) D _ pv.2.2, sz_lt (by omega), pv.1, Ex.mut (pv.2.1.trans (e3.trans e4)) pv.1, ?_⟩
      rw [upd_same, htk, List.filter_append, List.filter_cons, if_pos hf, List.map_append]
      rfl
    | false =>
      simp only [Bool.false_eq_true, if_false]
      refine ⟨pv.1, pv.2.1.trans e3, ?_⟩
      rw [htk, List.filter_append, List.filter_cons, if_neg (by rw [hf]; decide)]
      simpa using e3 D _ pv.2.2
  · refine q D H' (fresh_back e1 pv.1) (e1.trans pv.2.1) ?_
    have h2 := pv.2.2
    rw [hlen, List.take_length] at h2
    exact h2
theorem et_yes : EvT tYes σ H true := fun H1 _ _ q => q H1 (Ex.refl H1)
end
section
variable {P : Program} {w : World} {K : PySem.W.Frag} {mg : Str → Option Value} {base : Heap}
def spOneOf (K : PySem.W.Frag) : Sp := Pr2 fun s p H Q => ∃ r t ts pa l v, s = .ref r ∧ p = .ref pa ∧ TLK K pa l ∧ l.length ≤ 100 ∧ RAt K H r (t :: ts) ∧ (l.filter fun y => decide (y.1 = SX.S t)).map (·.2) = [v] ∧ ∀ H2, KR K r H H2 → RAt K H2 r ts → Q v H2
theorem et_strs {σ : L2.St} {H : Hp} {ta tb : TE} {x y : Str} (ha : Ev ta σ H (.str x)) (hb : Ev tb σ H (.str y)) : Ev (tOp rEq ta tb) σ H (.bl (decide (x = y))) := ev_is (ev_op ha hb (rv_eq rfl)) (congrArg V.bl (decide_eq_decide.mpr ⟨fun h => by injection h, fun h => by rw [h]⟩))
theorem ok_one_of (T : Txt w K mg) (c_Reader_word : C8.Met P w K mg base 1 (rc K) "word" (spWord K) []) : C8.Met P w K mg base 2 (rc K) "one_of" (spOneOf K) [] := by
  refine T.met m_def_Reader_one_of m_meth_Reader_one_of sc_Reader_one_of bi_Reader_one_of len2 (fun cdv A outer s H vs Q E hr h => ?_)
  obtain ⟨v, v2, rfl, r, t, ts, pa, l, x, rfl, rfl, hp, hl, h, hx, q⟩ := h
  refine ⟨_, (pss_cons (ps_set (i := 2) sc_Reader_one_of.nd rfl (Or.inr rfl) (C8.pe_mt0 c_Reader_word hr (by decide) (pv 0)))
  (pss_cons (ps_if (pt_not (pt_val (pe_callB (cr_any rfl) (by rfl) (T.free m_free_any) (by decide +kernel) (pa_cons (pe_lc (own := [("one", 3), ("told", 4)]) (g := gTup _ 2 _) rfl sc_Reader_one_of.nd (pi_tup (pv 1)) (blkOk_by (N := n_Reader_one_of) (sc := defScope s_Reader_one_of) (by decide +kernel)) (fun _ _ _ _ _ => (pg_tup rfl (pgs_cons (pg_name (i := 3) sc_Reader_one_of.nd rfl (Or.inl rfl)) (pgs_cons (pg_name (i := 4) sc_Reader_one_of.nd rfl (Or.inl rfl)) pgs_nil)))) (fun _ _ _ _ _ => pts_nil) (fun _ _ _ _ _ => (pe_cmpR op_eq (pv 3) (pv 2) (nomark _)))) pa_nil)))) (pss_one ps_never) pss_nil)
  (pss_cons (ps_fldaug (pv 0) pe_int in_add)
  (pss_one (ps_ret (pe_ix ix_list (pe_lc (own := [("one", 3), ("told", 4)]) (g := gTup _ 2 _) rfl sc_Reader_one_of.nd (pi_tup (pv 1)) (blkOk_by (N := n_Reader_one_of) (sc := defScope s_Reader_one_of) (by decide +kernel)) (fun _ _ _ _ _ => (pg_tup rfl (pgs_cons (pg_name (i := 3) sc_Reader_one_of.nd rfl (Or.inl rfl)) (pgs_cons (pg_name (i := 4) sc_Reader_one_of.nd rfl (Or.inl rfl)) pgs_nil)))) (fun _ _ _ _ _ => (pts_one (pt_cmpR op_eq (pv 3) (pv 2) (nomark _)))) (fun _ _ _ _ _ => (pv 4))) pe_int (fun _ _ => rfl))))))), ?_⟩
  have hmem : ∃ y ∈ l, decide (y.1 = SX.S t) = true := by
    have : (l.filter fun y => decide (y.1 = SX.S t)) ≠ [] := fun z => by
      rw [z] at hx
      cases hx
    obtain ⟨y, hy⟩ := List.exists_mem_of_ne_nil _ this
    exact ⟨y, (List.mem_filter.mp hy).1, (List.mem_filter.mp hy).2⟩
  refine q_asg (v := vS t) (ev_word (ev_var rfl) h) fun H1 e1 => ?_
  refine q_when (b := false) (et_is (et_not (et_B (b := true) (ev_is (ev_any (bs := l.map fun y => decide (y.1 = SX.S t)) ?_) (congrArg V.bl ?_)))) rfl) (fun e => by cases e) fun _ H2 e2 => ?_
  · have := el_lcP (tt := tYes) (σ := ([some (.ref r), some (.ref pa), none, none, none] : L2.St).set 2 (some (vS t))) (H := H1) (vs := [3, 4]) (tl := tVar 1) (te := tOp rEq (tVar 3) (tVar 2)) (g := gTup K 2 (gCons (gName 3) (gCons (gName 4) gNil))) (fun _ => true) (fun y => .bl (decide (y.1 = SX.S t))) (ev_var rfl) hp (by omega) fun qa y H3 e3 hq hy => ⟨_, ?w, fun R rr => ⟨qa, _, rfl, hq _, rfl, _, _, rfl, _, _, rfl, rfl, rr⟩, et_yes, fun _ H4 _ => ?v⟩
    case w => rfl
    case v => exact et_strs (ev_var rfl) (ev_var rfl)
    rw [List.filter_eq_self.mpr fun _ _ => rfl] at this
    rw [List.map_map]
    exact this
  · obtain ⟨y, hy1, hy2⟩ := hmem
    rw [List.any_map]
    exact List.any_eq_true.mpr ⟨y, hy1, hy2⟩
  have e12 := e1.trans e2
  refine s_step (ev_var rfl) T.rcls (T.noat m_noat_Reader_at) (h.ex e12) fun H4 k4 h4 => ?_
  have hcomp := el_lcP (K := K) (tt := tTest (tOp rEq (tVar 3) (tVar 2))) (σ := ([some (.ref r), some (.ref pa), none, none, none] : L2.St).set 2 (some (vS t))) (H := H4) (vs := [3, 4]) (tl := tVar 1) (te := tVar 4) (g := gTup K 2 (gCons (gName 3) (gCons (gName 4) gNil))) (fun y => decide (y.1 = SX.S t)) (fun y => y.2) (ev_var rfl) hp (by omega) fun qa y H3 e3 hq hy => ⟨_, ?w, fun R rr => ⟨qa, _, rfl, hq _, rfl, _, _, rfl, _, _, rfl, rfl, rr⟩, et_test ?u, fun _ H4 _ => ?v⟩
  case w => rfl
  case u => exact et_strs (ev_var rfl) (ev_var rfl)
  case v => exact ev_var rfl
  rw [hx] at hcomp
  refine s_ret (ev_opL1 hcomp (fun _ _ => ev_c) fun pn H5 h5 e5 => rv_ixL (sq_of h5) (atI_nat (j := 0) rfl)) fun H5 e5 => q H5 ((KR.ex e12).trans (k4.trans (KR.ex e5))) (h4.ex e5)
end
end K6
/-! K6D1: readings that take tokens: the frame of the program's reading. -/
namespace K6
open PySem PySem.Spec PyProof.Rows L2 Evl
section
variable (K : PySem.W.Frag) (r : Addr)
/-- te takes ts down to ts' and gives the data d -/
def Rv (te : TE) (σ : L2.St) (H0 : Hp) (ts ts' : List Tx) (d : PyData) : Prop := ∀ H1, KR K r H0 H1 → RAt K H1 r ts → ∀ Q : VK, (∀ v H2, KR K r H1 H2 → RAt K H2 r ts' → Dt H2 v d → Q v H2) → te σ H1 Q
def RvA (ta : TA) (σ : L2.St) (H0 : Hp) (ts ts' : List Tx) (ds : List PyData) : Prop := ∀ H1, KR K r H0 H1 → RAt K H1 r ts → ∀ Q : List V → Hp → Prop, (∀ vs H2, KR K r H1 H2 → RAt K H2 r ts' → DtA H2 vs ds → Q vs H2) → ta σ H1 Q
def RvS (t : TS) (σ : L2.St) (H0 : Hp) (ts ts' : List Tx) (d : PyData) : Prop := ∀ (D : Ends) H1, KR K r H0 H1 → RAt K H1 r ts → (∀ v H2, KR K r H1 H2 → RAt K H2 r ts' → Dt H2 v d → D.rt v H2) → t D σ H1
end
section
variable {K : PySem.W.Frag} {r : Addr} {σ : L2.St} {H H0 H' : Hp} {ta tb tc te : TE} {tt : TT} {t u : TS} {ts ts' t1 : List Tx} {d d1 : PyData} {ds : List PyData} {v : V} {E : XK} {tr : TA}
theorem Rv.mono (k : KR K r H H') (h : Rv K r te σ H ts ts' d) : Rv K r te σ H' ts ts' d := fun H1 k1 => h H1 (k.trans k1)
theorem RvA.mono (k : KR K r H H') (h : RvA K r tr σ H ts ts' ds) : RvA K r tr σ H' ts ts' ds := fun H1 k1 => h H1 (k.trans k1)
theorem RvS.mono (k : KR K r H H') (h : RvS K r t σ H ts ts' d) : RvS K r t σ H' ts ts' d := fun D H1 k1 => h D H1 (k.trans k1)
theorem rv_ev (h : ∀ H1, KR K r H0 H1 → RAt K H1 r ts → Ev te σ H1 v) (hd : Dt H0 v d) : Rv K r te σ H0 ts ts d := fun H1 k1 h1 Q q => h H1 k1 h1 H1 (Ex.refl H1) Q fun H2 e2 => q v H2 (KR.ex e2) (h1.ex e2) ((hd.kt k1.tups).kt (KT.ex e2))
theorem rv_var {i : Nat} (h : σ[i]? = some (some v)) (hd : Dt H0 v d) : Rv K r (tVar i) σ H0 ts ts d := rv_ev (fun _ _ _ => ev_var h) hd
theorem rv_c (hd : Dt H0 v d) : Rv K r (tC v) σ H0 ts ts d := rv_ev (fun _ _ _ => ev_c) hd
theorem rv_s {x : Str} {a : Tx} (h : x = SX.S a) : Rv K r (tC (.str x)) σ H0 ts ts (tx a) := rv_c (by
  rw [h]
  exact .str _)
theorem rva_nil : RvA K r tNil σ H0 ts ts [] := fun H1 _ h1 _ q => q [] H1 (KR.refl r H1) h1 .nil
theorem rva_cons (h : Rv K r te σ H0 ts t1 d) (hr : RvA K r tr σ H0 t1 ts' ds) : RvA K r (tCons te tr) σ H0 ts ts' (d :: ds) := fun H1 k1 h1 _ q => h H1 k1 h1 _ fun v H2 k2 h2 hd => hr H2 (k1.trans k2) h2 _ fun vs H3 k3 h3 hds => q _ H3 (k2.trans k3) h3 (.cons (hd.kt k3.tups) hds)
theorem rv_tup (h : RvA K r tr σ H0 ts ts' ds) (hl : Nat.ble ds.length 1000 = true) : Rv K r (tTup tr) σ H0 ts ts' (.tuple ds) := fun H1 k1 h1 Q q => h H1 k1 h1 _ fun vs H2 k2 h2 hds => ⟨sz_of (by
  rw [hds.length]
  have := Nat.le_of_ble_eq_true hl
  omega), fun p hp => q (.ref p) _ (k2.trans (KR.ex (Ex.new hp))) (h2.ex (Ex.new hp)) (.tup upd_same (hds.kt (KT.ex (Ex.new hp))))⟩
theorem rv_ify (h : ∀ H1, KR K r H0 H1 → RAt K H1 r ts → EvT tt σ H1 true) (ha : Rv K r ta σ H0 ts ts' d) : Rv K r (tIf tt ta tb) σ H0 ts ts' d := fun H1 k1 h1 Q q => h H1 k1 h1 H1 (Ex.refl H1) _ fun H2 e2 => by
  show ta σ H2 Q
  exact ha H2 (k1.trans (KR.ex e2)) (h1.ex e2) Q fun v H3 k3 => q v H3 ((KR.ex e2).trans k3)
theorem rv_ifn (h : ∀ H1, KR K r H0 H1 → RAt K H1 r ts → EvT tt σ H1 false) (ha : Rv K r tb σ H0 ts ts' d) : Rv K r (tIf tt ta tb) σ H0 ts ts' d := fun H1 k1 h1 Q q => h H1 k1 h1 H1 (Ex.refl H1) _ fun H2 e2 => by
  show tb σ H2 Q
  exact ha H2 (k1.trans (KR.ex e2)) (h1.ex e2) Q fun v H3 k3 => q v H3 ((KR.ex e2).trans k3)
theorem Rv.to (h : Rv K r te σ H0 t1 ts' d) (e : ts = t1) : Rv K r te σ H0 ts ts' d := by
  rw [e]
  exact h
theorem Rv.toD (h : Rv K r te σ H0 ts ts' d) (e : d = d1) : Rv K r te σ H0 ts ts' d1 := by
  rw [← e]
  exact h
theorem RvS.to (h : RvS K r t σ H0 t1 ts' d) (e : ts = t1) : RvS K r t σ H0 ts ts' d := by
  rw [e]
  exact h
/-! ### methods -/
theorem rat_ins (h : RAt K H r ts) : ∃ dx fs, H r = some (.ins (rc K) dx fs) ∧ ∀ m : Str, m ∉ [("found" : Str), "end", "is_whole", "at"] → fs.lookup m = none := by
  obtain ⟨dx, L, es, e, dn, h1, _⟩ := h
  refine ⟨dx, _, h1, fun m hm => ?_⟩
  simp only [List.mem_cons, List.not_mem_nil, or_false, not_or] at hm
  obtain ⟨m1, m2, m3, m4⟩ := hm
  simp only [rFs, List.lookup]
  rw [beq_eq_false_iff_ne.mpr m1, beq_eq_false_iff_ne.mpr m2, beq_eq_false_iff_ne.mpr m3, beq_eq_false_iff_ne.mpr m4]
theorem rv_number {mk : Tx} {n bnd : Nat} (ha : ∀ H, Ev ta σ H (.ref r)) (hm : ∀ H, Ev tb σ H (vS mk)) (hb : ∀ H, Ev tc σ H (.int ((bnd : Nat) : Int))) (hk : mk.length ≤ 10) (hn : n < bnd) (h64 : n < 2 ^ 64) :
    Rv K r (tMeth (rc K) "number" (spNumber K) [] E ta (tCons tb (tCons tc tNil))) σ H0 ((mk ++ num n) :: ts) ts (nt n) := fun H1 k1 h1 Q q => ha H1 H1 (Ex.refl H1) _ fun H2 e2 => by
  obtain ⟨dx, fs, g1, g2⟩ := rat_ins (h1.ex e2)
  refine ⟨r, dx, fs, rfl, g1, g2 _ (by decide +kernel), hm H2 H2 (Ex.refl H2) _ fun H3 e3 => hb H3 H3 (Ex.refl H3) _ fun H4 e4 => ?_⟩
  have e24 := e2.trans (e3.trans e4)
  exact ⟨_, _, _, rfl, r, mk, n, bnd, ts, rfl, rfl, hk, rfl, hn, h64, h1.ex e24, fun H5 k5 h5 => q _ H5 ((KR.ex e24).trans k5) h5 (.int _)⟩
theorem rv_name {x : Tx} (ha : ∀ H, Ev ta σ H (.ref r)) (hx : NameOk x) : Rv K r (tMeth (rc K) "name" (spNameM K) [] E ta tNil) σ H0 ((64 :: x) :: ts) ts (tx x) := fun H1 k1 h1 Q q => ha H1 H1 (Ex.refl H1) _ fun H2 e2 => by
  obtain ⟨dx, fs, g1, g2⟩ := rat_ins (h1.ex e2)
  exact ⟨r, dx, fs, rfl, g1, g2 _ (by decide +kernel), _, rfl, r, x, ts, rfl, hx, h1.ex e2, fun H5 k5 h5 => q _ H5 ((KR.ex e2).trans k5) h5 (.str _)⟩
theorem rv_one {tk : Tx} {pa : Addr} {l : List (Str × V)} {x : V} (ha : ∀ H, Ev ta σ H (.ref r)) (hb : ∀ H, Ev tb σ H (.ref pa)) (hp : TLK K pa l) (hl : l.length ≤ 100) (hx : (l.filter fun y => decide (y.1 = SX.S tk)).map (·.2) = [x]) (hd : ∀ H, Dt H x d) :
    Rv K r (tMeth (rc K) "one_of" (spOneOf K) [] E ta (tCons tb tNil)) σ H0 (tk :: ts) ts d := fun H1 k1 h1 Q q => ha H1 H1 (Ex.refl H1) _ fun H2 e2 => by
  obtain ⟨dx, fs, g1, g2⟩ := rat_ins (h1.ex e2)
  refine ⟨r, dx, fs, rfl, g1, g2 _ (by decide +kernel), hb H2 H2 (Ex.refl H2) _ fun H3 e3 => ?_⟩
  have e23 := e2.trans e3
  exact ⟨_, _, rfl, r, tk, ts, pa, l, x, rfl, rfl, hp, hl, h1.ex e23, hx, fun H5 k5 h5 => q _ H5 ((KR.ex e23).trans k5) h5 (hd _)⟩
/-! ### statements -/
theorem rvs_ret (h : Rv K r te σ H0 ts ts' d) : RvS K r (tRet te) σ H0 ts ts' d := fun D H1 k1 h1 q => h H1 k1 h1 _ q
theorem rvs_asg {i : Nat} (h : Rv K r te σ H0 ts t1 d1) (k : ∀ v H2, KR K r H0 H2 → Dt H2 v d1 → RvS K r u (σ.set i (some v)) H2 t1 ts' d) : RvS K r (tSeq (tAsg te (gName i)) u) σ H0 ts ts' d := fun D H1 k1 h1 q => h H1 k1 h1 _ fun v H2 k2 h2 hd => k v H2 (k1.trans k2) hd D H2 (KR.refl r H2) h2 fun v' H3 k3 => q v' H3 (k2.trans k3)
/-- of a told value -/
theorem rvs_asgV {i : Nat} (h : ∀ H1, KR K r H0 H1 → RAt K H1 r ts → Ev te σ H1 v) (k : RvS K r u (σ.set i (some v)) H0 ts ts' d) : RvS K r (tSeq (tAsg te (gName i)) u) σ H0 ts ts' d := fun D H1 k1 h1 q => h H1 k1 h1 H1 (Ex.refl H1) _ fun H2 e2 => k D H2 (k1.trans (KR.ex e2)) (h1.ex e2) fun v' H3 k3 => q v' H3 ((KR.ex e2).trans k3)
theorem s_need {tk : Tx} {D : Ends} (ha : Ev ta σ H (.ref r)) (hb : ∀ H1, Ex H H1 → Ev tb σ H1 (vS tk)) (h1 : RAt K H r (tk :: ts)) (k : ∀ H2, KR K r H H2 → RAt K H2 r ts → D.nx σ H2) : tDrop (tMeth (rc K) "need" (spNeed K) [] E ta (tCons tb tNil)) D σ H := ha H (Ex.refl H) _ fun H2 e2 => by
  obtain ⟨dx, fs, g1, g2⟩ := rat_ins (h1.ex e2)
  refine ⟨r, dx, fs, rfl, g1, g2 _ (by decide +kernel), hb H2 e2 H2 (Ex.refl H2) _ fun H3 e3 => ?_⟩
  have e23 := e2.trans e3
  exact ⟨_, _, rfl, r, tk, ts, rfl, rfl, h1.ex e23, fun H5 k5 h5 => k H5 ((KR.ex e23).trans k5) h5⟩
theorem rvs_need {tk : Tx} (ha : ∀ H, Ev ta σ H (.ref r)) (hb : ∀ H, Ev tb σ H (vS tk)) (k : RvS K r u σ H0 ts ts' d) : RvS K r (tSeq (tDrop (tMeth (rc K) "need" (spNeed K) [] E ta (tCons tb tNil))) u) σ H0 (tk :: ts) ts' d := fun D H1 k1 h1 q =>
  s_need (D := { D with nx := u D }) (ha H1) (fun H2 _ => hb H2) h1 fun H2 k2 h2 => k D H2 (k1.trans k2) h2 fun v H3 k3 => q v H3 (k2.trans k3)
theorem rvs_y (h : ∀ H1, KR K r H0 H1 → RAt K H1 r ts → EvT tt σ H1 true) (h1 : RvS K r t σ H0 ts ts' d) : RvS K r (tSeq (tIfS tt t tNext) u) σ H0 ts ts' d := fun D H1 k1 hr q => h H1 k1 hr H1 (Ex.refl H1) _ fun H2 e2 => by
  show t { D with nx := u D } σ H2
  exact h1 _ H2 (k1.trans (KR.ex e2)) (hr.ex e2) fun v H3 k3 => q v H3 ((KR.ex e2).trans k3)
theorem rvs_n (h : ∀ H1, KR K r H0 H1 → RAt K H1 r ts → EvT tt σ H1 false) (h1 : RvS K r u σ H0 ts ts' d) : RvS K r (tSeq (tIfS tt t tNext) u) σ H0 ts ts' d := fun D H1 k1 hr q => h H1 k1 hr H1 (Ex.refl H1) _ fun H2 e2 => by
  show u D σ H2
  exact h1 D H2 (k1.trans (KR.ex e2)) (hr.ex e2) fun v H3 k3 => q v H3 ((KR.ex e2).trans k3)
/-- L.append(what is read): L is no object of the base heap H0 -/
theorem s_appR {L : Addr} {es : List V} {ts0 : List Tx} {D : Ends} (k : KR K r H0 H) (hL0 : Fre H0 L) (h0 : RAt K H0 r ts0) (hL : H L = some (.lst es)) (hz : es.length ≤ 1000) (ha : Ev ta σ H (.ref L)) (hr : RAt K H r ts) (h : Rv K r te σ H ts ts' d)
    (kk : ∀ v H2, KR K r H0 H2 → KT H H2 → RAt K H2 r ts' → H2 L = some (.lst (es ++ [v])) → Dt H2 v d → D.nx σ H2) : tDrop (tBM K "list" rAppend ta (tCons te tNil)) D σ H := by
  have nLr : L ≠ r := fun e => by
    obtain ⟨dx, fs, g1, _⟩ := rat_ins h0
    exact hL0.ne g1 noTb_ins e.symm
  refine ha H (Ex.refl H) _ fun H1 e1 => ⟨Or.inl ⟨rfl, es, sq_of (e1 L _ hL)⟩, h H1 (KR.ex e1) (hr.ex e1) _ fun v H2 k2 h2 hd => ?_⟩
  have hL2 : H2 L = some (.lst es) := k2.other L _ nLr noTb_lst (e1 L _ hL)
  have k02 : KR K r H0 H2 := (k.trans (KR.ex e1)).trans k2
  exact ⟨L, es, v, rfl, rfl, hL2, sz_lt (by omega), kk v _ (k02.mutL hL0 hL2) (((KT.ex e1).trans k2.tups).trans (KT.updL hL2)) (h0.mutL k02 hL0 hL2 h2) upd_same (hd.kt (KT.updL hL2))⟩
/-- tuple(L) -/
theorem ev_tupleL {L : Addr} {es : List V} {Q : VK} (ha : Ev ta σ H (.ref L)) (hL : H L = some (.lst es)) (q : ∀ p H2, Ex H H2 → H2 p = some (.tup es) → Q (.ref p) H2) :
    tCB (fun xs H Q => ∃ p ys, xs = [V.ref p] ∧ ((SqL K H p ys ∧ ∀ l, H l = none → Q (.ref l) (upd H l (.tup ys))) ∨ (SqT K H p ys ∧ Q (.ref p) H))) (tCons ta tNil) σ H Q :=
  ha H (Ex.refl H) _ fun H1 e1 => ⟨L, es, rfl, .inl ⟨sq_of (e1 _ _ hL), fun l hl => q l _ (e1.trans (Ex.new hl)) upd_same⟩⟩
end
/-! ### a def that reads -/
def spRd (K : PySem.W.Frag) {α : Type} (tk : α → List Tx) (py : α → PyData) (ok : α → List Tx → Prop) : Sp := Pr1 fun s H Q => ∃ r x ts, s = .ref r ∧ ok x ts ∧ RAt K H r (tk x ++ ts) ∧ ∀ v H2, KR K r H H2 → RAt K H2 r ts → Dt H2 v (py x) → Q v H2
section
variable {K : PySem.W.Frag} {r : Addr} {σ : L2.St} {H0 : Hp} {ta : TE} {ts : List Tx} {E : XK} {α : Type} {tk : α → List Tx} {py : α → PyData} {ok : α → List Tx → Prop}
theorem rv_rd {x : α} (ha : ∀ H, Ev ta σ H (.ref r)) (hx : ok x ts) : Rv K r (tCall (spRd K tk py ok) [] E (tCons ta tNil)) σ H0 (tk x ++ ts) ts (py x) := fun H1 k1 h1 Q q => ha H1 H1 (Ex.refl H1) _ fun H2 e2 =>
  ⟨_, rfl, r, x, ts, rfl, hx, h1.ex e2, fun v H3 k3 h3 hd => q v H3 ((KR.ex e2).trans k3) h3 hd⟩
end
/-! ### told values -/
section
variable {K : PySem.W.Frag}
abbrev told (K : PySem.W.Frag) (l : List (Str × He.Dv)) : List (Str × V) := l.map fun p => (p.1, p.2.v K)
theorem one_width {n : Nat} (h : WdOk n) : ((told K v_WIDTHS_TOLD).filter fun y => decide (y.1 = SX.S (Ty.tk (.w n)))).map (·.2) = [.int (n : Int)] := by
  have h' : n = 1 ∨ n = 8 ∨ n = 16 ∨ n = 32 ∨ n = 64 := by simpa [WdOk] using h
  rcases h' with rfl | rfl | rfl | rfl | rfl <;> rfl
theorem one_type {t : Ty} (h : TyOk t) : ((told K v_TYPES_TOLD).filter fun y => decide (y.1 = SX.S t.tk)).map (·.2) = [t.val] := by
  cases t with
  | ptr => rfl
  | w n =>
    have h' : n = 1 ∨ n = 8 ∨ n = 16 ∨ n = 32 ∨ n = 64 := by simpa [WdOk] using (show WdOk n from h)
    rcases h' with rfl | rfl | rfl | rfl | rfl <;> rfl
theorem one_res {o : Option Nat} (h : ResOk o) : ((told K v_RESULTS_TOLD).filter fun y => decide (y.1 = SX.S (resTk o))).map (·.2) = [optV o] := by
  cases o with
  | none => rfl
  | some n =>
    have h' : n = 1 ∨ n = 8 ∨ n = 16 ∨ n = 32 ∨ n = 64 := by simpa [WdOk] using (show WdOk n from h)
    rcases h' with rfl | rfl | rfl | rfl | rfl <;> rfl
theorem one_pred {p : Tx} (h : p ∈ predL) : ((told K v_PREDS_TOLD).filter fun y => decide (y.1 = SX.S p)).map (·.2) = [vS p] := by
  have h' : p = [101, 113] ∨ p = [110, 101] ∨ p = [117, 108, 116] ∨ p = [117, 108, 101] ∨ p = [115, 108, 116] ∨ p = [115, 108, 101] := by simpa [predL] using h
  rcases h' with rfl | rfl | rfl | rfl | rfl | rfl <;> rfl
theorem dt_ty {H : Hp} : ∀ {t : Ty}, Dt H t.val t.py
  | .w n => .int _
  | .ptr => .str _
theorem dt_opt {H : Hp} : ∀ {o : Option Nat}, Dt H (optV o) (optPy o)
  | none => .non
  | some n => .int _
end
section
variable {K : PySem.W.Frag} {r : Addr} {σ : L2.St} {H0 : Hp} {ta : TE} {ts : List Tx} {E : XK}
theorem rv_width {n : Nat} (W : Told K) (ha : ∀ H, Ev ta σ H (.ref r)) (h : WdOk n) : Rv K r (tMeth (rc K) "one_of" (spOneOf K) [] E ta (tCons (tC (.ref (He.ga K "WIDTHS_TOLD"))) tNil)) σ H0 (Ty.tk (.w n) :: ts) ts (nt n) := rv_one ha (fun _ => ev_c) W.widths (by rw [List.length_map]; decide) (one_width h) fun _ => .int _
theorem rv_type {t : Ty} (W : Told K) (ha : ∀ H, Ev ta σ H (.ref r)) (h : TyOk t) : Rv K r (tMeth (rc K) "one_of" (spOneOf K) [] E ta (tCons (tC (.ref (He.ga K "TYPES_TOLD"))) tNil)) σ H0 (t.tk :: ts) ts t.py := rv_one ha (fun _ => ev_c) W.types (by rw [List.length_map]; decide) (one_type h) fun _ => dt_ty
theorem rv_res {o : Option Nat} (W : Told K) (ha : ∀ H, Ev ta σ H (.ref r)) (h : ResOk o) : Rv K r (tMeth (rc K) "one_of" (spOneOf K) [] E ta (tCons (tC (.ref (He.ga K "RESULTS_TOLD"))) tNil)) σ H0 (resTk o :: ts) ts (optPy o) := rv_one ha (fun _ => ev_c) W.results (by rw [List.length_map]; decide) (one_res h) fun _ => dt_opt
theorem rv_pred {p : Tx} (W : Told K) (ha : ∀ H, Ev ta σ H (.ref r)) (h : p ∈ predL) : Rv K r (tMeth (rc K) "one_of" (spOneOf K) [] E ta (tCons (tC (.ref (He.ga K "PREDS_TOLD"))) tNil)) σ H0 (p :: ts) ts (tx p) := rv_one ha (fun _ => ev_c) W.preds (by rw [List.length_map]; decide) (one_pred h) fun _ => .str _
/-- the word's first sign -/
theorem ev_first {σ : L2.St} {H : Hp} {a : Tx} {x : Tx} (ha : Ev ta σ H (.ref r)) (h : RAt K H r (x :: ts)) (e : x.take 1 = a) : Ev (tSl rCutT (tMeth (rc K) "word" (spWord K) [] E ta tNil) tNoPart (tPart (tC (.int 1)))) σ H (vS a) := by
  have h4 : x.length ≤ 60000 := by
    obtain ⟨dx, L, es, en, dn, h1, h2, h3, h4, h5⟩ := h
    exact h4 x List.mem_cons_self
  rw [← e]
  exact evs_to (i := 1) (ev_word ha h) h4 (eo_some ev_c)
end
section
variable {P : Program} {w : World} {K : PySem.W.Frag} {mg : Str → Option Value} {base : Heap}
abbrev bound64 : Nat := 2 ^ 64
/-! ### read_operand, read_type, read_param -/
abbrev spOpdR (K : PySem.W.Frag) : Sp := spRd K (fun o : Opd => [o.tk]) Opd.py (fun o _ => OpdOk o)
theorem num_fst {n : Nat} : ∃ c x, num n = c :: x ∧ 48 ≤ c ∧ c ≤ 57 := by
  cases h : num n with
  | nil => exact absurd h (TL.numL_ne n)
  | cons c x =>
    have := TL.numL_digits n c (by rw [show TL.numL n = c :: x from h]; exact List.mem_cons_self)
    exact ⟨c, x, rfl, this.1, this.2⟩
theorem ok_read_operand (T : Txt w K mg) (c_Reader_word : C8.Met P w K mg base 1 (rc K) "word" (spWord K) []) (c_Reader_number : C8.Met P w K mg base 2 (rc K) "number" (spNumber K) []) (c_Reader_name : C8.Met P w K mg base 2 (rc K) "name" (spNameM K) []) : C8.Cal P w K mg base 3 "read_operand" (spOpdR K) [] := by
  refine T.cal m_def_read_operand m_glo_read_operand sc_read_operand bi_read_operand len1 (fun cdv A outer s H vs Q E hr h => ?_)
  obtain ⟨v, rfl, r, o, ts, rfl, ho, h, q⟩ := h
  refine ⟨_, (pss_cons (ps_set (i := 1) sc_read_operand.nd rfl (Or.inl rfl) (pe_slice C8.sl_txt (C8.pe_mt0 c_Reader_word hr (by decide) (pv 0)) po_none (po_some pe_int)))
  (pss_cons (ps_if (pt_cmpR op_eq (pv 1) pe_str (nomark _)) (pss_one (ps_ret (pe_tup (pa_cons pe_str (pa_cons (C8.pe_mt0 c_Reader_name hr (by decide) (pv 0)) pa_nil))))) pss_nil)
  (pss_cons (ps_if (pt_cmpR op_eq (pv 1) pe_str (nomark _)) (pss_one (ps_ret (pe_tup (pa_cons pe_str (pa_cons (C8.pe_mt c_Reader_number hr (by decide) (pv 0) (pa_cons pe_str (pa_cons (C8.pe_gc (by rfl) (T.int m_int_BOUND)) pa_nil))) pa_nil))))) pss_nil)
  (pss_one (ps_ret (pe_tup (pa_cons pe_str (pa_cons (C8.pe_mt c_Reader_number hr (by decide) (pv 0) (pa_cons pe_str (pa_cons (C8.pe_gc (by rfl) (T.int m_int_BOUND)) pa_nil))) pa_nil)))))))), ?_⟩
  refine (?_ : RvS K r _ _ H (o.tk :: ts) ts o.py) _ H (KR.refl r H) h q
  cases o with
  | g x =>
    refine rvs_asgV (v := vS [64]) (fun H1 _ h1 => ev_first (ev_var rfl) h1 rfl) (rvs_y (fun H1 _ _ => et_SK (a := [64]) (ev_var rfl) ev_c (by decide +kernel)) (rvs_ret (rv_tup (rva_cons (rv_s (a := [103]) lit) (rva_cons (rv_name (fun _ => ev_var rfl) ho) rva_nil)) rfl)))
  | v i =>
    refine rvs_asgV (v := vS [36]) (fun H1 _ h1 => ev_first (ev_var rfl) h1 rfl) (rvs_n (fun H1 _ _ => et_SK (a := [36]) (ev_var rfl) ev_c (by decide +kernel)) (rvs_y (fun H1 _ _ => et_SK (a := [36]) (ev_var rfl) ev_c (by decide +kernel)) (rvs_ret (rv_tup (rva_cons (rv_s (a := [118]) lit) (rva_cons (rv_number (mk := [36]) (bnd := bound64) (fun _ => ev_var rfl) (fun _ => ev_lit lit) (fun _ => ev_c) (by decide) ho ho) rva_nil)) rfl))))
  | n i =>
    obtain ⟨c, x, e, h1, h2⟩ := num_fst (n := i)
    have ne : ∀ d, d < 48 → decide (V.str (SX.S [c]) = vS [d]) = false := fun d hd => sc_ne (by omega)
    have e36 : (V.str "$") = vS [36] := congrArg V.str lit
    have e64 : (V.str "@") = vS [64] := congrArg V.str lit
    have ne64 : decide (V.str (SX.S [c]) = vS [64]) = false := sc_ne (by omega)
    refine rvs_asgV (v := vS [c]) (fun H1 _ h1 => ev_first (ev_var rfl) h1 (by show (num i).take 1 = [c]; rw [e]; rfl)) (rvs_n (fun H1 _ _ => et_SK (a := [c]) (ev_var rfl) ev_c (by rw [e64]; exact ne64)) (rvs_n (fun H1 _ _ => et_SK (a := [c]) (ev_var rfl) ev_c (by rw [e36]; exact ne 36 (by decide))) (rvs_ret (rv_tup (rva_cons (rv_s (a := [110]) lit) (rva_cons (rv_number (mk := []) (bnd := bound64) (fun _ => ev_var rfl) (fun _ => ev_lit lit) (fun _ => ev_c) (by decide) ho ho) rva_nil)) rfl))))
abbrev spTyR (K : PySem.W.Frag) : Sp := spRd K (fun t : Ty => [t.tk]) Ty.py (fun t _ => TyOk t)
theorem ok_read_type (T : Txt w K mg) (W : Told K) (c_Reader_one_of : C8.Met P w K mg base 2 (rc K) "one_of" (spOneOf K) []) : C8.Cal P w K mg base 3 "read_type" (spTyR K) [] := by
  refine T.cal m_def_read_type m_glo_read_type sc_read_type bi_read_type len1 (fun cdv A outer s H vs Q E hr h => ?_)
  obtain ⟨v, rfl, r, o, ts, rfl, ho, h, q⟩ := h
  refine ⟨_, (pss_one (ps_ret (C8.pe_mt c_Reader_one_of hr (by decide) (pv 0) (pa_cons (C8.pe_gc (by rfl) (T.gv m_glo_TYPES_TOLD)) pa_nil)))), ?_⟩
  exact (rvs_ret (rv_type W (fun _ => ev_var rfl) ho) : RvS K r _ _ H (o.tk :: ts) ts o.py) _ H (KR.refl r H) h q
abbrev spParR (K : PySem.W.Frag) : Sp := spRd K parTks parPy (fun p _ => NumOk p.1 ∧ TyOk p.2)
theorem ok_read_param (T : Txt w K mg) (W : Told K) (c_Reader_one_of : C8.Met P w K mg base 2 (rc K) "one_of" (spOneOf K) []) (c_Reader_number : C8.Met P w K mg base 2 (rc K) "number" (spNumber K) []) : C8.Cal P w K mg base 3 "read_param" (spParR K) [] := by
  refine T.cal m_def_read_param m_glo_read_param sc_read_param bi_read_param len1 (fun cdv A outer s H vs Q E hr h => ?_)
  obtain ⟨v, rfl, r, o, ts, rfl, ho, h, q⟩ := h
  refine ⟨_, (pss_cons (ps_set (i := 1) sc_read_param.nd rfl (Or.inl rfl) (C8.pe_mt c_Reader_one_of hr (by decide) (pv 0) (pa_cons (C8.pe_gc (by rfl) (T.gv m_glo_TYPES_TOLD)) pa_nil)))
  (pss_one (ps_ret (pe_tup (pa_cons (C8.pe_mt c_Reader_number hr (by decide) (pv 0) (pa_cons pe_str (pa_cons (C8.pe_gc (by rfl) (T.int m_int_BOUND)) pa_nil))) (pa_cons (pv 1) pa_nil)))))), ?_⟩
  refine (rvs_asg (d1 := o.2.py) (rv_type (ts := valTk o.1 :: ts) W (fun _ => ev_var rfl) ho.2) (fun v H2 k2 hd => rvs_ret (rv_tup (rva_cons (rv_number (mk := [36]) (bnd := bound64) (fun _ => ev_var rfl) (fun _ => ev_lit lit) (fun _ => ev_c) (by decide) ho.1 ho.1) (rva_cons (rv_var rfl hd) rva_nil)) rfl)) : RvS K r _ _ H (o.2.tk :: valTk o.1 :: ts) ts (parPy o)) _ H (KR.refl r H) h q
end
end K6
/-! K6D2: read_list, read_args. -/
namespace K6
open PySem PySem.Spec PyProof.Rows L2 Evl
theorem ev_lenV {K : PySem.W.Frag} {σ : L2.St} {H : Hp} {ta : TE} {L : Addr} {es : List V} (ha : Ev ta σ H (.ref L)) (hL : H L = some (.lst es)) : Ev (tCB (Evl.rLenS K) (tCons ta tNil)) σ H (.int (es.length : Int)) := ev_len ha (sq_of hL)
def inL {α : Type} (tk : α → List Tx) (cl : Tx) : List α → List Tx
  | [] => [cl]
  | a :: r => tk a ++ tail tk cl r
theorem lst_in {α : Type} {tk : α → List Tx} {op cl : Tx} : ∀ {l : List α}, lst tk op cl l = op :: inL tk cl l
  | [] => rfl
  | _ :: _ => rfl
section
variable {P : Program} {w : World} {K : PySem.W.Frag} {mg : Str → Option Value} {base : Heap}
abbrev lstCx (P : Program) (w : World) (K : PySem.W.Frag) (mg : Str → Option Value) (base : Heap) (g : Addr) (cdv : Value) (A : Around) (outer : List Env) (s : Shared) (H : Hp) (E : XK) : Cx := (cxOf C8.CX0 P w K mg base n_read_list "read_list" (defScope s_read_list) g cdv A outer s H E).nox
theorem list_body (T : Txt w K mg) (c_Reader_word : C8.Met P w K mg base 1 (rc K) "word" (spWord K) []) (c_Reader_need : C8.Met P w K mg base 2 (rc K) "need" (spNeed K) []) {α : Type} {tk : α → List Tx} {py : α → PyData} {ok : α → Prop} {op cl : Tx} {fv : V} {r : Addr}
    {g : Addr} {cdv : Value} {A : Around} {outer : List Env} {s : Shared} {H : Hp} {E : XK} {j : Nat} (hr : Room j (A.deeper (envOfC "read_list" (defScope s_read_list) s.heap.objs.size g cdv))) (hj : 2 ≤ j) {te : TE}
    (act : ∀ p1 p2 p3 : Pos, PE (lstCx P w K mg base g cdv A outer s H E) (.Call (.Name "read_one" p1) [.Name "reader" p2] [] p3) te)
    (hte : ∀ x ts y H0, KR K r H H0 → ok x → Rv K r te [some (.ref r), some (vS op), some (vS cl), some fv, y] H0 (tk x ++ ts) ts (py x))
    (hok : ∀ x, ok x → ∃ a b, tk x = a :: b ∧ a ≠ cl) (hcl : cl ≠ [44]) :
    ∃ t, PSs (lstCx P w K mg base g cdv A outer s H E) (defBody s_read_list) t ∧ ∀ (l : List α) ts Q, (∀ x ∈ l, ok x) → l.length ≤ 100 → RAt K H r (lst tk op cl l ++ ts) → (∀ v H2, KR K r H H2 → RAt K H2 r ts → Dt H2 v (.tuple (l.map py)) → Q v H2) →
      t { nx := fun _ H' => Q .non H', rt := Q } (L2.start n_read_list [.ref r, vS op, vS cl, fv]) H := by
  have hr2 : Room 2 (A.deeper (envOfC "read_list" (defScope s_read_list) s.heap.objs.size g cdv)) := hr.mono hj
  refine (fun hr => ⟨_, (pss_cons (ps_expr (C8.pe_mt c_Reader_need hr (by decide) (pv 0) (pa_cons (pv 1) pa_nil)))
  (pss_cons (ps_set (i := 4) sc_read_list.nd rfl (Or.inl rfl) (pe_lst pa_nil))
  (Evl.pss_cut (ps_if (pt_cmpR op_ne (C8.pe_mt0 c_Reader_word hr (by decide) (pv 0)) (pv 2) (nomark _)) (pss_one (ps_expr (pe_bm PySem.F.plainAttrs_list PySem.F.slot_list_append PySem.F.type_list_append mt_append (pv 4) (pa_cons ((act _ _ _)) pa_nil)))) pss_nil)
  (pss_cons (ps_while PassesOwn.never (PW.pt (pw_and (pt_cmpR op_gt (pe_callB call_len_seq (by rfl) (T.free m_free_len) PySem.boot_len (pa_cons (pv 4) pa_nil)) pe_int (nomark _)) (pw_and1 (pt_cmpR op_eq (C8.pe_mt0 c_Reader_word hr (by decide) (pv 0)) pe_str (nomark _))))) (pss_cons (ps_expr (C8.pe_mt c_Reader_need hr (by decide) (pv 0) (pa_cons pe_str pa_nil)))
  (pss_one (ps_expr (pe_bm PySem.F.plainAttrs_list PySem.F.slot_list_append PySem.F.type_list_append mt_append (pv 4) (pa_cons ((act _ _ _)) pa_nil))))))
  (pss_cons (ps_expr (C8.pe_mt c_Reader_need hr (by decide) (pv 0) (pa_cons (pv 2) pa_nil)))
  (pss_one (ps_ret (pe_callTy call_tuple_of (by rfl) (T.free m_free_tuple) (by decide +kernel) (pa_cons (pv 4) pa_nil))))))))), ?_⟩ : Room 2 _ → _) hr2
  intro l ts Q hl hll h q
  rw [lst_in, List.cons_append] at h
  refine s_need (D := { nx := _, rt := Q, bk := _, ct := _ }) (ev_var rfl) (fun _ _ => ev_var rfl) h fun H1 k1 h1 => ?_
  refine q_asgL (el_lst ea_nil (Nat.zero_le _)) fun L H2 hL0 e2 hL => ?_
  have k2 := k1.trans (KR.ex (K := K) (r := r) e2)
  have h2 := h1.ex e2
  have hLH : Fre H L := k1.new L (fre_of hL0)
  have noL : L ≠ r := fun e => by
    obtain ⟨dx, fs, g1, _⟩ := rat_ins h1
    rw [← e, hL0] at g1
    cases g1
  refine q_cut (M := fun σ' H3 => ∃ dn rs es, dn ++ rs = l ∧ (dn = [] → rs = []) ∧ KR K r H H3 ∧ RAt K H3 r (tail tk cl rs ++ ts) ∧ H3 L = some (.lst es) ∧ DtA H3 es (dn.map py) ∧ σ' = [some (.ref r), some (vS op), some (vS cl), some fv, some (.ref L)]) ?_ fun σ' H3 ⟨dn, rs, es, hd, hn, k3, h3, hL3, hes, eσ⟩ => ?_
  · cases l with
    | nil =>
      have h2' : RAt K H2 r (cl :: ts) := h2
      refine s_when (b := false) (et_is (et_neS (ev_word (ev_var rfl) h2') (ev_var rfl)) (by simp)) (fun e => by cases e) fun _ H3 e3 => ?_
      exact ⟨[], [], [], rfl, fun _ => rfl, k2.trans (KR.ex e3), h2'.ex e3, e3 _ _ hL, .nil, rfl⟩
    | cons a rs =>
      have ha := hl a List.mem_cons_self
      obtain ⟨x, b, e1, e2'⟩ := hok a ha
      have h2' : RAt K H2 r (tk a ++ (tail tk cl rs ++ ts)) := by
        have := h2
        rw [inL, List.append_assoc] at this
        exact this
      have h2w : RAt K H2 r (x :: (b ++ (tail tk cl rs ++ ts))) := by
        have := h2'
        rw [e1] at this
        exact this
      refine s_when (b := true) (et_is (et_neS (ev_word (ev_var rfl) h2w) (ev_var rfl)) (by rw [List.headD_cons, decide_eq_false e2']; rfl)) (fun _ H3 e3 => ?_) fun e => by cases e
      have k3 := k2.trans (KR.ex (K := K) (r := r) e3)
      refine s_appR (ts0 := op :: (inL tk cl (a :: rs) ++ ts)) k3 hLH h (e3 _ _ hL) (by decide) (ev_var rfl) (h2'.ex e3) (hte a _ _ H3 k3 ha) fun v H4 k4 t4 h4 hL4 hd => ?_
      exact ⟨[a], rs, [v], rfl, (fun e => by cases e), k4, h4, hL4, .cons hd .nil, rfl⟩
  · subst eσ
    have hlen : dn.length + rs.length ≤ 100 := by
      rw [← List.length_append, hd]
      exact hll
    refine q_while (fun m σ' H4 => ∃ dn rs es, dn ++ rs = l ∧ (dn = [] → rs = []) ∧ m = rs.length ∧ KR K r H H4 ∧ RAt K H4 r (tail tk cl rs ++ ts) ∧ H4 L = some (.lst es) ∧ DtA H4 es (dn.map py) ∧ σ' = [some (.ref r), some (vS op), some (vS cl), some fv, some (.ref L)]) rs.length ⟨dn, rs, es, hd, hn, rfl, k3, h3, hL3, hes, rfl⟩ fun m σ' H4 ⟨dn, rs, es, hd, hn, hm, k4, h4, hL4, hes, eσ⟩ => ?_
    subst eσ
    have hel := hes.length
    rw [List.length_map] at hel
    have hlen : dn.length + rs.length ≤ 100 := by
      rw [← List.length_append, hd]
      exact hll
    cases rs with
    | nil =>
      have h4' : RAt K H4 r (cl :: ts) := h4
      refine ⟨false, et_is (et_and (b := false) (et_is (et_test (ev_op (ev_lenV (ev_var rfl) hL4) ev_c rv_I0)) rfl) fun _ => et_is (et_eqS (ev_word (ev_var rfl) h4') (ev_lit (L := [44]) lit)) (decide_eq_false hcl)) (Bool.and_false _), (fun e => by cases e), fun _ H5 e5 => ?_⟩
      refine s_need (D := { nx := _, rt := Q, bk := _, ct := _ }) (ev_var rfl) (fun _ _ => ev_var rfl) (h4'.ex e5) fun H6 k6 h6 => ?_
      have k56 := (KR.ex (K := K) (r := r) e5).trans k6
      refine ev_tupleL (ev_var rfl) (k56.other L _ noL noTb_lst hL4) fun p H7 e7 hp => ?_
      have k7 := k4.trans (k56.trans (KR.ex e7))
      rw [List.append_nil] at hd
      subst hd
      exact q _ H7 k7 (h6.ex e7) (.tup hp (hes.kt (k56.trans (KR.ex e7)).tups))
    | cons a rs =>
      have ha := hl a (by rw [← hd]; simp)
      have hdn : dn ≠ [] := fun e => by
        have := hn e
        cases this
      have hpos : dn.length ≠ 0 := fun e => hdn (List.eq_nil_of_length_eq_zero e)
      have h4' : RAt K H4 r ([44] :: (tk a ++ (tail tk cl rs ++ ts))) := by
        have := h4
        rw [tail, List.cons_append, List.cons_append, List.append_assoc] at this
        exact this
      refine ⟨true, et_is (et_and (et_is (et_test (ev_op (ev_lenV (ev_var rfl) hL4) ev_c rv_I0)) rfl) fun _ => et_is (et_eqS (ev_word (ev_var rfl) h4') (ev_lit (L := [44]) lit)) (decide_eq_true rfl)) ?_, fun _ H5 e5 => ?_, (fun e => by cases e)⟩
      · rw [hel, Bool.and_true]
        exact decide_eq_true (by omega)
      refine ⟨fun σ2 H6 => ∃ dn rs' es, dn ++ rs' = l ∧ (dn = [] → rs' = []) ∧ rs'.length < (a :: rs).length ∧ KR K r H H6 ∧ RAt K H6 r (tail tk cl rs' ++ ts) ∧ H6 L = some (.lst es) ∧ DtA H6 es (dn.map py) ∧ σ2 = [some (.ref r), some (vS op), some (vS cl), some fv, some (.ref L)], fun σ2 H6 ⟨dn, rs', es, g1, g2, g3, g4, g5, g6, g7, g8⟩ => ⟨rs'.length, by rw [hm]; exact g3, dn, rs', es, g1, g2, rfl, g4, g5, g6, g7, g8⟩, ?_⟩
      refine s_need (D := { nx := _, rt := Q, bk := _, ct := _ }) (ev_var rfl) (fun _ _ => ev_lit lit) (h4'.ex e5) fun H6 k6 h6 => ?_
      have k56 := (KR.ex (K := K) (r := r) e5).trans k6
      have k06 := k4.trans k56
      refine s_appR (ts0 := op :: (inL tk cl l ++ ts)) k06 hLH h (k56.other L _ noL noTb_lst hL4) (by omega) (ev_var rfl) h6 (hte a _ _ H6 k06 ha) fun v H7 k7 t7 h7 hL7 hdv => ?_
      refine ⟨dn ++ [a], rs, es ++ [v], (by rw [← hd]; simp), (fun e => by simp at e), Nat.lt_succ_self _, k7, h7, hL7, ?_, rfl⟩
      rw [List.map_append]
      exact DtA.app ((hes.kt k56.tups).kt t7) (.cons hdv .nil)
def spList (K : PySem.W.Frag) (fv : V) {α : Type} (tk : α → List Tx) (py : α → PyData) (ok : α → Prop) (op cl : Tx) : Sp := fun vs H Q _ => ∃ (r : Addr) (l : List α) (ts : List Tx), vs = [.ref r, vS op, vS cl, fv] ∧ (∀ x ∈ l, ok x) ∧ l.length ≤ 100 ∧ RAt K H r (lst tk op cl l ++ ts) ∧
  ∀ v H2, KR K r H H2 → RAt K H2 r ts → Dt H2 v (.tuple (l.map py)) → Q v H2
theorem len_list {fv : V} {α : Type} {tk : α → List Tx} {py : α → PyData} {ok : α → Prop} {op cl : Tx} (vs : List V) (H : Hp) (Q : VK) (E : XK) (h : spList K fv tk py ok op cl vs H Q E) : vs.length = 4 := by
  obtain ⟨r, l, ts, rfl, _⟩ := h
  rfl
/-- read_list by a def of the module -/
theorem ok_list_def (T : Txt w K mg) (c_Reader_word : C8.Met P w K mg base 1 (rc K) "word" (spWord K) []) (c_Reader_need : C8.Met P w K mg base 2 (rc K) "need" (spNeed K) []) {x : Str} {α : Type} {tk : α → List Tx} {py : α → PyData} {ok : α → Prop} {op cl : Tx}
    (c : C8.Cal P w K mg base 3 x (spRd K tk py (fun a _ => ok a)) []) (hx : mg x = some (.ref (He.ga K x))) (hok : ∀ x, ok x → ∃ a b, tk x = a :: b ∧ a ≠ cl) (hcl : cl ≠ [44]) : C8.Cal P w K mg base 4 "read_list" (spList K (.ref (He.ga K x)) tk py ok op cl) [] := by
  obtain ⟨f, fd, ps, ds, F, hm, kp, b, d⟩ := c.ex
  have e : f = He.ga K x := by
    rw [hx] at hm
    injection hm with hm
    injection hm with hm
    exact hm.symm
  subst e
  refine T.cal m_def_read_list m_glo_read_list sc_read_list bi_read_list len_list (fun cdv A outer s H vs Q E hr h => ?_)
  obtain ⟨r, l, ts, rfl, hl, hll, h, q⟩ := h
  obtain ⟨t, h1, h2⟩ := list_body (op := op) (cl := cl) (fv := .ref (He.ga K x)) (r := r) (tk := tk) (py := py) (ok := ok) T c_Reader_word c_Reader_need hr (by decide) (fun p1 p2 p3 => pe_callL (E := C8.E0) (i := 3) (x := "read_one") F hr rfl (Or.inl rfl) kp b d C8.pass0 (pa_cons (pv 0) pa_nil)) (fun y ts' z H0 k0 hy H1 k1 h1 Q' q' => ⟨rfl, _, rfl, _, rfl, r, y, ts', rfl, hy, h1, q'⟩) hok hcl
  exact ⟨t, h1, h2 l ts Q hl hll h q⟩
theorem rv_list {r : Addr} {σ : L2.St} {H0 : Hp} {ta tb tc td : TE} {ts : List Tx} {E : XK} {fv : V} {α : Type} {tk : α → List Tx} {py : α → PyData} {ok : α → Prop} {op cl : Tx} {l : List α} (ha : ∀ H, Ev ta σ H (.ref r)) (hb : ∀ H, Ev tb σ H (vS op)) (hc : ∀ H, Ev tc σ H (vS cl)) (hd : ∀ H, Ev td σ H fv) (hl : ∀ x ∈ l, ok x) (hz : l.length ≤ 100) :
    Rv K r (tCall (spList K fv tk py ok op cl) [] E (tCons ta (tCons tb (tCons tc (tCons td tNil))))) σ H0 (lst tk op cl l ++ ts) ts (.tuple (l.map py)) := fun H1 k1 h1 Q q => ha H1 H1 (Ex.refl H1) _ fun H2 e2 => hb H2 H2 (Ex.refl H2) _ fun H3 e3 => hc H3 H3 (Ex.refl H3) _ fun H4 e4 => hd H4 H4 (Ex.refl H4) _ fun H5 e5 => by
  have e := e2.trans (e3.trans (e4.trans e5))
  exact ⟨r, l, ts, rfl, hl, hz, h1.ex e, fun v H6 k6 h6 hd => q v H6 ((KR.ex e).trans k6) h6 hd⟩
/-! ### read_args -/
def spArgsR (K : PySem.W.Frag) : Sp := Pr2 fun s n H Q => ∃ (r : Addr) (l : List Opd) (ts : List Tx), s = .ref r ∧ n = .int (l.length : Int) ∧ (∀ x ∈ l, OpdOk x) ∧ l.length ≤ 100 ∧ RAt K H r (com l ++ ts) ∧ ∀ v H2, KR K r H H2 → RAt K H2 r ts → Dt H2 v (argsPy l) → Q v H2
def comT (l : List Opd) : List Tx := l.flatMap fun b => [[44], b.tk]
theorem rv_args {r : Addr} {σ : L2.St} {H0 : Hp} {ta tb : TE} {ts : List Tx} {E : XK} {l : List Opd} (ha : ∀ H, Ev ta σ H (.ref r)) (hb : ∀ H, Ev tb σ H (.int (l.length : Int))) (hl : ∀ x ∈ l, OpdOk x) (hz : l.length ≤ 100) :
    Rv K r (tCall (spArgsR K) [] E (tCons ta (tCons tb tNil))) σ H0 (com l ++ ts) ts (argsPy l) := fun H1 k1 h1 Q q => ha H1 H1 (Ex.refl H1) _ fun H2 e2 => hb H2 H2 (Ex.refl H2) _ fun H3 e3 => by
  have e := e2.trans e3
  exact ⟨_, _, rfl, r, l, ts, rfl, rfl, hl, hz, h1.ex e, fun v H6 k6 h6 hd => q v H6 ((KR.ex e).trans k6) h6 hd⟩
theorem ok_read_args (T : Txt w K mg) (c_Reader_need : C8.Met P w K mg base 2 (rc K) "need" (spNeed K) []) (c_read_operand : C8.Cal P w K mg base 3 "read_operand" (spOpdR K) []) : C8.Cal P w K mg base 4 "read_args" (spArgsR K) [] := by
  refine T.cal m_def_read_args m_glo_read_args sc_read_args bi_read_args len2 (fun cdv A outer s H vs Q E hr h => ?_)
  obtain ⟨v, v2, rfl, r, l, ts, rfl, rfl, hl, hll, h, q⟩ := h
  refine ⟨_, (pss_cons (ps_set (i := 2) sc_read_args.nd rfl (Or.inl rfl) (pe_lst pa_nil))
  (pss_cons (ps_while PassesOwn.never (pt_cmpR op_lt (pe_callB call_len_seq (by rfl) (T.free m_free_len) PySem.boot_len (pa_cons (pv 2) pa_nil)) (pv 1) (nomark _)) (Evl.pss_cut (ps_if (pt_cmpR op_gt (pe_callB call_len_seq (by rfl) (T.free m_free_len) PySem.boot_len (pa_cons (pv 2) pa_nil)) pe_int (nomark _)) (pss_one (ps_expr (C8.pe_mt c_Reader_need hr (by decide) (pv 0) (pa_cons pe_str pa_nil)))) pss_nil)
  (pss_one (ps_expr (pe_bm PySem.F.plainAttrs_list PySem.F.slot_list_append PySem.F.type_list_append mt_append (pv 2) (pa_cons (C8.pe_c c_read_operand hr (by decide) (by rfl) (pa_cons (pv 0) pa_nil)) pa_nil))))))
  (pss_one (ps_ret (pe_callTy call_tuple_of (by rfl) (T.free m_free_tuple) (by decide +kernel) (pa_cons (pv 2) pa_nil)))))), ?_⟩
  refine q_asgL (el_lst ea_nil (Nat.zero_le _)) fun L H1 hL0 e1 hL1 => ?_
  have noL : L ≠ r := fun e => by
    obtain ⟨dx, fs, g1, _⟩ := rat_ins h
    rw [← e, hL0] at g1
    cases g1
  refine q_while (fun m σ' H3 => ∃ dn rs es, dn ++ rs = l ∧ m = rs.length ∧ KR K r H H3 ∧ RAt K H3 r ((if dn = [] then com rs else comT rs) ++ ts) ∧ H3 L = some (.lst es) ∧ DtA H3 es (dn.map Opd.py) ∧ σ' = [some (.ref r), some (.int (l.length : Int)), some (.ref L)]) l.length ⟨[], l, [], rfl, rfl, KR.ex e1, h.ex e1, hL1, .nil, rfl⟩ fun m σ' H3 ⟨dn, rs, es, hd, hm, k3, h3, hL3, hes, eσ⟩ => ?_
  subst eσ
  have hel := hes.length
  rw [List.length_map] at hel
  have hlen : dn.length + rs.length = l.length := by rw [← List.length_append, hd]
  refine ⟨_, et_ltI (ev_lenV (ev_var rfl) hL3) (ev_var rfl), fun hb H4 e4 => ?_, fun hb H4 e4 => ?_⟩
  · have hb' := of_decide_eq_true hb
    cases rs with
    | nil =>
      simp only [List.length_nil] at hlen
      omega
    | cons a rs =>
      have ha := hl a (by rw [← hd]; simp)
      refine ⟨fun σ2 H6 => ∃ dn rs' es, dn ++ rs' = l ∧ rs'.length < (a :: rs).length ∧ KR K r H H6 ∧ RAt K H6 r ((if dn = [] then com rs' else comT rs') ++ ts) ∧ H6 L = some (.lst es) ∧ DtA H6 es (dn.map Opd.py) ∧ σ2 = [some (.ref r), some (.int (l.length : Int)), some (.ref L)], fun σ2 H6 ⟨dn, rs', es, g1, g3, g4, g5, g6, g7, g8⟩ => ⟨rs'.length, by rw [hm]; exact g3, dn, rs', es, g1, rfl, g4, g5, g6, g7, g8⟩, ?_⟩
      refine q_cut (M := fun σ2 H5 => KR K r H3 H5 ∧ RAt K H5 r (a.tk :: (comT rs ++ ts)) ∧ σ2 = [some (.ref r), some (.int (l.length : Int)), some (.ref L)]) ?_ fun σ2 H5 ⟨k5, h5, e5⟩ => ?_
      · cases dn with
        | nil =>
          refine s_when (b := false) (et_is (et_test (ev_op (ev_lenV (ev_var rfl) (e4 _ _ hL3)) ev_c rv_I0)) (decide_eq_false (by rw [hel]; decide))) (fun e => by cases e) fun _ H5 e5 => ?_
          exact ⟨KR.ex (e4.trans e5), h3.ex (e4.trans e5), rfl⟩
        | cons d0 dn =>
          have h3' : RAt K H3 r ([44] :: a.tk :: (comT rs ++ ts)) := h3
          refine s_when (b := true) (et_is (et_test (ev_op (ev_lenV (ev_var rfl) (e4 _ _ hL3)) ev_c rv_I0)) (decide_eq_true (by rw [hel, List.length_cons]; omega))) (fun _ H5 e5 => ?_) fun e => by cases e
          refine s_need (ev_var rfl) (fun _ _ => ev_lit lit) (h3'.ex (e4.trans e5)) fun H6 k6 h6 => ?_
          exact ⟨(KR.ex (e4.trans e5)).trans k6, h6, rfl⟩
      · subst e5
        have k05 := k3.trans k5
        refine s_appR (ts0 := com l ++ ts) k05 (fre_of hL0) h (k5.other L _ noL noTb_lst hL3) (by omega) (ev_var rfl) h5 (rv_rd (tk := fun o : Opd => [o.tk]) (fun _ => ev_var rfl) ha) fun v H7 k7 t7 h7 hL7 hdv => ?_
        refine ⟨dn ++ [a], rs, es ++ [v], (by rw [← hd]; simp), Nat.lt_succ_self _, k7, ?_, hL7, ?_, rfl⟩
        · rw [if_neg (by simp)]
          exact h7
        · rw [List.map_append]
          exact DtA.app ((hes.kt k5.tups).kt t7) (.cons hdv .nil)
  · have hb' := of_decide_eq_false hb
    obtain rfl : rs = [] := List.eq_nil_of_length_eq_zero (by omega)
    have h3' : RAt K H3 r ts := by
      by_cases e : dn = []
      · rw [if_pos e] at h3
        exact h3
      · rw [if_neg e] at h3
        exact h3
    refine ev_tupleL (ev_var rfl) (e4 _ _ hL3) fun p H7 e7 hp => ?_
    have e47 := e4.trans e7
    rw [List.append_nil] at hd
    subst hd
    exact q _ H7 (k3.trans (KR.ex e47)) (h3'.ex e47) (.tup hp (hes.kt (KT.ex e47)))
end
end K6
/-! K6D3: reading targets, ops, endings. -/
namespace K6
open PySem PySem.Spec PyProof.Rows L2 Evl
theorem opd_ne {o : Opd} (c : Nat) (hc : (decide (c = 36) || decide (c = 64) || (decide (48 ≤ c) && decide (c ≤ 57))) = false) (x : Tx) : o.tk ≠ c :: x := fun e => by
  simp only [Bool.or_eq_false_iff, Bool.and_eq_false_iff, decide_eq_false_iff_not] at hc
  cases o with
  | v i =>
    injection e with e1 _
    exact hc.1.1 e1.symm
  | n i =>
    obtain ⟨d, y, e2, h1, h2⟩ := num_fst (n := i)
    have e' : num i = c :: x := e
    rw [e2] at e'
    injection e' with e1 _
    subst e1
    rcases hc.2 with z | z
    · exact z h1
    · exact z h2
  | g y =>
    injection e with e1 _
    exact hc.1.2 e1.symm
theorem opd_close : ∀ o : Opd, OpdOk o → ∃ a b, [o.tk] = a :: b ∧ a ≠ [41] := fun o _ => ⟨_, _, rfl, opd_ne 41 (by decide) []⟩
section
variable {P : Program} {w : World} {K : PySem.W.Frag} {mg : Str → Option Value} {base : Heap}
theorem Txt.count (T : Txt w K mg) (W : Told K) {x : Str} {n : Int} (h : (x, He.Dv.int n) ∈ v_ARG_COUNTS) : KDct K w (He.ga K "ARG_COUNTS") x (.int n) := by
  obtain ⟨es, m, k⟩ := T.t.tab 0
  obtain ⟨u, h1, h2⟩ := He.valsB_ok W.counts h
  exact ⟨es, m, u, k.at_, k.lit, h1, h2⟩
abbrev spListO (K : PySem.W.Frag) : Sp := spList K (.ref (He.ga K "read_operand")) (fun o : Opd => [o.tk]) Opd.py OpdOk [40] [41]
abbrev spTgtR (K : PySem.W.Frag) : Sp := spRd K Tgt.tks Tgt.py (fun t _ => TgtOk t)
theorem ok_read_target (T : Txt w K mg) (c_Reader_number : C8.Met P w K mg base 2 (rc K) "number" (spNumber K) []) (c_read_list : C8.Cal P w K mg base 4 "read_list" (spListO K) []) : C8.Cal P w K mg base 5 "read_target" (spTgtR K) [] := by
  refine T.cal m_def_read_target m_glo_read_target sc_read_target bi_read_target len1 (fun cdv A outer s H vs Q E hr h => ?_)
  obtain ⟨v, rfl, r, o, ts, rfl, ho, h, q⟩ := h
  refine ⟨_, (pss_cons (ps_set (i := 1) sc_read_target.nd rfl (Or.inl rfl) (C8.pe_mt c_Reader_number hr (by decide) (pv 0) (pa_cons pe_str (pa_cons (C8.pe_gc (by rfl) (T.int m_int_BOUND)) pa_nil))))
  (pss_one (ps_ret (pe_tup (pa_cons (pv 1) (pa_cons (C8.pe_c c_read_list hr (by decide) (by rfl) (pa_cons (pv 0) (pa_cons pe_str (pa_cons pe_str (pa_cons (C8.pe_gc (by rfl) (T.gv m_glo_read_operand)) pa_nil))))) pa_nil)))))), ?_⟩
  exact (rvs_asg (d1 := nt o.lab) (rv_number (mk := [98]) (bnd := bound64) (fun _ => ev_var rfl) (fun _ => ev_lit lit) (fun _ => ev_c) (by decide) ho.lab ho.lab) (fun v H2 k2 hd => rvs_ret (rv_tup (rva_cons (rv_var rfl hd) (rva_cons (rv_list (l := o.args) (fun _ => ev_var rfl) (fun _ => ev_lit lit) (fun _ => ev_lit lit) (fun _ => ev_c) ho.args.2 (Nat.le_trans ho.args.1 (by decide))) rva_nil)) rfl)) : RvS K r _ _ H (labTk o.lab :: (argsTk o.args ++ ts)) ts o.py) _ H (KR.refl r H) h q
def spCallR (K : PySem.W.Frag) : Sp := Pr2 fun s m H Q => ∃ (r : Addr) (mo : Option Nat) (name : Tx) (args : List Opd) (ts : List Tx), s = .ref r ∧ m = optV mo ∧ NameOk name ∧ ArgsOk 3 args ∧ RAt K H r ((64 :: name) :: (argsTk args ++ ts)) ∧ ∀ v H2, KR K r H H2 → RAt K H2 r ts → Dt H2 v (Op.py (.call mo name args)) → Q v H2
theorem ok_read_call (T : Txt w K mg) (c_Reader_name : C8.Met P w K mg base 2 (rc K) "name" (spNameM K) []) (c_read_list : C8.Cal P w K mg base 4 "read_list" (spListO K) []) : C8.Cal P w K mg base 5 "read_call" (spCallR K) [] := by
  refine T.cal m_def_read_call m_glo_read_call sc_read_call bi_read_call len2 (fun cdv A outer s H vs Q E hr h => ?_)
  obtain ⟨v, v2, rfl, r, mo, name, args, ts, rfl, rfl, hn, hA, h, q⟩ := h
  refine ⟨_, (pss_cons (ps_set (i := 2) sc_read_call.nd rfl (Or.inl rfl) (C8.pe_mt0 c_Reader_name hr (by decide) (pv 0)))
  (pss_one (ps_ret (pe_tup (pa_cons (pv 1) (pa_cons pe_str (pa_cons (pe_tup (pa_cons (pv 2) pa_nil)) (pa_cons (C8.pe_c c_read_list hr (by decide) (by rfl) (pa_cons (pv 0) (pa_cons pe_str (pa_cons pe_str (pa_cons (C8.pe_gc (by rfl) (T.gv m_glo_read_operand)) pa_nil))))) pa_nil)))))))), ?_⟩
  exact (rvs_asg (d1 := tx name) (rv_name (fun _ => ev_var rfl) hn) (fun v H2 k2 hd => rvs_ret (rv_tup (rva_cons (rv_var rfl dt_opt) (rva_cons (rv_s (a := kCall) lit) (rva_cons (rv_tup (rva_cons (rv_var rfl hd) rva_nil) rfl) (rva_cons (rv_list (l := args) (fun _ => ev_var rfl) (fun _ => ev_lit lit) (fun _ => ev_lit lit) (fun _ => ev_c) hA.2 (Nat.le_trans hA.1 (by decide))) rva_nil)))) rfl)) : RvS K r _ _ H ((64 :: name) :: (argsTk args ++ ts)) ts (Op.py (.call mo name args))) _ H (KR.refl r H) h q
def spCastR (K : PySem.W.Frag) : Sp := Pr3 fun s m k H Q => ∃ (r : Addr) (x : Nat) (kd : Tx) (v w : Nat) (a : Opd) (ts : List Tx), s = .ref r ∧ m = .int (x : Int) ∧ k = vS kd ∧ WdOk v ∧ WdOk w ∧ OpdOk a ∧ RAt K H r (Ty.tk (.w v) :: a.tk :: kTo :: Ty.tk (.w w) :: ts) ∧ ∀ u H2, KR K r H H2 → RAt K H2 r ts → Dt H2 u (Op.py (.cast x kd v w a)) → Q u H2
theorem ok_read_cast (T : Txt w K mg) (W : Told K) (c_Reader_one_of : C8.Met P w K mg base 2 (rc K) "one_of" (spOneOf K) []) (c_Reader_need : C8.Met P w K mg base 2 (rc K) "need" (spNeed K) []) (c_read_args : C8.Cal P w K mg base 4 "read_args" (spArgsR K) []) : C8.Cal P w K mg base 5 "read_cast" (spCastR K) [] := by
  refine T.cal m_def_read_cast m_glo_read_cast sc_read_cast bi_read_cast len3 (fun cdv A outer s H vs Q E hr h => ?_)
  obtain ⟨u, u2, u3, rfl, r, x, kd, v', w', a, ts, rfl, rfl, rfl, hv, hw, ha, h, q⟩ := h
  refine ⟨_, (pss_cons (ps_set (i := 3) sc_read_cast.nd rfl (Or.inl rfl) (C8.pe_mt c_Reader_one_of hr (by decide) (pv 0) (pa_cons (C8.pe_gc (by rfl) (T.gv m_glo_WIDTHS_TOLD)) pa_nil)))
  (pss_cons (ps_set (i := 4) sc_read_cast.nd rfl (Or.inl rfl) (C8.pe_c c_read_args hr (by decide) (by rfl) (pa_cons (pv 0) (pa_cons pe_int pa_nil))))
  (pss_cons (ps_expr (C8.pe_mt c_Reader_need hr (by decide) (pv 0) (pa_cons pe_str pa_nil)))
  (pss_one (ps_ret (pe_tup (pa_cons (pv 1) (pa_cons pe_str (pa_cons (pe_tup (pa_cons (pv 2) (pa_cons (pv 3) (pa_cons (C8.pe_mt c_Reader_one_of hr (by decide) (pv 0) (pa_cons (C8.pe_gc (by rfl) (T.gv m_glo_WIDTHS_TOLD)) pa_nil)) pa_nil)))) (pa_cons (pv 4) pa_nil)))))))))), ?_⟩
  exact (rvs_asg (d1 := nt v') (rv_width W (fun _ => ev_var rfl) hv) (fun v2 H2 k2 hd2 => rvs_asg (t1 := kTo :: Ty.tk (.w w') :: ts) (d1 := argsPy [a]) (rv_args (l := [a]) (fun _ => ev_var rfl) (fun _ => ev_c) (fun o ho => by rw [List.mem_singleton.mp ho]; exact ha) (by show 1 ≤ 100; omega)) (fun v3 H3 k3 hd3 => rvs_need (tk := kTo) (fun _ => ev_var rfl) (fun _ => ev_lit lit) (rvs_ret (rv_tup (rva_cons (rv_var rfl (.int _)) (rva_cons (rv_s (a := kCast) lit) (rva_cons (rv_tup (rva_cons (rv_var rfl (.str _)) (rva_cons (rv_var rfl (hd2.kt k3.tups)) (rva_cons (rv_width W (fun _ => ev_var rfl) hw) rva_nil))) rfl) (rva_cons (rv_var rfl hd3) rva_nil)))) rfl)))) : RvS K r _ _ H (Ty.tk (.w v') :: a.tk :: kTo :: Ty.tk (.w w') :: ts) ts (Op.py (.cast x kd v' w' a))) _ H (KR.refl r H) h q
def spAllocaR (K : PySem.W.Frag) : Sp := Pr2 fun s m H Q => ∃ (r : Addr) (x : Nat) (w size : Nat) (ts : List Tx), s = .ref r ∧ m = .int (x : Int) ∧ WdOk w ∧ NumOk size ∧ RAt K H r (Ty.tk (.w w) :: [44] :: num size :: ts) ∧ ∀ u H2, KR K r H H2 → RAt K H2 r ts → Dt H2 u (Op.py (.alloca x w size)) → Q u H2
theorem ok_read_alloca (T : Txt w K mg) (W : Told K) (c_Reader_one_of : C8.Met P w K mg base 2 (rc K) "one_of" (spOneOf K) []) (c_Reader_need : C8.Met P w K mg base 2 (rc K) "need" (spNeed K) []) (c_Reader_number : C8.Met P w K mg base 2 (rc K) "number" (spNumber K) []) : C8.Cal P w K mg base 5 "read_alloca" (spAllocaR K) [] := by
  refine T.cal m_def_read_alloca m_glo_read_alloca sc_read_alloca bi_read_alloca len2 (fun cdv A outer s H vs Q E hr h => ?_)
  obtain ⟨u, u2, rfl, r, x, w', size, ts, rfl, rfl, hw, hs, h, q⟩ := h
  refine ⟨_, (pss_cons (ps_set (i := 2) sc_read_alloca.nd rfl (Or.inl rfl) (C8.pe_mt c_Reader_one_of hr (by decide) (pv 0) (pa_cons (C8.pe_gc (by rfl) (T.gv m_glo_WIDTHS_TOLD)) pa_nil)))
  (pss_cons (ps_expr (C8.pe_mt c_Reader_need hr (by decide) (pv 0) (pa_cons pe_str pa_nil)))
  (pss_one (ps_ret (pe_tup (pa_cons (pv 1) (pa_cons pe_str (pa_cons (pe_tup (pa_cons (pv 2) (pa_cons (C8.pe_mt c_Reader_number hr (by decide) (pv 0) (pa_cons pe_str (pa_cons (C8.pe_gc (by rfl) (T.int m_int_BOUND)) pa_nil))) pa_nil))) (pa_cons (pe_tup pa_nil) pa_nil))))))))), ?_⟩
  exact (rvs_asg (d1 := nt w') (rv_width W (fun _ => ev_var rfl) hw) (fun v2 H2 k2 hd2 => rvs_need (tk := [44]) (fun _ => ev_var rfl) (fun _ => ev_lit lit) (rvs_ret (rv_tup (rva_cons (rv_var rfl (.int _)) (rva_cons (rv_s (a := kAlloca) lit) (rva_cons (rv_tup (rva_cons (rv_var rfl hd2) (rva_cons (rv_number (mk := []) (bnd := bound64) (fun _ => ev_var rfl) (fun _ => ev_lit lit) (fun _ => ev_c) (by decide) hs hs) rva_nil)) rfl) (rva_cons (rv_tup rva_nil rfl) rva_nil)))) rfl))) : RvS K r _ _ H (Ty.tk (.w w') :: [44] :: num size :: ts) ts (Op.py (.alloca x w' size))) _ H (KR.refl r H) h q
/-! ### read_deed -/
def spDeedR (K : PySem.W.Frag) : Sp := Pr2 fun s m H Q => ∃ (r : Addr) (x : Nat) (o : Op) (ts : List Tx), s = .ref r ∧ m = .int (x : Int) ∧ o.made = some x ∧ OpOk o ∧ RAt K H r (deedTks o ++ ts) ∧ ∀ u H2, KR K r H H2 → RAt K H2 r ts → Dt H2 u o.py → Q u H2
theorem et_inK {σ : L2.St} {H : Hp} {te : TE} {x : V} {l : List He.Dv} {n : Str} {b : Bool} (h : He.tupB K n l = true) (ha : Ev te σ H x) (hx : flatV x = true) (hf : ((l.map (He.Dv.v K)).all flatV && decide (inV x (l.map (He.Dv.v K)) = b)) = true) : EvT (tTest (tOp (rIn K false) te (tC (.ref (He.ga K n))))) σ H b := by
  rw [Bool.and_eq_true, decide_eq_true_eq] at hf
  exact et_is (et_test (ev_op ha ev_c (rv_isT (He.tupB_ok h _) hx hf.1))) hf.2
theorem et_niU {σ : L2.St} {H : Hp} {ta : TE} {tb : TA} {x : V} (xs : List V) {r : Bool} (ha : Ev ta σ H x) (hb : EvA tb σ H xs) (hx : flatV x = true) (e : (decide (xs.length ≤ 100) && xs.all flatV && decide (inV x xs = !r)) = true) : EvT (tTest (tOp (rIn K true) ta (tTup tb))) σ H r := by
  rw [Bool.and_eq_true, Bool.and_eq_true, decide_eq_true_eq, decide_eq_true_eq] at e
  exact et_is (et_test (ev_niU ha (eu_tup hb (by omega)) hx e.1.2)) (by rw [e.2, Bool.not_not])
abbrev deedL : List V := [.str "cmp", .str "select", .str "alloca", .str "at", .str "load", .str "input", .str "call"]
theorem ops_in {x : Tx} (h : x ∈ opsL) : (((v_OPS.map (He.Dv.v K)).all flatV && decide (inV (vS x) (v_OPS.map (He.Dv.v K)) = true)) = true) := by
  have : opsL.all (fun x => (((v_OPS.map fun d => match d with | .str y => V.str y | _ => .non).all flatV) && decide (inV (vS x) (v_OPS.map fun d => match d with | .str y => V.str y | _ => .non) = true))) = true := by decide +kernel
  exact List.all_eq_true.mp this x h
theorem ops_out {x : Tx} (h : x ∈ castL ++ [kCmp, kSel, kAlloca, kAt, kLoad, kInput, kCall]) : (((v_OPS.map (He.Dv.v K)).all flatV && decide (inV (vS x) (v_OPS.map (He.Dv.v K)) = false)) = true) := by
  have : (castL ++ [kCmp, kSel, kAlloca, kAt, kLoad, kInput, kCall]).all (fun x => (((v_OPS.map fun d => match d with | .str y => V.str y | _ => .non).all flatV) && decide (inV (vS x) (v_OPS.map fun d => match d with | .str y => V.str y | _ => .non) = false))) = true := by decide +kernel
  exact List.all_eq_true.mp this x h
theorem casts_in {x : Tx} (h : x ∈ castL) : (((v_CASTS.map (He.Dv.v K)).all flatV && decide (inV (vS x) (v_CASTS.map (He.Dv.v K)) = true)) = true) := by
  have : castL.all (fun x => (((v_CASTS.map fun d => match d with | .str y => V.str y | _ => .non).all flatV) && decide (inV (vS x) (v_CASTS.map fun d => match d with | .str y => V.str y | _ => .non) = true))) = true := by decide +kernel
  exact List.all_eq_true.mp this x h
theorem casts_out {x : Tx} (h : x ∈ [kCmp, kSel, kAlloca, kAt, kLoad, kInput, kCall]) : (((v_CASTS.map (He.Dv.v K)).all flatV && decide (inV (vS x) (v_CASTS.map (He.Dv.v K)) = false)) = true) := by
  have : [kCmp, kSel, kAlloca, kAt, kLoad, kInput, kCall].all (fun x => (((v_CASTS.map fun d => match d with | .str y => V.str y | _ => .non).all flatV) && decide (inV (vS x) (v_CASTS.map fun d => match d with | .str y => V.str y | _ => .non) = false))) = true := by decide +kernel
  exact List.all_eq_true.mp this x h
theorem deed_in {x : Tx} (h : x ∈ [kCmp, kSel, kAlloca, kAt, kLoad, kInput, kCall]) : (decide (deedL.length ≤ 100) && deedL.all flatV && decide (inV (vS x) deedL = !false)) = true := by
  have : [kCmp, kSel, kAlloca, kAt, kLoad, kInput, kCall].all (fun x => decide (deedL.length ≤ 100) && deedL.all flatV && decide (inV (vS x) deedL = !false)) = true := by decide +kernel
  exact List.all_eq_true.mp this x h
theorem dt_args {H : Hp} {v : V} {l : List Opd} (h : Dt H v (argsPy l)) : Dt H v (argsPy l) := h
theorem ok_read_deed (T : Txt w K mg) (W : Told K) (c_Reader_word : C8.Met P w K mg base 1 (rc K) "word" (spWord K) []) (c_Reader_need : C8.Met P w K mg base 2 (rc K) "need" (spNeed K) []) (c_Reader_one_of : C8.Met P w K mg base 2 (rc K) "one_of" (spOneOf K) []) (c_read_args : C8.Cal P w K mg base 4 "read_args" (spArgsR K) [])
    (c_read_cast : C8.Cal P w K mg base 5 "read_cast" (spCastR K) []) (c_read_call : C8.Cal P w K mg base 5 "read_call" (spCallR K) []) (c_read_alloca : C8.Cal P w K mg base 5 "read_alloca" (spAllocaR K) []) : C8.Cal P w K mg base 6 "read_deed" (spDeedR K) [] := by
  refine T.cal m_def_read_deed m_glo_read_deed sc_read_deed bi_read_deed len2 (fun cdv A outer s H vs Q E hr h => ?_)
  obtain ⟨u, u2, rfl, r, x, o, ts, rfl, rfl, hm, ho, h, q⟩ := h
  refine ⟨_, (pss_cons (ps_set (i := 2) sc_read_deed.nd rfl (Or.inl rfl) (C8.pe_mt0 c_Reader_word hr (by decide) (pv 0)))
  (pss_cons (ps_if (pt_cmpR op_in_seq (pv 2) (C8.pe_gc (by rfl) (T.gv m_glo_OPS)) (by rfl)) (pss_cons (ps_expr (C8.pe_mt c_Reader_need hr (by decide) (pv 0) (pa_cons (pv 2) pa_nil)))
  (pss_one (ps_ret (pe_tup (pa_cons (pv 1) (pa_cons pe_str (pa_cons (pe_tup (pa_cons (pv 2) (pa_cons (C8.pe_mt c_Reader_one_of hr (by decide) (pv 0) (pa_cons (C8.pe_gc (by rfl) (T.gv m_glo_WIDTHS_TOLD)) pa_nil)) pa_nil))) (pa_cons (C8.pe_c c_read_args hr (by decide) (by rfl) (pa_cons (pv 0) (pa_cons pe_int pa_nil))) pa_nil)))))))) pss_nil)
  (pss_cons (ps_if (pt_cmpR op_in_seq (pv 2) (C8.pe_gc (by rfl) (T.gv m_glo_CASTS)) (by rfl)) (pss_cons (ps_expr (C8.pe_mt c_Reader_need hr (by decide) (pv 0) (pa_cons (pv 2) pa_nil)))
  (pss_one (ps_ret (C8.pe_c c_read_cast hr (by decide) (by rfl) (pa_cons (pv 0) (pa_cons (pv 1) (pa_cons (pv 2) pa_nil))))))) pss_nil)
  (pss_cons (ps_if (pt_cmpR op_notIn_seq (pv 2) (pe_tup (pa_cons pe_str (pa_cons pe_str (pa_cons pe_str (pa_cons pe_str (pa_cons pe_str (pa_cons pe_str (pa_cons pe_str pa_nil)))))))) (by rfl)) (pss_one ps_never) pss_nil)
  (pss_cons (ps_expr (C8.pe_mt c_Reader_need hr (by decide) (pv 0) (pa_cons (pv 2) pa_nil)))
  (pss_cons (ps_if (pt_cmpR op_eq (pv 2) pe_str (nomark _)) (pss_one (ps_ret (C8.pe_c c_read_call hr (by decide) (by rfl) (pa_cons (pv 0) (pa_cons (pv 1) pa_nil))))) pss_nil)
  (pss_cons (ps_if (pt_cmpR op_eq (pv 2) pe_str (nomark _)) (pss_one (ps_ret (C8.pe_c c_read_alloca hr (by decide) (by rfl) (pa_cons (pv 0) (pa_cons (pv 1) pa_nil))))) pss_nil)
  (pss_cons (ps_if (pt_cmpR op_eq (pv 2) pe_str (nomark _)) (pss_cons (ps_set (i := 3) sc_read_deed.nd rfl (Or.inl rfl) (C8.pe_mt c_Reader_one_of hr (by decide) (pv 0) (pa_cons (C8.pe_gc (by rfl) (T.gv m_glo_PREDS_TOLD)) pa_nil)))
  (pss_one (ps_ret (pe_tup (pa_cons (pv 1) (pa_cons pe_str (pa_cons (pe_tup (pa_cons (pv 3) (pa_cons (C8.pe_mt c_Reader_one_of hr (by decide) (pv 0) (pa_cons (C8.pe_gc (by rfl) (T.gv m_glo_WIDTHS_TOLD)) pa_nil)) pa_nil))) (pa_cons (C8.pe_c c_read_args hr (by decide) (by rfl) (pa_cons (pv 0) (pa_cons pe_int pa_nil))) pa_nil)))))))) pss_nil)
  (pss_cons (ps_set (i := 4) sc_read_deed.nd rfl (Or.inl rfl) (C8.pe_mt c_Reader_one_of hr (by decide) (pv 0) (pa_cons (pe_ifExp (pt_cmpR op_eq (pv 2) pe_str (nomark _)) (C8.pe_gc (by rfl) (T.gv m_glo_TYPES_TOLD)) (C8.pe_gc (by rfl) (T.gv m_glo_WIDTHS_TOLD))) pa_nil)))
  (pss_one (ps_ret (pe_tup (pa_cons (pv 1) (pa_cons (pv 2) (pa_cons (pe_tup (pa_cons (pv 4) pa_nil)) (pa_cons (C8.pe_c c_read_args hr (by decide) (by rfl) (pa_cons (pv 0) (pa_cons (pe_ix ix_kdict (C8.pe_gc (by rfl) (T.gv m_glo_ARG_COUNTS)) (pv 2) (fun _ _ => rfl)) pa_nil))) pa_nil)))))))))))))))), ?_⟩
  refine (?_ : RvS K r _ _ H (deedTks o ++ ts) ts o.py) _ H (KR.refl r H) h q
  have hA := op_args ho
  have two : ∀ a b : Opd, OpdOk a → OpdOk b → ∀ o ∈ [a, b], OpdOk o := fun a b ha hb o hm => by
    rcases List.mem_cons.mp hm with rfl | hm
    · exact ha
    · rw [List.mem_singleton.mp hm]
      exact hb
  cases o with
  | bin x' op w' a b =>
    obtain rfl : x' = x := Option.some.inj hm
    refine rvs_asgV (v := vS op) (fun H1 _ h1 => ev_word (ts := op :: (Ty.tk (.w w') :: com [a, b] ++ ts)) (ev_var rfl) h1) (rvs_y (fun H1 _ _ => et_inK W.ops (ev_var rfl) rfl (ops_in ho.2.1)) (rvs_need (tk := op) (ts := Ty.tk (.w w') :: (com [a, b] ++ ts)) (fun _ => ev_var rfl) (fun _ => ev_var rfl) (rvs_ret (rv_tup (rva_cons (rv_var rfl (.int _)) (rva_cons (rv_s (a := kBin) lit) (rva_cons (rv_tup (rva_cons (rv_var rfl (.str _)) (rva_cons (rv_width W (fun _ => ev_var rfl) ho.2.2.1) rva_nil)) rfl) (rva_cons (rv_args (l := [a, b]) (fun _ => ev_var rfl) (fun _ => ev_c) (two a b ho.2.2.2.1 ho.2.2.2.2) (by show 2 ≤ 100; omega)) rva_nil)))) rfl))))
  | cast x' kd v' w' a =>
    obtain rfl : x' = x := Option.some.inj hm
    refine rvs_asgV (v := vS kd) (fun H1 _ h1 => ev_word (ts := kd :: (Ty.tk (.w v') :: a.tk :: kTo :: [Ty.tk (.w w')] ++ ts)) (ev_var rfl) h1) (rvs_n (fun H1 _ _ => et_inK W.ops (ev_var rfl) rfl (ops_out (List.mem_append_left _ ho.2.1))) (rvs_y (fun H1 _ _ => et_inK W.casts (ev_var rfl) rfl (casts_in ho.2.1)) (rvs_need (tk := kd) (ts := Ty.tk (.w v') :: a.tk :: kTo :: Ty.tk (.w w') :: ts) (fun _ => ev_var rfl) (fun _ => ev_var rfl) (rvs_ret fun H1 k1 h1 Q q => ⟨_, rfl, _, rfl, _, rfl, _, _, _, rfl, r, x', kd, v', w', a, ts, rfl, rfl, rfl, ho.2.2.1, ho.2.2.2.1, ho.2.2.2.2, h1, q⟩))))
  | cmp x' pr w' a b =>
    obtain rfl : x' = x := Option.some.inj hm
    refine rvs_asgV (v := vS kCmp) (fun H1 _ h1 => ev_word (ts := kCmp :: (pr :: Ty.tk (.w w') :: com [a, b] ++ ts)) (ev_var rfl) h1) (rvs_n (fun H1 _ _ => et_inK W.ops (ev_var rfl) rfl (ops_out (by decide))) (rvs_n (fun H1 _ _ => et_inK W.casts (ev_var rfl) rfl (casts_out (by decide))) (rvs_n (fun H1 _ _ => et_niU deedL (ev_var rfl) (ea_cons ev_c (ea_cons ev_c (ea_cons ev_c (ea_cons ev_c (ea_cons ev_c (ea_cons ev_c (ea_cons ev_c ea_nil))))))) rfl (deed_in (by decide)))
      (rvs_need (tk := kCmp) (ts := pr :: Ty.tk (.w w') :: (com [a, b] ++ ts)) (fun _ => ev_var rfl) (fun _ => ev_var rfl) (rvs_n (fun H1 _ _ => et_SK (a := kCmp) (ev_var rfl) ev_c (by decide +kernel)) (rvs_n (fun H1 _ _ => et_SK (a := kCmp) (ev_var rfl) ev_c (by decide +kernel)) (rvs_y (fun H1 _ _ => et_SK (a := kCmp) (ev_var rfl) ev_c (by decide +kernel))
      (rvs_asg (d1 := tx pr) (rv_pred W (fun _ => ev_var rfl) ho.2.1) fun v2 H2 k2 hd2 => rvs_ret (rv_tup (rva_cons (rv_var rfl (.int _)) (rva_cons (rv_s (a := kCmp) lit) (rva_cons (rv_tup (rva_cons (rv_var rfl hd2) (rva_cons (rv_width W (fun _ => ev_var rfl) ho.2.2.1) rva_nil)) rfl) (rva_cons (rv_args (l := [a, b]) (fun _ => ev_var rfl) (fun _ => ev_c) (two a b ho.2.2.2.1 ho.2.2.2.2) (by show 2 ≤ 100; omega)) rva_nil)))) rfl)))))))))
  | alloca x' w' size =>
    obtain rfl : x' = x := Option.some.inj hm
    refine rvs_asgV (v := vS kAlloca) (fun H1 _ h1 => ev_word (ts := kAlloca :: ([Ty.tk (.w w'), [44], num size] ++ ts)) (ev_var rfl) h1) (rvs_n (fun H1 _ _ => et_inK W.ops (ev_var rfl) rfl (ops_out (by decide))) (rvs_n (fun H1 _ _ => et_inK W.casts (ev_var rfl) rfl (casts_out (by decide))) (rvs_n (fun H1 _ _ => et_niU deedL (ev_var rfl) (ea_cons ev_c (ea_cons ev_c (ea_cons ev_c (ea_cons ev_c (ea_cons ev_c (ea_cons ev_c (ea_cons ev_c ea_nil))))))) rfl (deed_in (by decide)))
      (rvs_need (tk := kAlloca) (ts := Ty.tk (.w w') :: [44] :: num size :: ts) (fun _ => ev_var rfl) (fun _ => ev_var rfl) (rvs_n (fun H1 _ _ => et_SK (a := kAlloca) (ev_var rfl) ev_c (by decide +kernel)) (rvs_y (fun H1 _ _ => et_SK (a := kAlloca) (ev_var rfl) ev_c (by decide +kernel)) (rvs_ret fun H1 k1 h1 Q q => ⟨_, rfl, _, rfl, _, _, rfl, r, x', w', size, ts, rfl, rfl, ho.2.1, ho.2.2, h1, q⟩)))))))
  | call x' name args =>
    obtain rfl : x' = some x := hm
    refine rvs_asgV (v := vS kCall) (fun H1 _ h1 => ev_word (ts := kCall :: ((64 :: name) :: argsTk args ++ ts)) (ev_var rfl) h1) (rvs_n (fun H1 _ _ => et_inK W.ops (ev_var rfl) rfl (ops_out (by decide))) (rvs_n (fun H1 _ _ => et_inK W.casts (ev_var rfl) rfl (casts_out (by decide))) (rvs_n (fun H1 _ _ => et_niU deedL (ev_var rfl) (ea_cons ev_c (ea_cons ev_c (ea_cons ev_c (ea_cons ev_c (ea_cons ev_c (ea_cons ev_c (ea_cons ev_c ea_nil))))))) rfl (deed_in (by decide)))
      (rvs_need (tk := kCall) (ts := (64 :: name) :: (argsTk args ++ ts)) (fun _ => ev_var rfl) (fun _ => ev_var rfl) (rvs_y (fun H1 _ _ => et_SK (a := kCall) (ev_var rfl) ev_c (by decide +kernel)) (rvs_ret fun H1 k1 h1 Q q => ⟨_, rfl, _, rfl, _, _, rfl, r, some x, name, args, ts, rfl, rfl, ho.2.1, ho.2.2, h1, q⟩))))))
  | sel x' t c a b =>
    obtain rfl : x' = x := Option.some.inj hm
    refine rvs_asgV (v := vS kSel) (fun H1 _ h1 => ev_word (ts := kSel :: (t.tk :: com [c, a, b] ++ ts)) (ev_var rfl) h1) (rvs_n (fun H1 _ _ => et_inK W.ops (ev_var rfl) rfl (ops_out (by decide))) (rvs_n (fun H1 _ _ => et_inK W.casts (ev_var rfl) rfl (casts_out (by decide))) (rvs_n (fun H1 _ _ => et_niU deedL (ev_var rfl) (ea_cons ev_c (ea_cons ev_c (ea_cons ev_c (ea_cons ev_c (ea_cons ev_c (ea_cons ev_c (ea_cons ev_c ea_nil))))))) rfl (deed_in (by decide)))
      (rvs_need (tk := kSel) (ts := t.tk :: (com [c, a, b] ++ ts)) (fun _ => ev_var rfl) (fun _ => ev_var rfl) (rvs_n (fun H1 _ _ => et_SK (a := kSel) (ev_var rfl) ev_c (by decide +kernel)) (rvs_n (fun H1 _ _ => et_SK (a := kSel) (ev_var rfl) ev_c (by decide +kernel)) (rvs_n (fun H1 _ _ => et_SK (a := kSel) (ev_var rfl) ev_c (by decide +kernel))
      (rvs_asg (d1 := t.py) (rv_one (fun _ => ev_var rfl) (fun H => ev_if (b := true) (et_SK (a := kSel) (ev_var rfl) ev_c (by decide +kernel)) (fun _ => ev_c) fun e => by cases e) W.types (by rw [List.length_map]; decide) (one_type ho.2.1) fun _ => dt_ty) fun v2 H2 k2 hd2 => rvs_ret (rv_tup (rva_cons (rv_var rfl (.int _)) (rva_cons (rv_var (d := tx kSel) rfl (.str _)) (rva_cons (rv_tup (rva_cons (rv_var rfl hd2) rva_nil) rfl) (rva_cons (rv_args (l := [c, a, b]) (fun _ => ev_var rfl) (fun H => ev_op ev_c (ev_var rfl) (rv_val fun H1 e Q q => ⟨_, _, _, rfl, rfl, T.count W (x := SX.S kSel) (n := 3) (List.mem_of_getElem? (i := 2) rfl), q⟩)) hA.2 (by show 3 ≤ 100; omega)) rva_nil)))) rfl)))))))))
  | mem x' kd w' args =>
    obtain rfl : x' = some x := hm
    have hmk := mem_kind ho.2.1
    have hkd : kd ∈ [kCmp, kSel, kAlloca, kAt, kLoad, kInput, kCall] ∧ decide (V.str (SX.S kd) = V.str "call") = false ∧ decide (V.str (SX.S kd) = V.str "alloca") = false ∧ decide (V.str (SX.S kd) = V.str "cmp") = false ∧ decide (V.str (SX.S kd) = V.str "select") = false ∧ (SX.S kd, He.Dv.int (args.length : Int)) ∈ v_ARG_COUNTS := by
      rcases hmk with ⟨rfl, _, h⟩ | ⟨rfl, _, h⟩ | ⟨rfl, h, _⟩ | ⟨rfl, h, _⟩ | ⟨rfl, _, h⟩
      · exact ⟨by decide, by decide +kernel, by decide +kernel, by decide +kernel, by decide +kernel, List.mem_of_getElem? (i := 5) (by rw [h]; rfl)⟩
      · exact ⟨by decide, by decide +kernel, by decide +kernel, by decide +kernel, by decide +kernel, List.mem_of_getElem? (i := 6) (by rw [h]; rfl)⟩
      · cases h
      · cases h
      · exact ⟨by decide, by decide +kernel, by decide +kernel, by decide +kernel, by decide +kernel, List.mem_of_getElem? (i := 9) (by rw [h]; rfl)⟩
    obtain ⟨k1, k2, k3, k4, k5, k6⟩ := hkd
    refine rvs_asgV (v := vS kd) (fun H1 _ h1 => ev_word (ts := kd :: (Ty.tk (.w w') :: com args ++ ts)) (ev_var rfl) h1) (rvs_n (fun H1 _ _ => et_inK W.ops (ev_var rfl) rfl (ops_out (List.mem_append_right _ k1))) (rvs_n (fun H1 _ _ => et_inK W.casts (ev_var rfl) rfl (casts_out k1)) (rvs_n (fun H1 _ _ => et_niU deedL (ev_var rfl) (ea_cons ev_c (ea_cons ev_c (ea_cons ev_c (ea_cons ev_c (ea_cons ev_c (ea_cons ev_c (ea_cons ev_c ea_nil))))))) rfl (deed_in k1))
      (rvs_need (tk := kd) (ts := Ty.tk (.w w') :: (com args ++ ts)) (fun _ => ev_var rfl) (fun _ => ev_var rfl) (rvs_n (fun H1 _ _ => et_SK (a := kd) (ev_var rfl) ev_c k2) (rvs_n (fun H1 _ _ => et_SK (a := kd) (ev_var rfl) ev_c k3) (rvs_n (fun H1 _ _ => et_SK (a := kd) (ev_var rfl) ev_c k4)
      (rvs_asg (d1 := nt w') (rv_one (fun _ => ev_var rfl) (fun H => ev_if (b := false) (et_SK (a := kd) (ev_var rfl) ev_c k5) (fun e => by cases e) fun _ => ev_c) W.widths (by rw [List.length_map]; decide) (one_width ho.2.2.1) fun _ => .int _) fun v2 H2 k2 hd2 => rvs_ret (rv_tup (rva_cons (rv_var rfl (.int _)) (rva_cons (rv_var (d := tx kd) rfl (.str _)) (rva_cons (rv_tup (rva_cons (rv_var rfl hd2) rva_nil) rfl) (rva_cons (rv_args (l := args) (fun _ => ev_var rfl) (fun H => ev_op ev_c (ev_var rfl) (rv_val fun H1 e Q q => ⟨_, _, _, rfl, rfl, T.count W (x := SX.S kd) k6, q⟩)) ho.2.2.2 (Nat.le_trans (mem_kd ho.2.1).2 (by decide))) rva_nil)))) rfl)))))))))
/-! ### read_any_op -/
abbrev spOpR (K : PySem.W.Frag) : Sp := spRd K Op.tks Op.py (fun o _ => OpOk o)
theorem val_ne {n : Nat} (x : Tx) (h : x.headD 0 ≠ 36) : decide (V.str (SX.S (valTk n)) = vS x) = false := decide_eq_false fun e => h (by
  have h' : SX.S (valTk n) = SX.S x := by injection e
  have := SX.S_inj h'
  rw [← this]
  rfl)
theorem ok_read_any_op (T : Txt w K mg) (W : Told K) (c_Reader_word : C8.Met P w K mg base 1 (rc K) "word" (spWord K) []) (c_Reader_need : C8.Met P w K mg base 2 (rc K) "need" (spNeed K) []) (c_Reader_number : C8.Met P w K mg base 2 (rc K) "number" (spNumber K) []) (c_Reader_one_of : C8.Met P w K mg base 2 (rc K) "one_of" (spOneOf K) []) (c_read_args : C8.Cal P w K mg base 4 "read_args" (spArgsR K) [])
    (c_read_call : C8.Cal P w K mg base 5 "read_call" (spCallR K) []) (c_read_deed : C8.Cal P w K mg base 6 "read_deed" (spDeedR K) []) : C8.Cal P w K mg base 7 "read_any_op" (spOpR K) [] := by
  refine T.cal m_def_read_any_op m_glo_read_any_op sc_read_any_op bi_read_any_op len1 (fun cdv A outer s H vs Q E hr h => ?_)
  obtain ⟨u, rfl, r, o, ts, rfl, ho, h, q⟩ := h
  refine ⟨_, (pss_cons (ps_set (i := 1) sc_read_any_op.nd rfl (Or.inl rfl) (C8.pe_mt0 c_Reader_word hr (by decide) (pv 0)))
  (pss_cons (ps_if (pt_cmpR op_eq (pv 1) pe_str (nomark _)) (pss_cons (ps_expr (C8.pe_mt c_Reader_need hr (by decide) (pv 0) (pa_cons (pv 1) pa_nil)))
  (pss_one (ps_ret (C8.pe_c c_read_call hr (by decide) (by rfl) (pa_cons (pv 0) (pa_cons pe_non pa_nil)))))) pss_nil)
  (pss_cons (ps_if (pt_cmpR op_in_seq (pv 1) (pe_tup (pa_cons pe_str (pa_cons pe_str pa_nil))) (by rfl)) (pss_cons (ps_expr (C8.pe_mt c_Reader_need hr (by decide) (pv 0) (pa_cons (pv 1) pa_nil)))
  (pss_cons (ps_set (i := 2) sc_read_any_op.nd rfl (Or.inl rfl) (C8.pe_mt c_Reader_one_of hr (by decide) (pv 0) (pa_cons (C8.pe_gc (by rfl) (T.gv m_glo_WIDTHS_TOLD)) pa_nil)))
  (pss_one (ps_ret (pe_tup (pa_cons pe_non (pa_cons (pv 1) (pa_cons (pe_tup (pa_cons (pv 2) pa_nil)) (pa_cons (C8.pe_c c_read_args hr (by decide) (by rfl) (pa_cons (pv 0) (pa_cons (pe_ix ix_kdict (C8.pe_gc (by rfl) (T.gv m_glo_ARG_COUNTS)) (pv 1) (fun _ _ => rfl)) pa_nil))) pa_nil))))))))) pss_nil)
  (pss_cons (ps_set (i := 3) sc_read_any_op.nd rfl (Or.inl rfl) (C8.pe_mt c_Reader_number hr (by decide) (pv 0) (pa_cons pe_str (pa_cons (C8.pe_gc (by rfl) (T.int m_int_BOUND)) pa_nil))))
  (pss_cons (ps_expr (C8.pe_mt c_Reader_need hr (by decide) (pv 0) (pa_cons pe_str pa_nil)))
  (pss_one (ps_ret (C8.pe_c c_read_deed hr (by decide) (by rfl) (pa_cons (pv 0) (pa_cons (pv 3) pa_nil)))))))))), ?_⟩
  refine (?_ : RvS K r _ _ H (o.tks ++ ts) ts o.py) _ H (KR.refl r H) h q
  cases hm : o.made with
  | some x =>
    have et : o.tks = valTk x :: [61] :: deedTks o := by
      unfold Op.tks
      rw [hm]
    have hx : NumOk x := by
      have := op_made ho
      rw [hm] at this
      exact this
    rw [et]
    have ecall : (V.str "call") = vS kCall := congrArg V.str lit
    have e1 : (V.str "store") = vS kStore := congrArg V.str lit
    have e2 : (V.str "print") = vS kPrint := congrArg V.str lit
    have hin : inV (vS (valTk x)) [.str "store", .str "print"] = false := by
      have h1 : decide (V.str (SX.S (valTk x)) = V.str "store") = false := by
        rw [e1]
        exact val_ne _ (by decide)
      have h2 : decide (V.str (SX.S (valTk x)) = V.str "print") = false := by
        rw [e2]
        exact val_ne _ (by decide)
      have hs : ∀ y : Str, decide (V.str (SX.S (valTk x)) = V.str y) = false → eqV (.str y) (vS (valTk x)) = false := fun y hy => by
        show (y == SX.S (valTk x)) = false
        exact beq_eq_false_iff_ne.mpr fun e => of_decide_eq_false hy (by rw [e])
      show (eqV (.str "store") (vS (valTk x)) || (eqV (.str "print") (vS (valTk x)) || false)) = false
      rw [hs _ h1, hs _ h2]
      rfl
    refine rvs_asgV (v := vS (valTk x)) (fun H1 _ h1 => ev_word (ts := valTk x :: ([61] :: deedTks o ++ ts)) (ev_var rfl) h1) (rvs_n (fun H1 _ _ => et_SK (a := valTk x) (ev_var rfl) ev_c (by rw [ecall]; exact val_ne _ (by decide))) (rvs_n (fun H1 _ _ => et_inU [.str "store", .str "print"] (ev_var rfl) (ea_cons ev_c (ea_cons ev_c ea_nil)) rfl (by rw [hin]; rfl))
      (rvs_asg (ts := valTk x :: ([61] :: deedTks o ++ ts)) (t1 := [61] :: (deedTks o ++ ts)) (d1 := nt x) (rv_number (mk := [36]) (bnd := bound64) (fun _ => ev_var rfl) (fun _ => ev_lit lit) (fun _ => ev_c) (by decide) hx hx) fun v2 H2 k2 hd2 => rvs_need (tk := [61]) (fun _ => ev_var rfl) (fun _ => ev_lit lit) (rvs_ret fun H1 k1 h1 Q q => ⟨_, rfl, _, rfl, _, _, rfl, r, x, o, ts, rfl, hd2.intE, hm, ho, h1, q⟩))))
  | none =>
    have et : o.tks = deedTks o := by
      unfold Op.tks
      rw [hm]
    rw [et]
    cases o with
    | call x' name args =>
      obtain rfl : x' = none := hm
      exact rvs_asgV (v := vS kCall) (fun H1 _ h1 => ev_word (ts := kCall :: ((64 :: name) :: argsTk args ++ ts)) (ev_var rfl) h1) (rvs_y (fun H1 _ _ => et_SK (a := kCall) (ev_var rfl) ev_c (by decide +kernel)) (rvs_need (tk := kCall) (ts := (64 :: name) :: (argsTk args ++ ts)) (fun _ => ev_var rfl) (fun _ => ev_var rfl) (rvs_ret fun H1 k1 h1 Q q => ⟨_, rfl, _, _, rfl, r, none, name, args, ts, rfl, rfl, ho.2.1, ho.2.2, h1, q⟩)))
    | mem x' kd w' args =>
      obtain rfl : x' = none := hm
      have hkd : (decide (([.str "store", .str "print"] : List V).length ≤ 100) && ([.str "store", .str "print"] : List V).all flatV && decide (inV (vS kd) [.str "store", .str "print"] = true)) = true ∧ decide (V.str (SX.S kd) = V.str "call") = false ∧ (SX.S kd, He.Dv.int (args.length : Int)) ∈ v_ARG_COUNTS := by
        rcases mem_kind ho.2.1 with ⟨rfl, h, _⟩ | ⟨rfl, h, _⟩ | ⟨rfl, _, h⟩ | ⟨rfl, _, h⟩ | ⟨rfl, h, _⟩
        · cases h
        · cases h
        · exact ⟨by decide +kernel, by decide +kernel, List.mem_of_getElem? (i := 7) (by rw [h]; rfl)⟩
        · exact ⟨by decide +kernel, by decide +kernel, List.mem_of_getElem? (i := 8) (by rw [h]; rfl)⟩
        · cases h
      obtain ⟨k1, k2, k3⟩ := hkd
      exact rvs_asgV (v := vS kd) (fun H1 _ h1 => ev_word (ts := kd :: (Ty.tk (.w w') :: com args ++ ts)) (ev_var rfl) h1) (rvs_n (fun H1 _ _ => et_SK (a := kd) (ev_var rfl) ev_c k2) (rvs_y (fun H1 _ _ => et_inU [.str "store", .str "print"] (ev_var rfl) (ea_cons ev_c (ea_cons ev_c ea_nil)) rfl k1) (rvs_need (tk := kd) (ts := Ty.tk (.w w') :: (com args ++ ts)) (fun _ => ev_var rfl) (fun _ => ev_var rfl)
        (rvs_asg (d1 := nt w') (rv_width W (fun _ => ev_var rfl) ho.2.2.1) fun v2 H2 k2 hd2 => rvs_ret (rv_tup (rva_cons (rv_c .non) (rva_cons (rv_var (d := tx kd) rfl (.str _)) (rva_cons (rv_tup (rva_cons (rv_var rfl hd2) rva_nil) rfl) (rva_cons (rv_args (l := args) (fun _ => ev_var rfl) (fun H => ev_op ev_c (ev_var rfl) (rv_val fun H1 e Q q => ⟨_, _, _, rfl, rfl, T.count W (x := SX.S kd) k3, q⟩)) ho.2.2.2 (Nat.le_trans (mem_kd ho.2.1).2 (by decide))) rva_nil)))) rfl)))))
    | bin x' op w' a b => cases hm
    | cmp x' op w' a b => cases hm
    | sel x' op w' a b => cases hm
    | cast x' op w' a b => cases hm
    | alloca x' op w' => cases hm
end
end K6
/-! K6D4: reading endings, blocks, new names. -/
namespace K6
open PySem PySem.Spec PyProof.Rows L2 Evl
/-- what may follow an ending -/
def FolE (ts : List Tx) : Prop := ∀ c x, ts.headD [] = c :: x → c ∉ [36, 64] ++ figL
theorem ev_first' {K : PySem.W.Frag} {r : Addr} {E : XK} {ts : List Tx} {ta : TE} {σ : L2.St} {H : Hp} (ha : Ev ta σ H (.ref r)) (h : RAt K H r ts) : Ev (tSl rCutT (tMeth (rc K) "word" (spWord K) [] E ta tNil) tNoPart (tPart (tC (.int 1)))) σ H (vS ((ts.headD []).take 1)) := by
  have h4 : (ts.headD []).length ≤ 60000 := by
    obtain ⟨dx, L, es, en, dn, h1, h2, h3, h4, h5⟩ := h
    cases ts with
    | nil => exact Nat.zero_le _
    | cons t ts => exact h4 t List.mem_cons_self
  exact evs_to (i := 1) (ev_word ha h) h4 (eo_some ev_c)
theorem end_head {o : End} : ∃ x tl, o.tks = x :: tl ∧ x ∈ [kJump, kBranch, kRet, kStop] := by
  cases o with
  | jump t => exact ⟨_, _, rfl, by simp⟩
  | branch c s t => exact ⟨_, _, rfl, by simp⟩
  | ret o => cases o <;> exact ⟨_, _, rfl, by simp⟩
  | stop => exact ⟨_, _, rfl, by simp⟩
theorem op_head {o : Op} (h : OpOk o) : ∃ x tl, o.tks = x :: tl ∧ (x ∈ [kCall, kStore, kPrint] ∨ ∃ n, x = valTk n) := by
  cases hm : o.made with
  | some n => exact ⟨valTk n, [61] :: deedTks o, by unfold Op.tks; rw [hm], .inr ⟨n, rfl⟩⟩
  | none =>
    have et : o.tks = deedTks o := by
      unfold Op.tks
      rw [hm]
    rw [et]
    cases o with
    | call x' name args => exact ⟨_, _, rfl, .inl (by simp)⟩
    | mem x' kd w' args =>
      obtain rfl : x' = none := hm
      rcases mem_kind h.2.1 with ⟨rfl, h, _⟩ | ⟨rfl, h, _⟩ | ⟨rfl, _, h⟩ | ⟨rfl, _, h⟩ | ⟨rfl, h, _⟩
      · cases h
      · cases h
      · exact ⟨_, _, rfl, .inl (by simp)⟩
      · exact ⟨_, _, rfl, .inl (by simp)⟩
      · cases h
    | bin x' op w' a b => cases hm
    | cmp x' op w' a b => cases hm
    | sel x' op w' a b => cases hm
    | cast x' op w' a b => cases hm
    | alloca x' op w' => cases hm
section
variable {P : Program} {w : World} {K : PySem.W.Frag} {mg : Str → Option Value} {base : Heap}
abbrev spEndR (K : PySem.W.Frag) : Sp := spRd K End.tks End.py (fun o ts => EndOk o ∧ FolE ts)
theorem one_end {p : Tx} (h : p ∈ [kJump, kBranch, kRet, kStop]) : ((told K v_ENDINGS_TOLD).filter fun y => decide (y.1 = SX.S p)).map (·.2) = [vS p] := by
  have h' : p = kJump ∨ p = kBranch ∨ p = kRet ∨ p = kStop := by simpa using h
  rcases h' with rfl | rfl | rfl | rfl <;> rfl
theorem rv_end {r : Addr} {σ : L2.St} {H0 : Hp} {ta : TE} {ts : List Tx} {E : XK} {p : Tx} (W : Told K) (ha : ∀ H, Ev ta σ H (.ref r)) (h : p ∈ [kJump, kBranch, kRet, kStop]) : Rv K r (tMeth (rc K) "one_of" (spOneOf K) [] E ta (tCons (tC (.ref (He.ga K "ENDINGS_TOLD"))) tNil)) σ H0 (p :: ts) ts (tx p) := rv_one ha (fun _ => ev_c) W.ends (by rw [List.length_map]; decide) (one_end h) fun _ => .str _
theorem ok_read_ending (T : Txt w K mg) (W : Told K) (c_Reader_word : C8.Met P w K mg base 1 (rc K) "word" (spWord K) []) (c_Reader_need : C8.Met P w K mg base 2 (rc K) "need" (spNeed K) []) (c_Reader_one_of : C8.Met P w K mg base 2 (rc K) "one_of" (spOneOf K) [])
    (c_read_operand : C8.Cal P w K mg base 3 "read_operand" (spOpdR K) []) (c_read_target : C8.Cal P w K mg base 5 "read_target" (spTgtR K) []) : C8.Cal P w K mg base 6 "read_ending" (spEndR K) [] := by
  refine T.cal m_def_read_ending m_glo_read_ending sc_read_ending bi_read_ending len1 (fun cdv A outer s H vs Q E hr h => ?_)
  obtain ⟨u, rfl, r, o, ts, rfl, ⟨ho, hf⟩, h, q⟩ := h
  refine ⟨_, (pss_cons (ps_set (i := 1) sc_read_ending.nd rfl (Or.inl rfl) (C8.pe_mt c_Reader_one_of hr (by decide) (pv 0) (pa_cons (C8.pe_gc (by rfl) (T.gv m_glo_ENDINGS_TOLD)) pa_nil)))
  (pss_cons (ps_if (pt_cmpR op_eq (pv 1) pe_str (nomark _)) (pss_one (ps_ret (pe_tup (pa_cons pe_str (pa_cons (C8.pe_c c_read_target hr (by decide) (by rfl) (pa_cons (pv 0) pa_nil)) pa_nil))))) pss_nil)
  (pss_cons (ps_if (pt_cmpR op_eq (pv 1) pe_str (nomark _)) (pss_cons (ps_set (i := 2) sc_read_ending.nd rfl (Or.inl rfl) (C8.pe_c c_read_operand hr (by decide) (by rfl) (pa_cons (pv 0) pa_nil)))
  (pss_cons (ps_expr (C8.pe_mt c_Reader_need hr (by decide) (pv 0) (pa_cons pe_str pa_nil)))
  (pss_cons (ps_set (i := 3) sc_read_ending.nd rfl (Or.inl rfl) (C8.pe_c c_read_target hr (by decide) (by rfl) (pa_cons (pv 0) pa_nil)))
  (pss_cons (ps_expr (C8.pe_mt c_Reader_need hr (by decide) (pv 0) (pa_cons pe_str pa_nil)))
  (pss_one (ps_ret (pe_tup (pa_cons pe_str (pa_cons (pv 2) (pa_cons (pv 3) (pa_cons (C8.pe_c c_read_target hr (by decide) (by rfl) (pa_cons (pv 0) pa_nil)) pa_nil))))))))))) pss_nil)
  (pss_cons (ps_if (pt_cmpR op_eq (pv 1) pe_str (nomark _)) (pss_one (ps_ret (pe_tup (pa_cons pe_str pa_nil)))) pss_nil)
  (pss_cons (ps_set (i := 4) sc_read_ending.nd rfl (Or.inl rfl) (pe_slice C8.sl_txt (C8.pe_mt0 c_Reader_word hr (by decide) (pv 0)) po_none (po_some pe_int)))
  (pss_one (ps_ret (pe_tup (pa_cons pe_str (pa_cons (pe_ifExp (PW.pt (pw_and (pt_cmpR op_ne (pv 4) pe_str (nomark _)) (pw_and1 (pt_cmpR op_inS (pv 4) (pe_op op_cats pe_str (C8.pe_gc (by rfl) (T.str m_str_FIGURES))) (by rfl))))) (C8.pe_c c_read_operand hr (by decide) (by rfl) (pa_cons (pv 0) pa_nil)) pe_non) pa_nil)))))))))), ?_⟩
  refine (?_ : RvS K r _ _ H (o.tks ++ ts) ts o.py) _ H (KR.refl r H) h q
  cases o with
  | jump t =>
    exact rvs_asg (d1 := tx kJump) (rv_end W (fun _ => ev_var rfl) (by simp)) fun v H2 k2 hd => by
      obtain rfl := hd.strE
      exact rvs_y (fun H1 _ _ => et_SK (a := kJump) (ev_var rfl) ev_c (by decide +kernel)) (rvs_ret (rv_tup (rva_cons (rv_s (a := kJump) lit) (rva_cons (rv_rd (x := t) (fun _ => ev_var rfl) ho) rva_nil)) rfl))
  | branch c s t =>
    refine RvS.to (t1 := kBranch :: c.tk :: [44] :: (s.tks ++ ([44] :: (t.tks ++ ts)))) ?_ (by simp [End.tks])
    exact rvs_asg (d1 := tx kBranch) (rv_end W (fun _ => ev_var rfl) (by simp)) fun v H2 k2 hd => by
      obtain rfl := hd.strE
      exact rvs_n (fun H1 _ _ => et_SK (a := kBranch) (ev_var rfl) ev_c (by decide +kernel)) (rvs_y (fun H1 _ _ => et_SK (a := kBranch) (ev_var rfl) ev_c (by decide +kernel))
        (rvs_asg (d1 := c.py) (rv_rd (tk := fun o : Opd => [o.tk]) (x := c) (fun _ => ev_var rfl) ho.1) fun v3 H3 k3 hd3 => rvs_need (tk := [44]) (fun _ => ev_var rfl) (fun _ => ev_lit lit) (rvs_asg (d1 := s.py) (rv_rd (x := s) (fun _ => ev_var rfl) ho.2.1) fun v4 H4 k4 hd4 => rvs_need (tk := [44]) (fun _ => ev_var rfl) (fun _ => ev_lit lit)
          (rvs_ret (rv_tup (rva_cons (rv_s (a := kBranch) lit) (rva_cons (rv_var rfl (hd3.kt k4.tups)) (rva_cons (rv_var rfl hd4) (rva_cons (rv_rd (x := t) (fun _ => ev_var rfl) ho.2.2) rva_nil)))) rfl)))))
  | stop =>
    exact rvs_asg (d1 := tx kStop) (rv_end W (fun _ => ev_var rfl) (by simp)) fun v H2 k2 hd => by
      obtain rfl := hd.strE
      exact rvs_n (fun H1 _ _ => et_SK (a := kStop) (ev_var rfl) ev_c (by decide +kernel)) (rvs_n (fun H1 _ _ => et_SK (a := kStop) (ev_var rfl) ev_c (by decide +kernel)) (rvs_y (fun H1 _ _ => et_SK (a := kStop) (ev_var rfl) ev_c (by decide +kernel)) (rvs_ret (rv_tup (rva_cons (rv_s (a := kStop) lit) rva_nil) rfl))))
  | ret o =>
    have hcat : ∀ (c : Tx) H, Ev (tOp rCatS (tC (.str "$@")) (tC (.str "0123456789"))) ((((L2.start n_read_ending [.ref r]).set 1 (some (vS kRet))).set 4 (some (vS c)))) H (vS ([36, 64] ++ figL)) := fun c H => (evs_add (a := [36, 64]) (b := figL) (evs_c lit_MK) (evs_c lit_FIG)) (by decide)
    cases o with
    | some o =>
      exact rvs_asg (d1 := tx kRet) (rv_end (ts := o.tk :: ts) W (fun _ => ev_var rfl) (by simp)) fun v H2 k2 hd => by
        obtain rfl := hd.strE
        obtain ⟨c, x, ec, hc⟩ : ∃ c x, o.tk = c :: x ∧ c ∈ [36, 64] ++ figL := by
          cases o with
          | v i => exact ⟨_, _, rfl, by decide⟩
          | g i => exact ⟨_, _, rfl, by decide⟩
          | n i =>
            obtain ⟨c, x, e, h1, h2⟩ := num_fst (n := i)
            exact ⟨c, x, e, List.mem_append_right _ (mem_fig.mpr ⟨h1, h2⟩)⟩
        exact rvs_n (fun H1 _ _ => et_SK (a := kRet) (ev_var rfl) ev_c (by decide +kernel)) (rvs_n (fun H1 _ _ => et_SK (a := kRet) (ev_var rfl) ev_c (by decide +kernel)) (rvs_n (fun H1 _ _ => et_SK (a := kRet) (ev_var rfl) ev_c (by decide +kernel)) (rvs_asgV (v := vS [c]) (fun H1 _ h1 => ev_first (ev_var rfl) h1 (by rw [ec]; rfl)) (rvs_ret (rv_tup (rva_cons (rv_s (a := kRet) lit) (rva_cons (rv_ify (fun H1 _ _ => et_is (et_and (a := true) (et_is (et_neS (ev_var rfl) (ev_lit (L := []) lit)) (by simp)) fun _ => et_inC (ev_var rfl) (hcat _ _)) (by rw [decide_eq_true hc]; rfl)) (rv_rd (tk := fun o : Opd => [o.tk]) (x := o) (fun _ => ev_var rfl) ho)) rva_nil)) rfl)))))
    | none =>
      exact rvs_asg (d1 := tx kRet) (rv_end (ts := ts) W (fun _ => ev_var rfl) (by simp)) fun v H2 k2 hd => by
        obtain rfl := hd.strE
        refine rvs_n (fun H1 _ _ => et_SK (a := kRet) (ev_var rfl) ev_c (by decide +kernel)) (rvs_n (fun H1 _ _ => et_SK (a := kRet) (ev_var rfl) ev_c (by decide +kernel)) (rvs_n (fun H1 _ _ => et_SK (a := kRet) (ev_var rfl) ev_c (by decide +kernel)) (rvs_asgV (v := vS ((ts.headD []).take 1)) (fun H1 _ h1 => ev_first' (ev_var rfl) h1) (rvs_ret (rv_tup (rva_cons (rv_s (a := kRet) lit) (rva_cons (rv_ifn (fun H1 _ _ => ?_) (rv_c .non)) rva_nil)) rfl)))))
        cases hh : ts.headD [] with
        | nil => exact et_is (et_and (a := false) (b := false) (et_is (et_neS (ev_var rfl) (ev_lit (L := []) lit)) (by simp)) fun e => by cases e) rfl
        | cons c x => exact et_is (et_and (a := true) (et_is (et_neS (ev_var rfl) (ev_lit (L := []) lit)) (by simp)) fun _ => et_inC (c := c) (ev_var rfl) (hcat _ _)) (by rw [decide_eq_false (hf c x hh)]; rfl)
/-! ### read_block -/
abbrev spBlkR (K : PySem.W.Frag) : Sp := spRd K Blk.tks Blk.py (fun b ts => BlkOk' b ∧ FolE ts)
theorem ok_read_block (T : Txt w K mg) (c_Reader_word : C8.Met P w K mg base 1 (rc K) "word" (spWord K) []) (c_Reader_need : C8.Met P w K mg base 2 (rc K) "need" (spNeed K) []) (c_Reader_number : C8.Met P w K mg base 2 (rc K) "number" (spNumber K) [])
    (c_read_list : C8.Cal P w K mg base 4 "read_list" (spList K (.ref (He.ga K "read_param")) parTks parPy (fun p => NumOk p.1 ∧ TyOk p.2) [40] [41]) []) (c_read_any_op : C8.Cal P w K mg base 7 "read_any_op" (spOpR K) []) (c_read_ending : C8.Cal P w K mg base 6 "read_ending" (spEndR K) []) : C8.Cal P w K mg base 8 "read_block" (spBlkR K) [] := by
  refine T.cal m_def_read_block m_glo_read_block sc_read_block bi_read_block len1 (fun cdv A outer s H vs Q E hr h => ?_)
  obtain ⟨u, rfl, r, b, ts, rfl, ⟨ho, hf⟩, h, q⟩ := h
  refine ⟨_, (pss_cons (ps_set (i := 1) sc_read_block.nd rfl (Or.inl rfl) (C8.pe_mt c_Reader_number hr (by decide) (pv 0) (pa_cons pe_str (pa_cons (C8.pe_gc (by rfl) (T.int m_int_BOUND)) pa_nil))))
  (pss_cons (ps_set (i := 2) sc_read_block.nd rfl (Or.inl rfl) (C8.pe_c c_read_list hr (by decide) (by rfl) (pa_cons (pv 0) (pa_cons pe_str (pa_cons pe_str (pa_cons (C8.pe_gc (by rfl) (T.gv m_glo_read_param)) pa_nil))))))
  (pss_cons (ps_expr (C8.pe_mt c_Reader_need hr (by decide) (pv 0) (pa_cons pe_str pa_nil)))
  (pss_cons (ps_set (i := 3) sc_read_block.nd rfl (Or.inl rfl) (pe_lst pa_nil))
  (pss_cons (ps_while PassesOwn.never (PW.pt (pw_or (pt_cmpR op_in_seq (C8.pe_mt0 c_Reader_word hr (by decide) (pv 0)) (pe_tup (pa_cons pe_str (pa_cons pe_str (pa_cons pe_str pa_nil)))) (by rfl)) (pw_or1 (pt_cmpR op_eq (pe_slice C8.sl_txt (C8.pe_mt0 c_Reader_word hr (by decide) (pv 0)) po_none (po_some pe_int)) pe_str (nomark _))))) (pss_one (ps_expr (pe_bm PySem.F.plainAttrs_list PySem.F.slot_list_append PySem.F.type_list_append mt_append (pv 3) (pa_cons (C8.pe_c c_read_any_op hr (by decide) (by rfl) (pa_cons (pv 0) pa_nil)) pa_nil)))))
  (pss_one (ps_ret (pe_tup (pa_cons (pv 1) (pa_cons (pv 2) (pa_cons (pe_callTy call_tuple_of (by rfl) (T.free m_free_tuple) (by decide +kernel) (pa_cons (pv 3) pa_nil)) (pa_cons (C8.pe_c c_read_ending hr (by decide) (by rfl) (pa_cons (pv 0) pa_nil)) pa_nil)))))))))))), ?_⟩
  have h : RAt K H r (labTk b.lab :: (lst parTks [40] [41] b.pars ++ ([58] :: (b.ops.flatMap Op.tks ++ (b.en.tks ++ ts))))) := by
    have := h
    simp only [Blk.tks, List.append_assoc, List.cons_append] at this ⊢
    exact this
  refine (?_ : RvS K r _ _ H _ ts b.py) _ H (KR.refl r H) h q
  refine rvs_asg (d1 := nt b.lab) (rv_number (mk := [98]) (bnd := bound64) (fun _ => ev_var rfl) (fun _ => ev_lit lit) (fun _ => ev_c) (by decide) ho.lab ho.lab) fun v H2 k2 hd2 => rvs_asg (rv_list (l := b.pars) (fun _ => ev_var rfl) (fun _ => ev_lit lit) (fun _ => ev_lit lit) (fun _ => ev_c) ho.pars (Nat.le_trans ho.plen (by decide))) fun v3 H3 k3 hd3 => rvs_need (tk := [58]) (fun _ => ev_var rfl) (fun _ => ev_lit lit) ?_
  obtain rfl := hd2.intE
  intro D H4 k4 h4 q4
  refine q_asgL (el_lst ea_nil (Nat.zero_le _)) fun L H5 hL0 e5 hL5 => ?_
  have noL : L ≠ r := fun e => by
    obtain ⟨dx, fs, g1, _⟩ := rat_ins h4
    rw [← e, hL0] at g1
    cases g1
  refine q_while (fun m σ' H6 => ∃ dn rs es, dn ++ rs = b.ops ∧ m = rs.length ∧ KR K r H4 H6 ∧ RAt K H6 r (rs.flatMap Op.tks ++ (b.en.tks ++ ts)) ∧ H6 L = some (.lst es) ∧ DtA H6 es (dn.map Op.py) ∧ σ' = [some (.ref r), some (.int (b.lab : Int)), some v3, some (.ref L)]) b.ops.length ⟨[], b.ops, [], rfl, rfl, KR.ex e5, h4.ex e5, hL5, .nil, rfl⟩ fun m σ' H6 ⟨dn, rs, es, hd, hm, k6, h6, hL6, hes, eσ⟩ => ?_
  subst eσ
  have hel := hes.length
  rw [List.length_map] at hel
  have hlen : dn.length + rs.length = b.ops.length := by rw [← List.length_append, hd]
  have holen := ho.olen
  have eS : (V.str "$") = vS [36] := congrArg V.str lit
  cases rs with
  | nil =>
    obtain ⟨x, tl, ex, hx⟩ := end_head (o := b.en)
    have h6' : RAt K H6 r (x :: (tl ++ ts)) := by
      have := h6
      rw [ex] at this
      exact this
    have hx1 : (decide (([.str "call", .str "store", .str "print"] : List V).length ≤ 100) && ([.str "call", .str "store", .str "print"] : List V).all flatV && decide (inV (vS x) [.str "call", .str "store", .str "print"] = false)) = true ∧ decide (vS (x.take 1) = V.str "$") = false := by
      have h' : x = kJump ∨ x = kBranch ∨ x = kRet ∨ x = kStop := by simpa using hx
      rcases h' with rfl | rfl | rfl | rfl <;> exact ⟨by decide +kernel, by decide +kernel⟩
    refine ⟨false, et_is (et_or (a := false) (et_inU [.str "call", .str "store", .str "print"] (ev_word (ev_var rfl) h6') (ea_cons ev_c (ea_cons ev_c (ea_cons ev_c ea_nil))) rfl hx1.1) fun _ => et_eq0 (ev_first (ev_var rfl) h6' rfl) ev_c rfl hx1.2) rfl, (fun e => by cases e), fun _ H7 e7 => ?_⟩
    have k37 : KR K r H3 H7 := k4.trans (k6.trans (KR.ex e7))
    have h7 := h6.ex e7
    rw [List.append_nil] at hd
    exact rvs_ret (rv_tup (ds := [nt b.lab, .tuple (b.pars.map parPy), .tuple (b.ops.map Op.py), b.en.py]) (rva_cons (rv_var rfl (.int _)) (rva_cons (rv_var rfl (hd3.kt k37.tups)) (rva_cons (ts := b.en.tks ++ ts) (t1 := b.en.tks ++ ts) (d := .tuple (b.ops.map Op.py)) (fun H8 k8 h8 Q' q' => ev_tupleL (ev_var rfl) (k8.other L _ noL noTb_lst (e7 _ _ hL6)) fun p H9 e9 hp => q' _ H9 (KR.ex e9) (h8.ex e9) (.tup hp (by
      rw [← hd]
      exact ((hes.kt (KT.ex e7)).kt k8.tups).kt (KT.ex e9)))) (rva_cons (rv_rd (x := b.en) (fun _ => ev_var rfl) ⟨ho.en, hf⟩) rva_nil)))) rfl) D H7 (KR.refl r H7) h7 fun v9 H9 k9 => q4 v9 H9 ((k6.trans (KR.ex e7)).trans k9)
  | cons a rs =>
    have ha := ho.ops a (by rw [← hd]; simp)
    obtain ⟨x, tl, ex, hx⟩ := op_head ha
    have h6' : RAt K H6 r (x :: (tl ++ (rs.flatMap Op.tks ++ (b.en.tks ++ ts)))) := by
      have := h6
      rw [List.flatMap_cons, ex, List.append_assoc] at this
      exact this
    have h6a : RAt K H6 r (a.tks ++ (rs.flatMap Op.tks ++ (b.en.tks ++ ts))) := by
      have := h6
      rw [List.flatMap_cons, List.append_assoc] at this
      exact this
    refine ⟨true, ?_, fun _ H7 e7 => ?_, (fun e => by cases e)⟩
    · rcases hx with hx | ⟨n, rfl⟩
      · have hx1 : (decide (([.str "call", .str "store", .str "print"] : List V).length ≤ 100) && ([.str "call", .str "store", .str "print"] : List V).all flatV && decide (inV (vS x) [.str "call", .str "store", .str "print"] = true)) = true := by
          have h' : x = kCall ∨ x = kStore ∨ x = kPrint := by simpa using hx
          rcases h' with rfl | rfl | rfl <;> decide +kernel
        exact et_is (et_or (a := true) (b := false) (et_inU [.str "call", .str "store", .str "print"] (ev_word (ev_var rfl) h6') (ea_cons ev_c (ea_cons ev_c (ea_cons ev_c ea_nil))) rfl hx1) fun e => by cases e) rfl
      · have hn : ∀ y : Str, ∀ a : Tx, y = SX.S a → a.headD 0 ≠ 36 → eqV (.str y) (vS (valTk n)) = false := fun y a ey hy => by
          show (y == SX.S (valTk n)) = false
          refine beq_eq_false_iff_ne.mpr fun e => ?_
          have := of_decide_eq_false (val_ne (n := n) a hy)
          exact this (by rw [← e, ey])
        have hin : inV (vS (valTk n)) [.str "call", .str "store", .str "print"] = false := by
          show (eqV (.str "call") (vS (valTk n)) || (eqV (.str "store") (vS (valTk n)) || (eqV (.str "print") (vS (valTk n)) || false))) = false
          rw [hn _ kCall lit (by decide), hn _ kStore lit (by decide), hn _ kPrint lit (by decide)]
          rfl
        exact et_is (et_or (a := false) (b := true) (et_inU [.str "call", .str "store", .str "print"] (ev_word (ev_var rfl) h6') (ea_cons ev_c (ea_cons ev_c (ea_cons ev_c ea_nil))) rfl (by rw [List.headD_cons, hin]; rfl)) fun _ => et_eq0 (ev_first (a := [36]) (ev_var rfl) h6' rfl) ev_c rfl (by rw [eS]; exact decide_eq_true rfl)) rfl
    · refine ⟨fun σ2 H8 => ∃ dn rs' es, dn ++ rs' = b.ops ∧ rs'.length < (a :: rs).length ∧ KR K r H4 H8 ∧ RAt K H8 r (rs'.flatMap Op.tks ++ (b.en.tks ++ ts)) ∧ H8 L = some (.lst es) ∧ DtA H8 es (dn.map Op.py) ∧ σ2 = [some (.ref r), some (.int (b.lab : Int)), some v3, some (.ref L)], fun σ2 H8 ⟨dn, rs', es, g1, g3, g4, g5, g6, g7, g8⟩ => ⟨rs'.length, by rw [hm]; exact g3, dn, rs', es, g1, rfl, g4, g5, g6, g7, g8⟩, ?_⟩
      refine s_appR (k6.trans (KR.ex e7)) (fre_of hL0) h4 (e7 _ _ hL6) (by omega) (ev_var rfl) (h6a.ex e7) (rv_rd (x := a) (fun _ => ev_var rfl) ha) fun v H8 k8 t8 h8 hL8 hdv => ?_
      refine ⟨dn ++ [a], rs, es ++ [v], (by rw [← hd]; simp), Nat.lt_succ_self _, k8, h8, hL8, ?_, rfl⟩
      rw [List.map_append]
      exact DtA.app ((hes.kt (KT.ex e7)).kt t8) (.cons hdv .nil)
/-! ### read_new_name -/
def spNewR (K : PySem.W.Frag) : Sp := Pr3 fun s l b H Q => ∃ (r : Addr) (last x : Tx) (bs : List Tx) (p : Addr) (ts : List Tx), s = .ref r ∧ l = vS last ∧ b = .ref p ∧ NameOk x ∧ last < x ∧ x ∉ bs ∧ (H p = some (.lst (bs.map vS)) ∨ H p = some (.tup (bs.map vS))) ∧ RAt K H r ((64 :: x) :: ts) ∧ ∀ v H2, KR K r H H2 → RAt K H2 r ts → Dt H2 v (tx x) → Q v H2
theorem inV_S {x : Tx} : ∀ {bs : List Tx}, x ∉ bs → inV (vS x) (bs.map vS) = false
  | [], _ => rfl
  | b :: bs, h => by
    have ih := inV_S (bs := bs) fun z => h (List.mem_cons_of_mem _ z)
    have h1 : eqV (vS b) (vS x) = false := by
      show (SX.S b == SX.S x) = false
      exact beq_eq_false_iff_ne.mpr fun e => h (by rw [SX.S_inj e]; exact List.mem_cons_self)
    show (eqV (vS b) (vS x) || (inV (vS x) (bs.map vS))) = false
    rw [h1, ih]
    rfl
theorem flat_S : ∀ (bs : List Tx), (bs.map vS).all flatV = true
  | [] => rfl
  | b :: bs => flat_S bs
theorem ok_read_new_name (T : Txt w K mg) (c_Reader_word : C8.Met P w K mg base 1 (rc K) "word" (spWord K) []) (c_Reader_name : C8.Met P w K mg base 2 (rc K) "name" (spNameM K) []) : C8.Cal P w K mg base 3 "read_new_name" (spNewR K) [] := by
  refine T.cal m_def_read_new_name m_glo_read_new_name sc_read_new_name bi_read_new_name len3 (fun cdv A outer s H vs Q E hr h => ?_)
  obtain ⟨u, u2, u3, rfl, r, last, x, bs, p, ts, rfl, rfl, rfl, hx, hlt, hbs, hp, h, q⟩ := h
  refine ⟨_, (pss_cons (ps_set (i := 3) sc_read_new_name.nd rfl (Or.inl rfl) (C8.pe_mt0 c_Reader_word hr (by decide) (pv 0)))
  (pss_cons (ps_if (PW.pt (pw_and (pt_cmpR op_eq (pe_slice C8.sl_txt (pv 3) po_none (po_some pe_int)) pe_str (nomark _)) (pw_and1 (PW.pt (pw_or (pt_cmpR op_le_str (pe_slice C8.sl_txt (pv 3) (po_some pe_int) po_none) (pv 1) (nomark _)) (pw_or1 (pt_cmpR op_in_seq (pe_slice C8.sl_txt (pv 3) (po_some pe_int) po_none) (pv 2) (by rfl)))))))) (pss_one ps_never) pss_nil)
  (pss_one (ps_ret (C8.pe_mt0 c_Reader_name hr (by decide) (pv 0)))))), ?_⟩
  have hl := hx.len
  have hwl : (64 :: x).length ≤ 60000 := by
    rw [List.length_cons]
    omega
  refine q_asg (v := vS (64 :: x)) (ev_word (ev_var rfl) h) fun H1 e1 => ?_
  refine q_when (b := false) (et_is (et_and (a := true) (b := false) (et_is (et_eqS (a := [64]) (ev_is (w := vS [64]) (evs_to (i := 1) (ev_var rfl) hwl (eo_some ev_c)) rfl) (ev_lit (L := [64]) lit)) (decide_eq_true rfl)) fun _ => et_is (et_or (a := false) (b := false) (et_is (et_test (ev_op (ev_is (w := vS x) (evs_from (i := 1) (ev_var rfl) hwl (eo_some ev_c)) rfl) (ev_var rfl) (rv_val fun H2 e Q q => ⟨_, _, rfl, rfl, q⟩))) ?_) fun _ => ?_) rfl) rfl) (fun e => by cases e) fun _ H2 e2 => ?_
  · show (!decide (last < x)) = false
    rw [decide_eq_true hlt]
    rfl
  · refine et_is (et_test (ev_op (ev_is (w := vS x) (evs_from (i := 1) (ev_var rfl) hwl (eo_some ev_c)) rfl) (ev_var rfl) ?_)) (inV_S hbs)
    rcases hp with hp | hp
    · exact rv_isL (sq_of (e1 _ _ hp)) rfl (flat_S bs)
    · exact rv_isT (SqT.of (e1 _ _ hp)) rfl (flat_S bs)
  · exact rvs_ret (rv_name (fun _ => ev_var rfl) hx) _ H2 (KR.refl r H2) (h.ex (e1.trans e2)) fun v H3 k3 => q v H3 ((KR.ex (e1.trans e2)).trans k3)
end
end K6
/-! K6D5: reading functions, modules. -/
namespace K6
open PySem PySem.Spec PyProof.Rows L2 Evl
/-! ### a heap without one object -/
def del (H : Hp) (L : Addr) : Hp := fun b => if b = L then none else H b
theorem del_ne {H : Hp} {L b : Addr} (h : b ≠ L) : del H L b = H b := if_neg h
theorem del_self {H : Hp} {L : Addr} : del H L L = none := if_pos rfl
theorem del_ex {H : Hp} {L : Addr} : Ex (del H L) H := fun b o h => by
  by_cases e : b = L
  · rw [e, del_self] at h
    cases h
  · rw [del_ne e] at h
    exact h
theorem KR.del {K : PySem.W.Frag} {r L : Addr} {H H' : Hp} {xs : List V} (k : KR K r H H') (hL : Fre H L) (hl : H' L = some (.lst xs)) : KR K r H (K6.del H' L) := by
  have ne : ∀ b o, NoTb o → H b = some o → b ≠ L := fun b o t h => hL.ne h t
  refine ⟨fun b o n t h => ?_, fun b zs h => ?_, fun b h o ho => ?_, fun t p hp => ?_, fun C dx fs x h l => ?_⟩
  · rw [del_ne (ne _ _ t h)]
    exact k.other b o n t h
  · rw [del_ne (ne _ _ noTb_tup h)]
    exact k.tups b zs h
  · by_cases e : b = L
    · rw [e] at ho
      exact hL o ho
    · exact k.new b (fun o' ho' => h o' (by rw [del_ne e]; exact ho')) o ho
  · obtain ⟨ps, h1, h2, h3⟩ := k.tabs t p hp
    refine ⟨ps, ?_, h2, fun pos cv hc => ?_⟩
    · rw [del_ne fun e => by
        rw [e, hl] at h1
        cases h1]
      exact h1
    · obtain ⟨c, e1, e2⟩ := h3 pos cv hc
      refine ⟨c, e1, ?_⟩
      rw [del_ne fun e => by
        rw [e, hl] at e2
        unfold LamX.CodeO at e2
        cases e2]
      exact e2
  · obtain ⟨C', dx', fs', h1, h2⟩ := k.fnd C dx fs x h l
    exact ⟨C', dx', fs', by rw [del_ne (ne _ _ noTb_ins h)]; exact h1, h2⟩
theorem RAt.del {K : PySem.W.Frag} {r L : Addr} {H H' : Hp} {xs : List V} {ts0 ts : List Tx} (h0 : RAt K H r ts0) (k : KR K r H H') (hL : Fre H L) (hl : H' L = some (.lst xs)) (h : RAt K H' r ts) : RAt K (K6.del H' L) r ts := by
  obtain ⟨dx0, L0, es0, en0, dn0, g1, g2, g3, g4⟩ := h0
  obtain ⟨dx, L1, es, en, dn, h1, h2, h3, h4⟩ := h
  obtain ⟨C', dx', fs', k1, k2⟩ := k.fnd _ _ _ _ g1 rfl
  rw [h1] at k1
  injection k1 with k1
  injection k1 with _ _ k3
  subst k3
  have e : L1 = L0 := by
    have := Option.some.inj k2
    injection this
  subst e
  have n1 : r ≠ L := hL.ne g1 noTb_ins
  have n2 : L1 ≠ L := hL.ne g2 noTb_lst
  have kt : KT H' (K6.del H' L) := fun b zs hb => by
    rw [del_ne fun e => by
      rw [e, hl] at hb
      cases hb]
    exact hb
  exact ⟨dx, L1, es, en, dn, by rw [del_ne n1]; exact h1, by rw [del_ne n2]; exact h2, h3.kt kt, h4⟩
theorem rat_ne {K : PySem.W.Frag} {r L : Addr} {H : Hp} {ts : List Tx} (h : RAt K H r ts) (hL : Fre H L) : L ≠ r := fun e => by
  obtain ⟨dx, fs, g1, _⟩ := rat_ins h
  exact hL.ne g1 noTb_ins e.symm
section
variable {K : PySem.W.Frag} {r : Addr} {σ : L2.St} {H H0 : Hp} {ta te : TE} {ts ts' : List Tx} {d : PyData}
/-- L.append(what is read), by what stood before L was made: all other objects stay -/
theorem s_appD {L : Addr} {es : List V} {ts0 : List Tx} {D : Ends} (k : KR K r H0 H) (hL0 : Fre H0 L) (h0 : RAt K H0 r ts0) (hL : H L = some (.lst es)) (hz : es.length ≤ 1000) (ha : Ev ta σ H (.ref L)) (hr : RAt K H r ts) (h : Rv K r te σ H ts ts' d)
    (kk : ∀ v H2, KR K r H0 H2 → (∀ b xs, b ≠ L → H b = some (.lst xs) → H2 b = some (.lst xs)) → KT H H2 → RAt K H2 r ts' → H2 L = some (.lst (es ++ [v])) → Dt H2 v d → D.nx σ H2) : tDrop (tBM K "list" rAppend ta (tCons te tNil)) D σ H := by
  have nLr := rat_ne h0 hL0
  refine s_appR (H0 := del H L) (KR.ex del_ex) (fre_of del_self) (h0.del k hL0 hL hr) hL hz ha hr h fun v H2 k2 t2 h2 hL2 hd => ?_
  refine kk v H2 ((k.del hL0 hL).trans k2) (fun b xs n hb => ?_) t2 h2 hL2 hd
  have nbr : b ≠ r := fun e => by
    obtain ⟨dx, fs, g1, _⟩ := rat_ins hr
    rw [e, g1] at hb
    cases hb
  exact k2.other b _ nbr noTb_lst (by rw [del_ne n]; exact hb)
end
/-! ### all stays but the tables -/
structure KN (K : PySem.W.Frag) (H H' : Hp) : Prop where
  other : ∀ b o, NoTb o → H b = some o → H' b = some o
  tups : KT H H'
  new : ∀ b, Fre H' b → Fre H b
  tabs : LamX.Tabs (tabT K) H → LamX.Tabs (tabT K) H'
section
variable {K : PySem.W.Frag}
theorem KN.refl (H : Hp) : KN K H H := ⟨fun _ _ _ h => h, KT.refl H, fun _ h => h, id⟩
theorem KN.trans {H H1 H2 : Hp} (a : KN K H H1) (b : KN K H1 H2) : KN K H H2 := ⟨fun c o t h => b.other c o t (a.other c o t h), a.tups.trans b.tups, fun c h => a.new c (b.new c h), fun t => b.tabs (a.tabs t)⟩
theorem KN.ex {H H' : Hp} (e : Ex H H') : KN K H H' := ⟨fun b o _ h => e b o h, KT.ex e, fun _ h => h.back e, fun t => t.ext e⟩
theorem KN.of {r : Addr} {H H1 H2 : Hp} (hr : H r = none) (e : Ex H H1) (k : KR K r H1 H2) : KN K H H2 := ⟨fun b o t h => k.other b o (fun z => by
  rw [z, hr] at h
  cases h) t (e _ _ h), (KT.ex e).trans k.tups, fun b h => (k.new b h).back e, fun t => k.tabs (t.ext e)⟩
end
section
variable {P : Program} {w : World} {K : PySem.W.Frag} {mg : Str → Option Value} {base : Heap}
/-! ### read_function -/
def spFnR (K : PySem.W.Frag) : Sp := Pr3 fun s l b H Q => ∃ (r : Addr) (last : Tx) (f : Fn) (bs : List Tx) (p : Addr) (ts : List Tx), s = .ref r ∧ l = vS last ∧ b = .ref p ∧ FnOk' f ∧ last < f.name ∧ f.name ∉ bs ∧ H p = some (.lst (bs.map vS)) ∧ RAt K H r (f.tks ++ ts) ∧ ∀ v H2, KR K r H H2 → RAt K H2 r ts → Dt H2 v f.py → Q v H2
theorem folE_lit {c : Nat} {x : Tx} {ts : List Tx} (h : c ∉ [36, 64] ++ figL) : FolE ((c :: x) :: ts) := fun d y e => by
  have e' : c :: x = d :: y := e
  injection e' with e1 _
  rw [← e1]
  exact h
theorem word_niU {x : Tx} {c : Nat} {y : Tx} (e : x = c :: y) (hc : c ≠ 125) : (decide (([.str "}", .str ""] : List V).length ≤ 100) && ([.str "}", .str ""] : List V).all flatV && decide (inV (vS x) [.str "}", .str ""] = !true)) = true := by
  have h1 : eqV (.str "}") (vS x) = false := by
    show (Str.ofString "}" == SX.S x) = false
    refine beq_eq_false_iff_ne.mpr fun z => hc ?_
    have : SX.S [125] = SX.S x := by rw [← z]; exact (lit (a := [125])).symm
    have := SX.S_inj this
    rw [e] at this
    injection this with t1 _
    exact t1.symm
  have h2 : eqV (.str "") (vS x) = false := by
    show (Str.ofString "" == SX.S x) = false
    refine beq_eq_false_iff_ne.mpr fun z => ?_
    have : SX.S [] = SX.S x := by rw [← z]; exact (lit (a := [])).symm
    have := SX.S_inj this
    rw [e] at this
    cases this
  have : inV (vS x) [.str "}", .str ""] = false := by
    show (eqV (.str "}") (vS x) || (eqV (.str "") (vS x) || false)) = false
    rw [h1, h2]
    rfl
  rw [this]
  rfl
theorem ty_close : ∀ t : Ty, TyOk t → ∃ a b, [Ty.tk t] = a :: b ∧ a ≠ [41] := fun t _ => ⟨_, _, rfl, fun e => by
  cases t with
  | w n =>
    have e' : 105 :: num n = [41] := e
    injection e' with e1 _
    cases e1
  | ptr => cases e⟩
theorem par_close : ∀ p : Nat × Ty, NumOk p.1 ∧ TyOk p.2 → ∃ a b, parTks p = a :: b ∧ a ≠ [41] := fun p h => by
  obtain ⟨a, b, e1, e2⟩ := ty_close p.2 h.2
  injection e1 with e1 _
  exact ⟨_, _, rfl, by rw [e1]; exact e2⟩
theorem ok_read_function (T : Txt w K mg) (W : Told K) (c_Reader_word : C8.Met P w K mg base 1 (rc K) "word" (spWord K) []) (c_Reader_need : C8.Met P w K mg base 2 (rc K) "need" (spNeed K) []) (c_Reader_one_of : C8.Met P w K mg base 2 (rc K) "one_of" (spOneOf K) [])
    (c_read_new_name : C8.Cal P w K mg base 3 "read_new_name" (spNewR K) []) (c_read_list : C8.Cal P w K mg base 4 "read_list" (spList K (.ref (He.ga K "read_type")) (fun t : Ty => [t.tk]) Ty.py TyOk [40] [41]) []) (c_read_block : C8.Cal P w K mg base 8 "read_block" (spBlkR K) []) : C8.Cal P w K mg base 9 "read_function" (spFnR K) [] := by
  refine T.cal m_def_read_function m_glo_read_function sc_read_function bi_read_function len3 (fun cdv A outer s H vs Q E hr h => ?_)
  obtain ⟨u, u2, u3, rfl, r, last, f, bs, p, ts, rfl, rfl, rfl, ho, hlt, hbs, hp, h, q⟩ := h
  refine ⟨_, (pss_cons (ps_expr (C8.pe_mt c_Reader_need hr (by decide) (pv 0) (pa_cons pe_str pa_nil)))
  (pss_cons (ps_set (i := 3) sc_read_function.nd rfl (Or.inl rfl) (C8.pe_mt c_Reader_one_of hr (by decide) (pv 0) (pa_cons (C8.pe_gc (by rfl) (T.gv m_glo_RESULTS_TOLD)) pa_nil)))
  (pss_cons (ps_set (i := 4) sc_read_function.nd rfl (Or.inl rfl) (C8.pe_c c_read_new_name hr (by decide) (by rfl) (pa_cons (pv 0) (pa_cons (pv 1) (pa_cons (pv 2) pa_nil)))))
  (pss_cons (ps_set (i := 5) sc_read_function.nd rfl (Or.inl rfl) (C8.pe_c c_read_list hr (by decide) (by rfl) (pa_cons (pv 0) (pa_cons pe_str (pa_cons pe_str (pa_cons (C8.pe_gc (by rfl) (T.gv m_glo_read_type)) pa_nil))))))
  (pss_cons (ps_expr (C8.pe_mt c_Reader_need hr (by decide) (pv 0) (pa_cons pe_str pa_nil)))
  (pss_cons (ps_set (i := 6) sc_read_function.nd rfl (Or.inl rfl) (pe_lst (pa_cons (C8.pe_c c_read_block hr (by decide) (by rfl) (pa_cons (pv 0) pa_nil)) pa_nil)))
  (pss_cons (ps_while PassesOwn.never (pt_cmpR op_notIn_seq (C8.pe_mt0 c_Reader_word hr (by decide) (pv 0)) (pe_tup (pa_cons pe_str (pa_cons pe_str pa_nil))) (by rfl)) (pss_one (ps_expr (pe_bm PySem.F.plainAttrs_list PySem.F.slot_list_append PySem.F.type_list_append mt_append (pv 6) (pa_cons (C8.pe_c c_read_block hr (by decide) (by rfl) (pa_cons (pv 0) pa_nil)) pa_nil)))))
  (pss_cons (ps_expr (C8.pe_mt c_Reader_need hr (by decide) (pv 0) (pa_cons pe_str pa_nil)))
  (pss_one (ps_ret (pe_tup (pa_cons (pv 4) (pa_cons (pv 5) (pa_cons (pv 3) (pa_cons (pe_callTy call_tuple_of (by rfl) (T.free m_free_tuple) (by decide +kernel) (pa_cons (pv 6) pa_nil)) pa_nil))))))))))))))), ?_⟩
  have h : RAt K H r (kDefine :: resTk f.res :: (64 :: f.name) :: (lst (fun t => [Ty.tk t]) [40] [41] f.pars ++ ([123] :: (f.blks.flatMap Blk.tks ++ ([125] :: ts))))) := by
    have := h
    simp only [Fn.tks, List.append_assoc, List.cons_append, List.nil_append] at this ⊢
    exact this
  refine (?_ : RvS K r _ _ H _ ts f.py) _ H (KR.refl r H) h q
  refine rvs_need (tk := kDefine) (fun _ => ev_var rfl) (fun _ => ev_lit lit) (rvs_asg (d1 := optPy f.res) (rv_res W (fun _ => ev_var rfl) ho.res) fun v1 H1 k1 hd1 => ?_)
  have hp1 : H1 p = some (.lst (bs.map vS)) := k1.other p _ (fun e => by
    obtain ⟨dx, fs, g1, _⟩ := rat_ins h
    rw [e, g1] at hp
    cases hp) noTb_lst hp
  refine rvs_asg (t1 := lst (fun t => [Ty.tk t]) [40] [41] f.pars ++ ([123] :: (f.blks.flatMap Blk.tks ++ ([125] :: ts)))) (d1 := tx f.name) (fun H2 k2 h2 Q2 q2 => ⟨_, rfl, _, rfl, _, rfl, _, _, _, rfl, r, last, f.name, bs, p, _, rfl, rfl, rfl, ho.name, hlt, hbs, .inl (k2.other p _ (fun e => by
    obtain ⟨dx, fs, g1, _⟩ := rat_ins h2
    have := k2.tups
    obtain ⟨dx0, fs0, g0, _⟩ := rat_ins h
    rw [e, g0] at hp
    cases hp) noTb_lst hp1), h2, q2⟩) fun v2 H2 k2 hd2 => ?_
  refine rvs_asg (rv_list (l := f.pars) (fun _ => ev_var rfl) (fun _ => ev_lit lit) (fun _ => ev_lit lit) (fun _ => ev_c) ho.pars (Nat.le_trans ho.plen (by decide))) fun v3 H3 k3 hd3 => rvs_need (tk := [123]) (fun _ => ev_var rfl) (fun _ => ev_lit lit) ?_
  intro D H4 k4 h4 q4
  obtain ⟨b0, bl, eb⟩ : ∃ b0 bl, f.blks = b0 :: bl := by
    cases hb : f.blks with
    | nil => exact absurd hb ho.bne
    | cons b0 bl => exact ⟨b0, bl, rfl⟩
  have fol : ∀ rs : List Blk, FolE (rs.flatMap Blk.tks ++ ([125] :: ts)) := fun rs => by
    cases rs with
    | nil => exact folE_lit (by decide)
    | cons b rs => exact folE_lit (c := 98) (by decide)
  have h4' : RAt K H4 r (b0.tks ++ (bl.flatMap Blk.tks ++ ([125] :: ts))) := by
    have := h4
    rw [eb, List.flatMap_cons, List.append_assoc] at this
    exact this
  refine (rv_rd (x := b0) (tk := Blk.tks) (py := Blk.py) (fun _ => ev_var rfl) ⟨ho.blks b0 (by rw [eb]; simp), fol bl⟩ : Rv K r _ _ H4 _ _ _) H4 (KR.refl r H4) h4' _ fun v5 H5 k5 h5 hd5 => ⟨sz_of (by show 1 ≤ 100000; omega), fun L hL => ?_⟩
  have e6 : Ex H5 (upd H5 L (.lst [v5])) := Ex.new hL
  have hL0 : Fre H4 L := k5.new L (fre_of hL)
  have noL := rat_ne h4 hL0
  refine q_while (fun m σ' H6 => ∃ dn rs es, dn ++ rs = f.blks ∧ m = rs.length ∧ KR K r H4 H6 ∧ RAt K H6 r (rs.flatMap Blk.tks ++ ([125] :: ts)) ∧ H6 L = some (.lst es) ∧ DtA H6 es (dn.map Blk.py) ∧ σ' = [some (.ref r), some (vS last), some (.ref p), some v1, some v2, some v3, some (.ref L)]) bl.length ⟨[b0], bl, [v5], eb.symm, rfl, k5.trans (KR.ex e6), h5.ex e6, upd_same, .cons (hd5.kt (KT.ex e6)) .nil, rfl⟩ fun m σ' H6 ⟨dn, rs, es, hd, hm, k6, h6, hL6, hes, eσ⟩ => ?_
  subst eσ
  have hel := hes.length
  rw [List.length_map] at hel
  have hlen : dn.length + rs.length = f.blks.length := by rw [← List.length_append, hd]
  have hblen := ho.blen
  cases rs with
  | nil =>
    have h6' : RAt K H6 r ([125] :: ts) := h6
    refine ⟨false, et_niU [.str "}", .str ""] (ev_word (ev_var rfl) h6') (ea_cons ev_c (ea_cons ev_c ea_nil)) rfl (by rw [List.headD_cons]; decide +kernel), (fun e => by cases e), fun _ H7 e7 => ?_⟩
    refine s_need (D := { nx := _, rt := D.rt, bk := _, ct := _ }) (ev_var rfl) (fun _ _ => ev_lit lit) (h6'.ex e7) fun H8 k8 h8 => ?_
    rw [List.append_nil] at hd
    have k78 := (KR.ex (K := K) (r := r) e7).trans k8
    have k38 := k4.trans (k6.trans k78)
    have hL8 := k78.other L _ noL noTb_lst hL6
    exact rvs_ret (rv_tup (ds := [tx f.name, .tuple (f.pars.map Ty.py), optPy f.res, .tuple (f.blks.map Blk.py)]) (rva_cons (rv_var rfl (hd2.kt (k3.trans k38).tups)) (rva_cons (rv_var rfl (hd3.kt k38.tups)) (rva_cons (rv_var rfl (hd1.kt (k2.trans (k3.trans k38)).tups)) (rva_cons (ts := ts) (t1 := ts) (d := .tuple (f.blks.map Blk.py)) (fun H9 k9 h9 Q' q' => ev_tupleL (ev_var rfl) (k9.other L _ noL noTb_lst hL8) fun p H10 e10 hp => q' _ H10 (KR.ex e10) (h9.ex e10) (.tup hp (by
      rw [← hd]
      exact ((hes.kt k78.tups).kt k9.tups).kt (KT.ex e10)))) rva_nil)))) rfl) D H8 (KR.refl r H8) h8 fun v9 H9 k9 => q4 v9 H9 ((k6.trans k78).trans k9)
  | cons a rs =>
    have ha := ho.blks a (by rw [← hd]; simp)
    have h6a : RAt K H6 r (a.tks ++ (rs.flatMap Blk.tks ++ ([125] :: ts))) := by
      have := h6
      rw [List.flatMap_cons, List.append_assoc] at this
      exact this
    have h6' : RAt K H6 r (labTk a.lab :: _) := h6a
    refine ⟨true, et_niU [.str "}", .str ""] (ev_word (ev_var rfl) h6') (ea_cons ev_c (ea_cons ev_c ea_nil)) rfl (word_niU (x := labTk a.lab) rfl (by decide)), fun _ H7 e7 => ?_, (fun e => by cases e)⟩
    refine ⟨fun σ2 H8 => ∃ dn rs' es, dn ++ rs' = f.blks ∧ rs'.length < (a :: rs).length ∧ KR K r H4 H8 ∧ RAt K H8 r (rs'.flatMap Blk.tks ++ ([125] :: ts)) ∧ H8 L = some (.lst es) ∧ DtA H8 es (dn.map Blk.py) ∧ σ2 = [some (.ref r), some (vS last), some (.ref p), some v1, some v2, some v3, some (.ref L)], fun σ2 H8 ⟨dn, rs', es, g1, g3, g4, g5, g6, g7, g8⟩ => ⟨rs'.length, by rw [hm]; exact g3, dn, rs', es, g1, rfl, g4, g5, g6, g7, g8⟩, ?_⟩
    refine s_appR (k6.trans (KR.ex e7)) hL0 h4 (e7 _ _ hL6) (by omega) (ev_var rfl) (h6a.ex e7) (rv_rd (x := a) (tk := Blk.tks) (fun _ => ev_var rfl) ⟨ha, fol rs⟩) fun v H8 k8 t8 h8 hL8 hdv => ?_
    refine ⟨dn ++ [a], rs, es ++ [v], (by rw [← hd]; simp), Nat.lt_succ_self _, k8, h8, hL8, ?_, rfl⟩
    rw [List.map_append]
    exact DtA.app ((hes.kt (KT.ex e7)).kt t8) (.cons hdv .nil)
/-! ### read_op -/
theorem mk_reader {σ : L2.St} {H : Hp} {te : TE} {E : XK} {a : Tx} {g : Bool} {ts : List Tx} {Q : VK} (ha : Ev te σ H (vS a)) (hl : LayF g ts a) (hz : a.length ≤ 60000) (q : ∀ r H2, H r = none → KN K H H2 → RAt K H2 r ts → Q (.ref r) H2) : tMake (rc K) (spInit K) [] E (tCons te tNil) σ H Q :=
  ha H (Ex.refl H) _ fun H1 e1 r dx hr hd hne => by
    have e2 : Ex H1 (upd H1 dx (.own r)) := Ex.new hd
    have hr2 : upd H1 dx (.own r) r = none := by
      rw [upd_ne fun e => hne e.symm]
      exact hr
    have e3 : Ex (upd H1 dx (.own r)) (upd (upd H1 dx (.own r)) r (.ins (rc K) dx [])) := Ex.new hr2
    have ea := e1.trans (e2.trans e3)
    exact ⟨_, _, rfl, r, dx, a, g, ts, rfl, rfl, upd_same, hl, hz, fun H2 k2 h2 => ⟨rfl, q r H2 (fresh_back e1 hr) (KN.of (fresh_back e1 hr) ea k2) h2⟩⟩
theorem q_mkr {σ : L2.St} {H : Hp} {te : TE} {E : XK} {a : Tx} {g : Bool} {ts : List Tx} {i : Nat} {u : TS} {D : Ends} (ha : Ev te σ H (vS a)) (hl : LayF g ts a) (hz : a.length ≤ 60000) (q : ∀ r H2, H r = none → KN K H H2 → RAt K H2 r ts → u D (σ.set i (some (.ref r))) H2) : tSeq (tAsg (tMake (rc K) (spInit K) [] E (tCons te tNil)) (gName i)) u D σ H := by
  have h := mk_reader (E := E) (K := K) (Q := fun v H1 => u D (σ.set i (some v)) H1) ha hl hz q
  exact h
def spTextR (K : PySem.W.Frag) {α : Type} (tk : α → List Tx) (py : α → PyData) (ok : α → Prop) : Sp := Pr1 fun t H Q => ∃ (a : Tx) (g : Bool) (x : α), t = vS a ∧ LayF g (tk x) a ∧ a.length ≤ 60000 ∧ ok x ∧ LamX.Tabs (tabT K) H ∧ ∀ v H2, KN K H H2 → Dt H2 v (py x) → Q v H2
theorem s_close {σ : L2.St} {H : Hp} {ta : TE} {r : Addr} {E : XK} {D : Ends} (ha : Ev ta σ H (.ref r)) (h : RAt K H r []) (k : ∀ H2, Ex H H2 → D.nx σ H2) : tDrop (tMeth (rc K) "close" (spClose K) [] E ta tNil) D σ H := ha H (Ex.refl H) _ fun H2 e2 => by
  obtain ⟨dx, fs, g1, g2⟩ := rat_ins (h.ex e2)
  exact ⟨r, dx, fs, rfl, g1, g2 _ (by decide +kernel), _, rfl, r, rfl, h.ex e2, fun H3 e3 => k H3 (e2.trans e3)⟩
theorem ok_read_op (T : Txt w K mg) (c_Reader : C8.Mak P w K mg base 4 "Reader" (rc K) (spInit K) []) (c_Reader_close : C8.Met P w K mg base 1 (rc K) "close" (spClose K) []) (c_read_any_op : C8.Cal P w K mg base 7 "read_any_op" (spOpR K) []) : CalB P w K mg base 8 "read_op" "text" (spTextR K Op.tks Op.py OpOk) := by
  refine T.calB m_def_read_op m_glo_read_op sc_read_op bi_read_op (fun _ _ _ _ _ _ _ => rfl) len1 (fun cdv A outer s H vs Q E hr h => ?_)
  obtain ⟨u, rfl, a, g, o, rfl, hl, hz, ho, hT, q⟩ := h
  refine ⟨_, (pss_cons (ps_set (i := 1) sc_read_op.nd rfl (Or.inl rfl) (C8.pe_mk c_Reader hr (by decide) (by rfl) (pa_cons (pv 0) pa_nil)))
  (pss_cons (ps_set (i := 2) sc_read_op.nd rfl (Or.inl rfl) (C8.pe_c c_read_any_op hr (by decide) (by rfl) (pa_cons (pv 1) pa_nil)))
  (pss_cons (ps_expr (C8.pe_mt0 c_Reader_close hr (by decide) (pv 1)))
  (pss_one (ps_ret (pv 2)))))), ?_⟩
  refine q_mkr (ev_var rfl) hl hz fun r H1 hr0 k1 h1 => ?_
  have h1' : RAt K H1 r (o.tks ++ []) := by
    rw [List.append_nil]
    exact h1
  refine (rv_rd (x := o) (tk := Op.tks) (py := Op.py) (fun _ => ev_var rfl) ho : Rv K r _ _ H1 _ _ _) H1 (KR.refl r H1) h1' _ fun v H2 k2 h2 hd => ?_
  refine s_close (D := { nx := _, rt := Q, bk := _, ct := _ }) (ev_var rfl) h2 fun H3 e3 => s_ret (ev_var rfl) fun H4 e4 => ?_
  have k02 : KN K H H2 := ⟨fun b o t h => k2.other b o (fun z => by
    rw [z, hr0] at h
    cases h) t (k1.other b o t h), k1.tups.trans k2.tups, fun b h => k1.new b (k2.new b h), fun t => k2.tabs (k1.tabs t)⟩
  exact q v H4 (k02.trans (KN.ex (e3.trans e4))) (hd.kt (KT.ex (e3.trans e4)))
/-! ### read_module -/
def spGbR (K : PySem.W.Frag) : Sp := Pr2 fun s l H Q => ∃ (r : Addr) (last : Tx) (g : Gb) (ts : List Tx), s = .ref r ∧ l = vS last ∧ GbOk g ∧ last < g.name ∧ LamX.Tabs (tabT K) H ∧ RAt K H r (g.tks ++ ts) ∧ ∀ v H2, KR K r H H2 → RAt K H2 r ts → Dt H2 v g.py → Q v H2
theorem asc_last {l : List Tx} {a b : Tx} : Asc (l ++ a :: [b]) → a < b := by
  induction l with
  | nil => exact fun h => h.1
  | cons x l ih =>
    intro h
    cases l with
    | nil => exact h.2.1
    | cons y l => exact ih h.2
theorem asc_pre : ∀ {l r : List Tx}, Asc (l ++ r) → Asc l
  | [], _, _ => trivial
  | [_], _, _ => trivial
  | a :: b :: l, r, h => ⟨h.1, asc_pre (l := b :: l) (r := r) h.2⟩
/-- the last name so far -/
def lastN : List Tx → Tx
  | [] => []
  | [a] => a
  | _ :: r => lastN r
theorem lastN_app (l : List Tx) (a : Tx) : lastN (l ++ [a]) = a := by
  induction l with
  | nil => rfl
  | cons x l ih =>
    cases l with
    | nil => rfl
    | cons y l => exact ih
theorem last_lt {l : List Tx} {a : Tx} (h : Asc (l ++ [a])) (hne : a ≠ []) : lastN l < a := by
  rcases List.eq_nil_or_concat l with rfl | ⟨m, b, rfl⟩
  · cases a with
    | nil => exact absurd rfl hne
    | cons c x => exact List.nil_lt_cons c x
  · rw [List.concat_eq_append] at h ⊢
    rw [lastN_app]
    rw [List.append_assoc] at h
    exact asc_last h
theorem ixL_last {K : PySem.W.Frag} {σ : L2.St} {H : Hp} {ta : TE} {L : Addr} {es : List V} {v : V} (ha : Ev ta σ H (.ref L)) (hL : H L = some (.lst (es ++ [v]))) : Ev (tOp (rIxL K) ta (tUn (rU fun i => .int (-i)) (tC (.int 1)))) σ H v :=
  ev_op ha (ev_un ev_c ru_neg) (rv_ixL (sq_of hL) (by
    have : atI (es ++ [v]) (-1) = some v := by
      unfold atI ixN
      rw [if_neg (by decide), if_pos (by simp; omega), Option.bind_some]
      have e : ((-1 : Int) + ((es ++ [v]).length : Int)).toNat = es.length := by
        rw [List.length_append]
        simp
        omega
      rw [e]
      simp
    exact this))
/-- [e for x in a list of data] -/
theorem el_lcLD {K : PySem.W.Frag} {σ : L2.St} {H : Hp} {tl te : TE} {a : Addr} {xs ys : List V} {j : Nat} {vs : List Nat} (h : Ev tl σ H (.ref a)) (hx : H a = some (.lst xs)) (hlen : ys.length = xs.length) (hz : xs.length ≤ 40000) (hw : ∀ x, wipe ((wipe σ vs).set j (some x)) vs = wipe σ vs)
    (he : ∀ (i : Nat) (x y : V) (H1 : Hp), Ex H H1 → xs[i]? = some x → ys[i]? = some y → Ev te ((wipe σ vs).set j (some x)) H1 y) : EvL (tLc (iList K tl) (gName j) tYes te vs) σ H ys := fun H0 e Q q => h H0 e _ fun H1 e1 => ⟨a, rfl, ⟨xs, sq_of (e1 a _ (e a _ hx))⟩, fun D hD =>
  lc_list (xs := xs) (fun i H' => H1 D = none ∧ Ex H1 H' ∧ H' D = some (.lst (ys.take i))) ⟨hD, Ex.new hD, by rw [List.take_zero]; exact upd_same⟩
    (fun i H' _ p => sq_of (p.2.1 a _ (e1 a _ (e a _ hx))))
    (fun i x H' hi p => by
      have hl : i < xs.length := (List.getElem?_eq_some_iff.mp hi).1
      obtain ⟨y, hy⟩ : ∃ y, ys[i]? = some y := ⟨ys[i], List.getElem?_eq_getElem (by omega)⟩
      refine ⟨hw _, ?_⟩
      simp only [tYes, if_true]
      refine he i x y H' ((e.trans e1).trans p.2.1) hi hy H' (Ex.refl H') _ fun H4 e4 => ⟨ys.take i, e4 D _ p.2.2, sz_lt (by rw [List.length_take]; omega), p.1, Ex.mut (p.2.1.trans e4) p.1, ?_⟩
      rw [List.take_add_one, hy]
      exact upd_same)
    (fun H' p => q D H' (fresh_back e1 p.1) (e1.trans p.2.1) (by
      have h2 := p.2.2
      rw [← hlen, List.take_length] at h2
      exact h2))⟩
def Md.names (m : Md) : List Tx := m.gs.map (·.name)
theorem s_par3L {σ : L2.St} {H : Hp} {i j l : Nat} {v : V} {te : TE} {u : TS} {D : Ends} (h : ∀ H1, Ev te σ H1 v) (k : ∀ L F H1, H L = none → H F = none → F ≠ L → Ex H H1 → H1 L = some (.lst []) → H1 F = some (.lst []) → u D (((σ.set i (some (.ref L))).set j (some (.ref F))).set l (some v)) H1) :
    tSeq (tPar3 i j l (tCons (tLst tNil) (tCons (tLst tNil) (tCons te tNil)))) u D σ H :=
  ⟨sz_of (Nat.zero_le _), fun L hL => ⟨sz_of (Nat.zero_le _), fun F hF => h _ _ (Ex.refl _) _ fun H2 e2 => ⟨_, _, _, rfl, by
    have hne : F ≠ L := fun e => by
      rw [e, upd_same] at hF
      cases hF
    have hF0 : H F = none := fresh_back (Ex.new hL) hF
    exact k L F H2 hL hF0 hne ((Ex.new hL).trans ((Ex.new hF).trans e2)) (e2 _ _ ((Ex.new hF) _ _ upd_same)) (e2 _ _ upd_same)⟩⟩⟩
theorem q_parLc {σ : L2.St} {H : Hp} {i j : Nat} {xs : List V} {v : V} {ta te : TE} {u : TS} {D : Ends} (hl : EvL ta σ H xs) (h : ∀ H1, Ev te σ H1 v) (k : ∀ L H1, H L = none → Ex H H1 → H1 L = some (.lst xs) → u D ((σ.set i (some (.ref L))).set j (some v)) H1) : tSeq (tPar i j (tCons ta (tCons te tNil))) u D σ H :=
  hl H (Ex.refl H) _ fun L H1 hL e1 hL1 => h H1 H1 (Ex.refl H1) _ fun H2 e2 => ⟨_, _, rfl, k L H2 hL (e1.trans e2) (e2 _ _ hL1)⟩
theorem s_ret2T {K : PySem.W.Frag} {σ : L2.St} {H : Hp} {ta tb : TE} {L F : Addr} {es es2 : List V} {D : Ends} (ha : Ev ta σ H (.ref L)) (hb : ∀ H1, Ex H H1 → Ev tb σ H1 (.ref F)) (hL : H L = some (.lst es)) (hF : H F = some (.lst es2)) (q : ∀ p1 p2 p3 H1 H2, Ex H H1 → Ex H1 H2 → H1 p1 = some (.tup es) → H2 p2 = some (.tup es2) → H2 p3 = none → D.rt (.ref p3) (upd H2 p3 (.tup [.ref p1, .ref p2]))) :
    tRet (tTup (tCons (tCB (fun xs H Q => ∃ p ys, xs = [V.ref p] ∧ ((SqL K H p ys ∧ ∀ l, H l = none → Q (.ref l) (upd H l (.tup ys))) ∨ (SqT K H p ys ∧ Q (.ref p) H))) (tCons ta tNil)) (tCons (tCB (fun xs H Q => ∃ p ys, xs = [V.ref p] ∧ ((SqL K H p ys ∧ ∀ l, H l = none → Q (.ref l) (upd H l (.tup ys))) ∨ (SqT K H p ys ∧ Q (.ref p) H))) (tCons tb tNil)) tNil))) D σ H := by
  have h := ev_tupleL (K := K) (Q := fun v H1 => tCons (tCB (fun xs H Q => ∃ p ys, xs = [V.ref p] ∧ ((SqL K H p ys ∧ ∀ l, H l = none → Q (.ref l) (upd H l (.tup ys))) ∨ (SqT K H p ys ∧ Q (.ref p) H))) (tCons tb tNil)) tNil σ H1 fun vs H2 => (v :: vs).length ≤ sizeLine ∧ ∀ p, H2 p = none → D.rt (.ref p) (upd H2 p (.tup (v :: vs)))) ha hL fun p1 H1 e1 hp1 =>
    ev_tupleL (K := K) (Q := fun v H2 => ([V.ref p1, v].length ≤ sizeLine ∧ ∀ p, H2 p = none → D.rt (.ref p) (upd H2 p (.tup [.ref p1, v])))) (hb H1 e1) (e1 _ _ hF) fun p2 H2 e2 hp2 => ⟨sz_of (by show 2 ≤ 100000; omega), fun p3 hp3 => q p1 p2 p3 H1 H2 e1 e2 hp1 hp2 hp3⟩
  exact h
theorem ok_read_module (T : Txt w K mg) (c_Reader : C8.Mak P w K mg base 4 "Reader" (rc K) (spInit K) []) (c_Reader_word : C8.Met P w K mg base 1 (rc K) "word" (spWord K) []) (c_Reader_close : C8.Met P w K mg base 1 (rc K) "close" (spClose K) []) (c_read_global : C8.Cal P w K mg base 6 "read_global" (spGbR K) []) (c_read_function : C8.Cal P w K mg base 9 "read_function" (spFnR K) []) :
    CalB P w K mg base 10 "read_module" "text" (spTextR K Md.tks Md.py MdOk) := by
  refine T.calB m_def_read_module m_glo_read_module sc_read_module bi_read_module (fun _ _ _ _ _ _ _ => rfl) len1 (fun cdv A outer s H vs Q E hr h => ?_)
  obtain ⟨u, rfl, a, g, m, rfl, hl, hz, ho, hT, q⟩ := h
  refine ⟨_, (pss_cons (ps_set (i := 1) sc_read_module.nd rfl (Or.inl rfl) (C8.pe_mk c_Reader hr (by decide) (by rfl) (pa_cons (pv 0) pa_nil)))
  (pss_cons (ps_par3 (i := 2) (j := 3) (l := 4) (by rfl) sc_read_module.nd rfl rfl rfl (by decide) (by decide) (by decide) rfl rfl rfl (pa_cons (pe_lst pa_nil) (pa_cons (pe_lst pa_nil) (pa_cons pe_str pa_nil))) (by rfl))
  (pss_cons (ps_while PassesOwn.never (pt_cmpR op_eq (pe_slice C8.sl_txt (C8.pe_mt0 c_Reader_word hr (by decide) (pv 1)) po_none (po_some pe_int)) pe_str (nomark _)) (pss_cons (ps_expr (pe_bm PySem.F.plainAttrs_list PySem.F.slot_list_append PySem.F.type_list_append mt_append (pv 2) (pa_cons (C8.pe_c c_read_global hr (by decide) (by rfl) (pa_cons (pv 1) (pa_cons (pv 4) pa_nil))) pa_nil)))
  (pss_one (ps_set (i := 4) sc_read_module.nd rfl (Or.inl rfl) (pe_ix ix_tup (pe_ix ix_list (pv 2) (pe_un un_neg pe_int) (fun _ _ => rfl)) pe_int (fun _ _ => rfl))))))
  (pss_cons (ps_par (i := 5) (j := 4) (by rfl) sc_read_module.nd rfl rfl (by decide) rfl rfl (pa_cons (pe_lc (own := [("one", 6)]) (g := gName 6) rfl sc_read_module.nd (pi_list (pv 2)) (blkOk_by (N := n_read_module) (sc := defScope s_read_module) (by decide +kernel)) (fun _ _ _ _ _ => (pg_name (i := 6) sc_read_module.nd rfl (Or.inl rfl))) (fun _ _ _ _ _ => pts_nil) (fun _ _ _ _ _ => (pe_ix (r := rIxT K) ix_tup (pv 6) pe_int (fun _ _ => rfl)))) (pa_cons pe_str pa_nil)) (by rfl))
  (pss_cons (ps_while PassesOwn.never (pt_cmpR op_eq (C8.pe_mt0 c_Reader_word hr (by decide) (pv 1)) pe_str (nomark _)) (pss_cons (ps_expr (pe_bm PySem.F.plainAttrs_list PySem.F.slot_list_append PySem.F.type_list_append mt_append (pv 3) (pa_cons (C8.pe_c c_read_function hr (by decide) (by rfl) (pa_cons (pv 1) (pa_cons (pv 4) (pa_cons (pv 5) pa_nil)))) pa_nil)))
  (pss_one (ps_set (i := 4) sc_read_module.nd rfl (Or.inl rfl) (pe_ix ix_tup (pe_ix ix_list (pv 3) (pe_un un_neg pe_int) (fun _ _ => rfl)) pe_int (fun _ _ => rfl))))))
  (pss_cons (ps_expr (C8.pe_mt0 c_Reader_close hr (by decide) (pv 1)))
  (pss_one (ps_ret (pe_tup (pa_cons (pe_callTy call_tuple_of (by rfl) (T.free m_free_tuple) (by decide +kernel) (pa_cons (pv 2) pa_nil)) (pa_cons (pe_callTy call_tuple_of (by rfl) (T.free m_free_tuple) (by decide +kernel) (pa_cons (pv 3) pa_nil)) pa_nil))))))))))), ?_⟩
  refine q_mkr (ev_var rfl) hl hz fun r H1 hr0 k1 h1 => ?_
  have hT1 := k1.tabs hT
  refine s_par3L (fun _ => ev_lit (L := []) lit) fun L F H2 hL0 hF0 hFL e2 hL2 hF2 => ?_
  have h2 := h1.ex e2
  have nLr := rat_ne h1 (fre_of hL0)
  have nFr := rat_ne h1 (fre_of hF0)
  have mk2 : ∀ t : Tx, t = [64] → (V.str "@") = vS t := fun t e => by
    rw [e]
    exact congrArg V.str lit
  -- the globals
  refine q_while (fun n σ' H3 => ∃ dn rs es, dn ++ rs = m.gs ∧ n = rs.length ∧ KR K r H1 H3 ∧ RAt K H3 r (rs.flatMap Gb.tks ++ m.fs.flatMap Fn.tks) ∧ H3 L = some (.lst es) ∧ H3 F = some (.lst []) ∧ DtA H3 es (dn.map Gb.py) ∧ σ' = [some (vS a), some (.ref r), some (.ref L), some (.ref F), some (vS (lastN (dn.map (·.name)))), none, none]) m.gs.length
    ⟨[], m.gs, [], rfl, rfl, KR.ex e2, h2, hL2, hF2, .nil, rfl⟩ fun n σ' H3 ⟨dn, rs, es, hd, hn, k3, h3, hL3, hF3, hes, eσ⟩ => ?_
  subst eσ
  have hel := hes.length
  rw [List.length_map] at hel
  have hlen : dn.length + rs.length = m.gs.length := by rw [← List.length_append, hd]
  have hglen := ho.glen
  cases rs with
  | cons gb rs =>
    have hgb := ho.gs gb (by rw [← hd]; simp)
    have h3a : RAt K H3 r (gb.tks ++ (rs.flatMap Gb.tks ++ m.fs.flatMap Fn.tks)) := by
      have := h3
      rw [List.flatMap_cons, List.append_assoc] at this
      exact this
    refine ⟨true, et_eq0 (ev_first' (ev_var rfl) h3a) ev_c rfl (decide_eq_true (mk2 _ rfl).symm), fun _ H4 e4 => ?_, fun e => by cases e⟩
    refine ⟨fun σ2 H5 => ∃ dn rs' es, dn ++ rs' = m.gs ∧ rs'.length < (gb :: rs).length ∧ KR K r H1 H5 ∧ RAt K H5 r (rs'.flatMap Gb.tks ++ m.fs.flatMap Fn.tks) ∧ H5 L = some (.lst es) ∧ H5 F = some (.lst []) ∧ DtA H5 es (dn.map Gb.py) ∧ σ2 = [some (vS a), some (.ref r), some (.ref L), some (.ref F), some (vS (lastN (dn.map (·.name)))), none, none],
      fun σ2 H5 ⟨dn, rs', es, g1, g2, g3, g4, g5, g6, g7, g8⟩ => ⟨rs'.length, by rw [hn]; exact g2, dn, rs', es, g1, rfl, g3, g4, g5, g6, g7, g8⟩, ?_⟩
    have hasc : lastN (dn.map (·.name)) < gb.name := by
      refine last_lt (asc_pre (r := rs.map (·.name)) ?_) hgb.name.ne
      have := ho.gasc
      rw [← hd] at this
      simpa using this
    have k4 := k3.trans (KR.ex (K := K) (r := r) e4)
    refine s_appD (d := gb.py) (ts' := rs.flatMap Gb.tks ++ m.fs.flatMap Fn.tks) k4 (fre_of hL0) h1 (e4 _ _ hL3) (by omega) (ev_var rfl) (h3a.ex e4) (fun H5 k5 h5 Q5 q5 => ⟨_, rfl, _, rfl, _, _, rfl, r, _, gb, _, rfl, rfl, hgb, hasc, (k4.trans k5).tabs hT1, h5, q5⟩) fun v H5 k5 o5 t5 h5 hL5 hd5 => ?_
    have hd5' := hd5
    obtain ⟨p, y1, y2, y3, y4, rfl, hp, d1, d2, d3, d4⟩ := hd5.e4
    obtain rfl := d1.strE
    refine s_asg (v := vS gb.name) (ev_at (i := 0) (ixL_last (ev_var rfl) hL5) hp rfl) fun H6 e6 => ?_
    refine ⟨dn ++ [gb], rs, es ++ [.ref p], (by rw [← hd]; simp), Nat.lt_succ_self _, k5.trans (KR.ex e6), h5.ex e6, e6 _ _ hL5, e6 _ _ (o5 F _ hFL (e4 _ _ hF3)), ?_, ?_⟩
    · rw [List.map_append]
      exact (DtA.app ((hes.kt (KT.ex e4)).kt t5) (.cons hd5' .nil)).kt (KT.ex e6)
    · rw [List.map_append]
      show _ = [some (vS a), some (.ref r), some (.ref L), some (.ref F), some (vS (lastN (dn.map (·.name) ++ [gb.name]))), none, none]
      rw [lastN_app]
      rfl
  | nil =>
    have h3a : RAt K H3 r (m.fs.flatMap Fn.tks) := h3
    have hw1 : decide (vS (((m.fs.flatMap Fn.tks).headD []).take 1) = V.str "@") = false := by
      rw [mk2 _ rfl]
      cases m.fs with
      | nil => decide +kernel
      | cons f fs => exact (by decide +kernel : decide (vS (kDefine.take 1) = vS [64]) = false)
    refine ⟨false, et_eq0 (ev_first' (ev_var rfl) h3a) ev_c rfl hw1, (fun e => by cases e), fun _ H4 e4 => ?_⟩
    rw [List.append_nil] at hd
    subst hd
    have hnm : ∀ H5, Ex H4 H5 → ∀ (i : Nat) (x y : V), es[i]? = some x → ((m.gs.map (·.name)).map vS)[i]? = some y → ∃ p y2 y3 y4, x = .ref p ∧ H5 p = some (.tup [y, y2, y3, y4]) := fun H5 e5 i x y hi hy => by
      obtain ⟨gb, hg, hdg⟩ := hes.mapGet hi
      obtain ⟨p, y1, y2, y3, y4, rfl, hp, d1, d2, d3, d4⟩ := hdg.e4
      obtain rfl := d1.strE
      rw [List.map_map, List.getElem?_map, hg] at hy
      obtain rfl := Option.some.inj hy
      exact ⟨p, y2, y3, y4, rfl, e5 _ _ (e4 _ _ hp)⟩
    refine q_parLc (el_lcLD (ys := (m.gs.map (·.name)).map vS) (ev_var rfl) (e4 _ _ hL3) (by rw [List.length_map, List.length_map, hel]) (by omega) (fun _ => rfl) fun i x y H5 e5 hi hy => by
      obtain ⟨p, y2, y3, y4, rfl, hp⟩ := hnm H5 e5 i x y hi hy
      exact ev_at (i := 0) (ev_var rfl) hp rfl) (fun _ => ev_lit (L := []) lit) fun N H5 hN0 e5 hN5 => ?_
    have k5 := k3.trans (KR.ex (K := K) (r := r) (e4.trans e5))
    have nFN : N ≠ F := fun e => by
      rw [e, e4 _ _ hF3] at hN0
      cases hN0
    have nFL2 : L ≠ F := fun e => hFL e.symm
    refine q_while (fun n σ' H6 => ∃ dn rs es2, dn ++ rs = m.fs ∧ n = rs.length ∧ KR K r H1 H6 ∧ RAt K H6 r (rs.flatMap Fn.tks) ∧ H6 L = some (.lst es) ∧ H6 F = some (.lst es2) ∧ H6 N = some (.lst ((m.gs.map (·.name)).map vS)) ∧ DtA H6 es (m.gs.map Gb.py) ∧ DtA H6 es2 (dn.map Fn.py) ∧ σ' = [some (vS a), some (.ref r), some (.ref L), some (.ref F), some (vS (lastN (dn.map (·.name)))), some (.ref N), none]) m.fs.length
      ⟨[], m.fs, [], rfl, rfl, k5, h3a.ex (e4.trans e5), (e4.trans e5) _ _ hL3, (e4.trans e5) _ _ hF3, hN5, hes.kt (KT.ex (e4.trans e5)), .nil, rfl⟩ fun n σ' H6 ⟨dn, rs, es2, hd, hn, k6, h6, hL6, hF6, hN6, hes6, hes2, eσ⟩ => ?_
    subst eσ
    have hel2 := hes2.length
    rw [List.length_map] at hel2
    have hlen2 : dn.length + rs.length = m.fs.length := by rw [← List.length_append, hd]
    have hflen := ho.flen
    cases rs with
    | cons f rs =>
      have hff := ho.fs f (by rw [← hd]; simp)
      have h6a : RAt K H6 r (f.tks ++ rs.flatMap Fn.tks) := by
        have := h6
        rw [List.flatMap_cons] at this
        exact this
      refine ⟨true, et_SK (a := kDefine) (ev_word (ev_var rfl) h6a) ev_c (by decide +kernel), fun _ H7 e7 => ?_, fun e => by cases e⟩
      refine ⟨fun σ2 H8 => ∃ dn rs' es2, dn ++ rs' = m.fs ∧ rs'.length < (f :: rs).length ∧ KR K r H1 H8 ∧ RAt K H8 r (rs'.flatMap Fn.tks) ∧ H8 L = some (.lst es) ∧ H8 F = some (.lst es2) ∧ H8 N = some (.lst ((m.gs.map (·.name)).map vS)) ∧ DtA H8 es (m.gs.map Gb.py) ∧ DtA H8 es2 (dn.map Fn.py) ∧ σ2 = [some (vS a), some (.ref r), some (.ref L), some (.ref F), some (vS (lastN (dn.map (·.name)))), some (.ref N), none],
        fun σ2 H8 ⟨dn, rs', es2, g1, g2, g3, g4, g5, g6, g7, g8, g9, g0⟩ => ⟨rs'.length, by rw [hn]; exact g2, dn, rs', es2, g1, rfl, g3, g4, g5, g6, g7, g8, g9, g0⟩, ?_⟩
      have hasc : lastN (dn.map (·.name)) < f.name := by
        refine last_lt (asc_pre (r := rs.map (·.name)) ?_) hff.name.ne
        have := ho.fasc
        rw [← hd] at this
        simpa using this
      have hbar : f.name ∉ m.gs.map (·.name) := fun hm => by
        obtain ⟨gb, hg, e⟩ := List.mem_map.mp hm
        exact ho.apart f (by rw [← hd]; simp) gb hg e.symm
      have k7 := k6.trans (KR.ex (K := K) (r := r) e7)
      have nNr : N ≠ r := fun e => by
        obtain ⟨dx, fs, g1, _⟩ := rat_ins h6a
        rw [← e, hN6] at g1
        cases g1
      have nrF : F ≠ r := nFr
      refine s_appD (d := f.py) (ts' := rs.flatMap Fn.tks) k7 (fre_of hF0) h1 (e7 _ _ hF6) (by omega) (ev_var rfl) (h6a.ex e7) (fun H8 k8 h8 Q8 q8 => ⟨_, rfl, _, rfl, _, rfl, _, _, _, rfl, r, _, f, _, N, _, rfl, rfl, rfl, hff, hasc, hbar, k8.other N _ nNr noTb_lst (e7 _ _ hN6), h8, q8⟩) fun v H8 k8 o8 t8 h8 hF8 hd8 => ?_
      have hd8' := hd8
      obtain ⟨p, y1, y2, y3, y4, rfl, hp, d1, d2, d3, d4⟩ := hd8.e4
      obtain rfl := d1.strE
      refine s_asg (v := vS f.name) (ev_at (i := 0) (ixL_last (ev_var rfl) hF8) hp rfl) fun H9 e9 => ?_
      refine ⟨dn ++ [f], rs, es2 ++ [.ref p], (by rw [← hd]; simp), Nat.lt_succ_self _, k8.trans (KR.ex e9), h8.ex e9, e9 _ _ (o8 L _ nFL2 (e7 _ _ hL6)), e9 _ _ hF8, e9 _ _ (o8 N _ nFN (e7 _ _ hN6)), ((hes6.kt (KT.ex e7)).kt t8).kt (KT.ex e9), ?_, ?_⟩
      · rw [List.map_append]
        exact (DtA.app ((hes2.kt (KT.ex e7)).kt t8) (.cons hd8' .nil)).kt (KT.ex e9)
      · rw [List.map_append]
        show _ = [some (vS a), some (.ref r), some (.ref L), some (.ref F), some (vS (lastN (dn.map (·.name) ++ [f.name]))), some (.ref N), none]
        rw [lastN_app]
        rfl
    | nil =>
      have h6a : RAt K H6 r [] := h6
      refine ⟨false, et_SK (a := []) (ev_word (ev_var rfl) h6a) ev_c (by decide +kernel), (fun e => by cases e), fun _ H7 e7 => ?_⟩
      rw [List.append_nil] at hd
      subst hd
      refine s_close (D := { nx := _, rt := Q, bk := _, ct := _ }) (ev_var rfl) (h6a.ex e7) fun H8 e8 => ?_
      have e68 := e7.trans e8
      refine s_ret2T (ev_var rfl) (fun _ _ => ev_var rfl) (e68 _ _ hL6) (e68 _ _ hF6) fun p1 p2 p3 H9 H10 e9 e10 hp1 hp2 hp3 => ?_
      have e11 : Ex H10 (upd H10 p3 (.tup [.ref p1, .ref p2])) := Ex.new hp3
      have e6 := e68.trans (e9.trans (e10.trans e11))
      have k02 : KN K H H6 := ⟨fun b o t h => k6.other b o (fun z => by
        rw [z, hr0] at h
        cases h) t (k1.other b o t h), k1.tups.trans k6.tups, fun b h => k1.new b (k6.new b h), fun t => k6.tabs (k1.tabs t)⟩
      exact q _ _ (k02.trans (KN.ex e6)) (.tup upd_same (.cons (.tup (e11 _ _ (e10 _ _ hp1)) (hes6.kt (KT.ex e6))) (.cons (.tup (e11 _ _ hp2) (hes2.kt (KT.ex e6))) .nil)))
end
end K6
/-! K6D6: a lambda of one parameter, handed to read_list; read_global. -/
namespace K6
open PySem PySem.Spec PyProof.Rows L2 Evl
/-- one parameter a; beside it captured names and globals -/
structure LamP (sc scope : Scope) (a : Str) : Prop where
  kind : scope.kind = .function
  co : scope.isCoroutine = false
  gen : scope.isGenerator = false
  own : ∀ y ∈ scope.names, y.2 ≠ .cell ∧ (y.2 = .local → y.1 = a)
  par : scope.names.lookup a = some .local
  free : ∀ y ∈ scope.names, y.2 = .free → sc.names.lookup y.1 = some .cell ∨ sc.names.lookup y.1 = some .free
def lamPB (sc scope : Scope) (a : Str) : Bool :=
  decide (scope.kind = .function) && !scope.isCoroutine && !scope.isGenerator && decide (scope.names.lookup a = some .local) && scope.names.all fun y => !decide (y.2 = .cell) && (!decide (y.2 = .local) || decide (y.1 = a)) && (!decide (y.2 = .free) || decide (sc.names.lookup y.1 = some .cell) || decide (sc.names.lookup y.1 = some .free))
theorem lamP_by {sc scope : Scope} {a : Str} (h : lamPB sc scope a = true) : LamP sc scope a := by
  unfold lamPB at h
  simp only [Bool.and_eq_true, Bool.or_eq_true, Bool.not_eq_true', decide_eq_true_eq, decide_eq_false_iff_not, List.all_eq_true] at h
  obtain ⟨⟨⟨⟨h1, h2⟩, h3⟩, h4⟩, h5⟩ := h
  refine ⟨h1, h2, h3, fun y hy => ⟨(h5 y hy).1.1, fun e => (h5 y hy).1.2.elim (fun z => absurd e z) id⟩, h4, fun y hy e => ?_⟩
  exact (h5 y hy).2.elim (fun z => z.elim (fun z => absurd e z) .inl) .inr
theorem LamP.has {X : Cx} {scope : Scope} {a : Str} (L : LamP X.env.scope scope a) (ok : X.Ok) : ∀ y ∈ scope.names, y.2 = .free → ∃ c, X.env.cells.lookup y.1 = some c := fun y hy e => (L.free y hy e).elim (fun k => ok.has _ (.inl k)) (fun k => ok.has _ (.inr k))
/-- the context of the lambda's body -/
def lamCx1 (X : Cx) (A : Around) (outer : List Env) (s : Shared) (H : Hp) (E : XK) (scope : Scope) (f c' : Addr) (a : Str) : Cx := { LamX.lamCx X A outer s H E scope f c' with N := X.N ++ [a] }
section
variable {X : Cx} {pins : List (Addr × Obj)} {σ : L2.St} {H HZ : Hp} {s s1 : Shared}
theorem lam_in1 {A : Around} {outer : List Env} {E : XK} {scope : Scope} {f c' : Addr} {h₁ : Heap} {tk : Nat} {a : Str} {x : V} {u : Value} (I : Inv X pins σ H s) (L : LamP X.env.scope scope a) (ha : a ∉ X.N) (e0 : Env0 X.prog X.w X.K X.mg X.base A outer s1 HZ) (hd : A.handled = none)
    (un : Un (frs X.stack) [] H HZ s.heap s1.heap) (hns : h₁.Ns s1.heap.objs.size fun y => [(a, u)].reverse.lookup y) (kp : ∀ b o, s1.heap.get? b = some o → h₁.get? b = some o) (ru : L2.RelV x u) :
    Inv (lamCx1 X A outer s1 HZ E scope f c' a) [] (σ ++ [some x]) HZ { s1 with heap := h₁, toks := tk } := by
  have hfree := L.has I.ok
  have below : ∀ {y c}, (cloFrom X.env.cells scope.names []).lookup y = some c → X.env.cells.lookup y = some c := fun {y c} e => by
    rcases cloFrom_mem (PySem.mem_of_lookup e) with hm | ⟨g1, g2⟩
    · cases hm
    · obtain ⟨c1, hc⟩ := hfree _ g1 rfl
      have hc : X.env.cells.lookup y = some c1 := hc
      rw [g2, hc] <;> rfl
  have there : ∀ {y}, scope.names.lookup y = some .free → ∃ c, (cloFrom X.env.cells scope.names []).lookup y = some c := fun {y} hl =>
    mem_lookup (cloFrom_has (cells := X.env.cells) (acc := []) (PySem.mem_of_lookup hl))
  have still : ∀ {c : Addr} {v : Option Value}, H c = none → s.heap.IsCell c v → h₁.IsCell c v := fun {c v} n ⟨o, ho, hdat⟩ => by
    obtain ⟨sl, q⟩ := un.any ho n (by simp)
    exact ⟨_, kp _ _ q, hdat⟩
  have noA : ∀ b : Addr, b ∉ (lamCx1 X A outer s1 HZ E scope f c' a).ex := fun b z => by
    have z' : b ∈ ([] : List Addr) := z
    cases z'
  refine ⟨⟨e0.mod, L.kind, rfl, rfl, Nat.le_refl _, fun y z c q1 q2 => I.ok.inj y z c (below q1) (below q2), fun y hy => ?_, fun y c z _ => ?_, fun _ => hd, Around.frames_deeper e0.frames, .inr ⟨rfl, rfl⟩, fun b z => absurd z (noA b), e0.bs, e0.bsz, fun b _ _ => noA b, fun b z => absurd z (noA b), e0.funs, e0.frf⟩,
    rfl, e0.bare, Un.kept kp, ⟨_, hns, fun i y v q1 q2 q3 => ?_⟩, fun y c e => ?_, e0.hok.fresh (Nat.le_refl _), fun y c e => ?_, fun q hq => ?_, e0.hok.kept kp, ?_⟩
  · have hy : scope.names.lookup y = some .cell ∨ scope.names.lookup y = some .free := hy
    exact hy.elim (fun hy => absurd rfl (L.own _ (PySem.mem_of_lookup hy)).1) fun hy => there hy
  · cases (show false = true from z)
  · have q3 : Vis scope y := q3
    have hN : (X.N ++ [a])[i]? = some y := q1
    have hσ : (σ ++ [some x])[i]? = some (some v) := q2
    have hlen := I.len
    by_cases hi : i < X.N.length
    · rw [List.getElem?_append_left hi] at hN
      rw [List.getElem?_append_left (by rw [hlen]; exact hi)] at hσ
      have hya : y ≠ a := fun e => ha (by rw [← e]; exact List.mem_of_getElem? hN)
      rcases q3 with k | k | k
      · exact absurd ((L.own _ (PySem.mem_of_lookup k)).2 rfl) hya
      · exact absurd rfl (L.own _ (PySem.mem_of_lookup k)).1
      · obtain ⟨m, _, hl⟩ := I.loc
        have hvis : Vis X.env.scope y := (L.free _ (PySem.mem_of_lookup k) rfl).elim (fun k => .inr (.inl k)) (fun k => .inr (.inr k))
        obtain ⟨w', r, q⟩ := hl i y v hN hσ hvis
        obtain ⟨c2, g2⟩ := there k
        refine ⟨w', r, .inr ⟨.inr k, c2, g2, ?_⟩⟩
        rcases q with ⟨k', _⟩ | ⟨_, c3, e', z⟩
        · have k' : X.env.scope.names.lookup y = some .local := k'
          rcases L.free _ (PySem.mem_of_lookup k) rfl with k2 | k2
          · rw [show X.env.scope.names.lookup y = some .cell from k2] at k'
            cases k'
          · rw [show X.env.scope.names.lookup y = some .free from k2] at k'
            cases k'
        · have e2 := below g2
          rw [e2] at e'
          cases e'
          exact still (I.freeC y _ e2) z
    · have hi2 : i = X.N.length := by
        have := (List.getElem?_eq_some_iff.mp hN).1
        rw [List.length_append] at this
        simp only [List.length_cons, List.length_nil] at this
        omega
      subst hi2
      rw [List.getElem?_append_right (Nat.le_refl _), Nat.sub_self] at hN
      rw [List.getElem?_append_right (by rw [hlen]; exact Nat.le_refl _), hlen, Nat.sub_self] at hσ
      obtain rfl : a = y := Option.some.inj hN
      obtain rfl : x = v := Option.some.inj (Option.some.inj hσ)
      refine ⟨u, ru, .inl ⟨L.par, ?_⟩⟩
      show [(a, u)].reverse.lookup a = some u
      simp [List.lookup]
  · obtain ⟨w', z⟩ := I.cell y c (below e)
    exact ⟨w', still (I.freeC y c (below e)) z⟩
  · obtain ⟨v, o, ho, _⟩ := I.cell y c (below e)
    exact un.free c o ho (I.freeC y c (below e)) (by simp)
  · have hq' : q ∈ ([] : List (Addr × Obj)) := hq
    cases hq'
  · show (σ ++ [some x]).length = (X.N ++ [a]).length
    rw [List.length_append, List.length_append, I.len]
    rfl
/-- the lambda called in read_list, with one argument -/
theorem pe_act1 {Ng : List Str} {qg : Str} {sg : Scope} {g f c' : Addr} {cdg pm ctv : Value} {params : Arguments} {body : Expr} {scope : Scope} {k i : Nat} {an a : Str} {tb : TE} {ta : TE} {e : Expr} {p1 p2 : Pos}
    (I : Inv X pins σ H s) (L : LamP X.env.scope scope a) (ha : a ∉ X.N) (hf : s.heap.get? f = some (PySem.W.kla_obj "<lambda>" (X.env.qual ++ "<lambda>") params body scope (cloFrom X.env.cells scope.names []) pm c' ctv)) (hfn : H f = none) (hfr : f ∉ frs X.stack)
    (hbind : ∀ u : Value, bindArgs (PySem.W.kla_fn "<lambda>" (X.env.qual ++ "<lambda>") params body scope (cloFrom X.env.cells scope.names []) pm (.ref c') ctv) ⟨[u], []⟩ = pure [(a, u)])
    (hr : Room (k + 1) (X.A.deeper (envOfC qg sg s.heap.objs.size g cdg)))
    (hbody : ∀ (A : Around) (outer : List Env) (s : Shared) (H : Hp), Room k (A.deeper (LamX.lamEnv X scope s.heap.objs.size f c')) → PE (lamCx1 X A outer s H C8.E0 scope f c' a) body tb)
    (hN : Ng[i]? = some an) (hv : Vis sg an) (hpa : PA (cxOf C8.CX0 X.prog X.w X.K X.mg X.base Ng qg sg g cdg X.A X.stack s H C8.E0).nox [e] (tCons ta tNil)) (hd : (an == ("__debug__" : Str)) = false := by decide) (hcd : (an == ("__classdict__" : Str)) = false := by decide)
    (he : starEach [e] (envOfC qg sg s.heap.objs.size g cdg) = (false, eval e (envOfC qg sg s.heap.objs.size g cdg)) :: starEach [] (envOfC qg sg s.heap.objs.size g cdg) := by rfl) (hpl : (backTo p2 (starEach [] (envOfC qg sg s.heap.objs.size g cdg))).any (·.1) = false := by rfl) :
    PE (cxOf C8.CX0 X.prog X.w X.K X.mg X.base Ng qg sg g cdg X.A X.stack s H C8.E0).nox (.Call (.Name an p1) [e] [] p2)
      (fun σZ HZ Q => σZ[i]? = some (some (.ref f)) ∧ tCons ta tNil σZ HZ fun vs H1 => ∃ x, vs = [x] ∧ H1 c' = some (LamX.CodeO c' (X.env.qual ++ "<lambda>")) ∧ tb (σ ++ [some x]) H1 Q) := by
  refine ⟨fun pinsZ sZ σZ HZ Q IZ ⟨hs, ht⟩ => ?_⟩
  refine wpAny_Call_Name_kw (thn ((pe_var (pos := p1) (i := i) hN hv hd hcd).run pinsZ sZ σZ HZ (fun v H1 => v = .ref f ∧ H1 = HZ) IZ ⟨.ref f, hs, rfl, rfl⟩) fun u sA ⟨v, HA, IA, rA, qA⟩ => ?_)
  obtain ⟨ev, eH⟩ := qA
  subst ev eH
  obtain rfl : u = Value.ref f := rA
  have ofA : sA.heap.get? f = some (PySem.W.kla_obj "<lambda>" (X.env.qual ++ "<lambda>") params body scope (cloFrom X.env.cells scope.names []) pm c' ctv) := IA.base.keep f _ hf hfn hfr (fun z => by
    have z' : f ∈ ([] : List Addr) := z
    cases z')
  refine PySem.W.callWith_F ⟨_, _, _, _, ofA⟩ (thn (hpa.run p2 pinsZ sA σZ _ _ IA ht) fun us sB ⟨vs, HB, IB, rB, x, ev, hc, hq⟩ => ?_) he hpl
  subst ev
  obtain ⟨u, rfl, ru⟩ := rB.one
  have ofB : sB.heap.get? f = some (PySem.W.kla_obj "<lambda>" (X.env.qual ++ "<lambda>") params body scope (cloFrom X.env.cells scope.names []) pm c' ctv) := IB.base.keep f _ hf hfn hfr (fun z => by
    have z' : f ∈ ([] : List Addr) := z
    cases z')
  refine ⟨⟨_, _, _, _, ofB⟩, ?_⟩
  have un : Un (frs X.stack) [] H HB s.heap sB.heap := IB.base
  obtain ⟨⟨oc, ws, t, hoc, hdc, hvc⟩, _, _⟩ := IB.hok c' _ hc
  have go : codeAny (model X.prog X.w) (X.A.deeper (envOfC qg sg s.heap.objs.size g cdg)) (.call (.ref f) ⟨[u], []⟩) (CR (L2.CX X.prog X.w) (envOfC qg sg s.heap.objs.size g cdg :: X.stack) X.prog X.w HB sB Q C8.E0) sB := by
    refine PySem.W.kla_callFunE hr.depth ofB rfl L.co L.gen rfl ⟨c', oc, ws, t, rfl, hoc, hdc, hvc⟩ ?_
    rw [hbind u]
    refine wpAny_pure (wpAny_newFunctionEnv (fun y hy => (L.own y hy).1) (fun y hy => by rw [List.mem_singleton.mp hy]; exact L.par) (fun h₁ hns hsb => ⟨IB.nolimit.fresh _ hsb, ?_⟩) L.kind)
    show codeAny _ _ (.expr body (LamX.lamEnv X scope sB.heap.objs.size f c')) _ _
    have kp : ∀ b o, sB.heap.get? b = some o → h₁.get? b = some o := fun b o e => hsb.extBut b o (Nat.ne_of_lt (Heap.lt_size e)) (Heap.get?_push_of_some _ e)
    have J : Inv (lamCx1 X (X.A.deeper (envOfC qg sg s.heap.objs.size g cdg)) (envOfC qg sg s.heap.objs.size g cdg :: X.stack) sB HB C8.E0 scope f c' a) [] (σ ++ [some x]) HB { sB with heap := h₁, toks := sB.toks + [(a, u)].length } :=
      lam_in1 I L ha IB.env0 hr.hd un hns kp ru
    refine PySem.W.kla_codeExpr (wpAny_mono ((hbody _ _ sB HB (hr.deeper _)).run [] _ _ HB Q J hq) (fun v s' hz => ?_) fun e s' hz => hz)
    obtain ⟨w', H', J', rv, q⟩ := hz
    exact ⟨w', H', J'.os, J'.bare, J'.base, J'.hok, rv, q⟩
  refine wpAny_call (codeAny_mono go fun r s' hz => ?_)
  cases r with
  | error e =>
    obtain ⟨_, _, _, _, _, _, _, _, _, _, _, _, z⟩ := hz
    exact z.elim
  | ok fl =>
    cases fl with
    | ret u => exact IB.after hz
    | next => exact False.elim hz
    | brk => exact False.elim hz
    | cont => exact False.elim hz
/-- read_list(e1, e2, e3, lambda a: body): TT is what is asked when the lambda is made -/
theorem pe_listlam {T : List (Addr × Str)} {g c P : Addr} {k : Nat} {oc dV kV doc pm cdv ct : Value} {odd : Option Addr} {an : Option Addr} {osl : Array (Option Value)} {pg : Arguments} {bg : List Stmt} {sg : Scope} {Ng ps : List Str} {e1 e2 e3 : Expr} {t1 t2 t3 : TE} {params : Arguments} {body : Expr} {scope : Scope} {p lpos pos : Pos} {a : Str} {tb : TE} {nm : Str}
    {TT : L2.St → V → V → V → Hp → VK → Prop}
    (hg : Gl X nm) (hm : X.mg nm = some (.ref g)) (hk : PySem.W.keepIn X.K (.ref g) = true) (lk : X.K.lookup g = some ⟨oc, odd, .func (PySem.W.fnOf nm nm pg bg sg dV kV doc pm an cdv ct), osl⟩) (hcg : PySem.W.codeIn X.K cdv nm = true) (hb : L2.Binds X.K (PySem.W.fnOf nm nm pg bg sg dV kV doc pm an cdv ct) ps []) (hps : ps.length = 4) (Sg : FnScope Ng ps sg)
    (TB : LamX.TabB X.base X.mg c P) (hcode : X.env.code = .ref c) (hmT : (P, X.env.qual ++ "<lambda>") ∈ T) (hu : ∀ p ∈ T, p.1 = P → p.2 = X.env.qual ++ "<lambda>") (hr : Room (k + 2) X.A) (L : LamP X.env.scope scope a) (ha : a ∉ X.N) (hdef : defaultsOf params X.env = ([], []))
    (hbind : ∀ (q : Str) (cl : List (Str × Addr)) (pm cv ctv u : Value), bindArgs (PySem.W.kla_fn "<lambda>" q params body scope cl pm cv ctv) ⟨[u], []⟩ = pure [(a, u)])
    (hbody : ∀ (A : Around) (outer : List Env) (s : Shared) (H : Hp) (f c' : Addr), Room k (A.deeper (LamX.lamEnv X scope s.heap.objs.size f c')) → PE (lamCx1 X A outer s H C8.E0 scope f c' a) body tb)
    (h1 : PE X e1 t1) (h2 : PE X e2 t2) (h3 : PE X e3 t3)
    (hG : ∀ (σ : L2.St) (f c' : Addr) (s : Shared) (H : Hp) (x1 x2 x3 : V) (Q : VK),
      (∀ (i : Nat) (an : Str) (e : Expr) (ta : TE) (p1 p2 : Pos), Ng[i]? = some an → Vis sg an → PA (cxOf C8.CX0 X.prog X.w X.K X.mg X.base Ng nm sg g cdv X.A X.stack s H C8.E0).nox [e] (tCons ta tNil) → (an == ("__debug__" : Str)) = false → (an == ("__classdict__" : Str)) = false →
        starEach [e] (envOfC nm sg s.heap.objs.size g cdv) = (false, eval e (envOfC nm sg s.heap.objs.size g cdv)) :: starEach [] (envOfC nm sg s.heap.objs.size g cdv) → (backTo p2 (starEach [] (envOfC nm sg s.heap.objs.size g cdv))).any (·.1) = false →
        PE (cxOf C8.CX0 X.prog X.w X.K X.mg X.base Ng nm sg g cdv X.A X.stack s H C8.E0).nox (.Call (.Name an p1) [e] [] p2)
          (fun σZ HZ Q => σZ[i]? = some (some (.ref f)) ∧ tCons ta tNil σZ HZ fun vs H1 => ∃ x, vs = [x] ∧ H1 c' = some (LamX.CodeO c' (X.env.qual ++ "<lambda>")) ∧ tb (σ ++ [some x]) H1 Q)) →
      H c' = some (LamX.CodeO c' (X.env.qual ++ "<lambda>")) → TT σ x1 x2 x3 H Q → Room (k + 1) (X.A.deeper (envOfC nm sg s.heap.objs.size g cdv)) →
      ∃ t, PSs (cxOf C8.CX0 X.prog X.w X.K X.mg X.base Ng nm sg g cdv X.A X.stack s H C8.E0).nox bg t ∧ t { nx := fun _ H' => Q .non H', rt := Q } (L2.start Ng [x1, x2, x3, .ref f]) H)
    (hdb : (nm == ("__debug__" : Str)) = false := by decide)
    (he : starEach [e1, e2, e3, .Lambda params body scope lpos] X.env = (false, eval e1 X.env) :: starEach [e2, e3, .Lambda params body scope lpos] X.env := by rfl)
    (he2 : starEach [e2, e3, .Lambda params body scope lpos] X.env = [(false, eval e2 X.env), (false, eval e3 X.env), (false, eval (.Lambda params body scope lpos) X.env)] := by rfl) :
    PE X (.Call (.Name nm p) [e1, e2, e3, .Lambda params body scope lpos] [] pos) (fun σ H Q => t1 σ H fun x1 H1 => t2 σ H1 fun x2 H2 => t3 σ H2 fun x3 H3 => LamX.Tabs T H3 ∧ ∀ H4, LamX.ExtN H3 H4 → LamX.Tabs T H4 → TT σ x1 x2 x3 H4 Q) := by
  refine ⟨fun pins s σ H Q I h => ?_⟩
  refine wpAny_Call_Name_kw (ld_glob I hg hm ?_ hdb)
  refine PySem.W.callWith_K (h₀ := X.base) I.ok.mod.kin hk ?_ he (by rw [he2]; rfl)
  rw [he, he2]
  show wpAny _ _ (spliced ((false, eval e1 X.env) :: (false, eval e2 X.env) :: (false, eval e3 X.env) :: (false, eval (.Lambda params body scope lpos) X.env) :: [])) _ _ s
  refine Calls.spliced_cons (thn (h1.run pins s σ H _ I h) fun u1 s1 ⟨x1, H1, I1, r1, q1⟩ => ?_)
  refine Calls.spliced_cons (thn (h2.run pins s1 σ H1 _ I1 q1) fun u2 s2 ⟨x2, H2, I2, r2, q2⟩ => ?_)
  refine Calls.spliced_cons (thn (h3.run pins s2 σ H2 _ I2 q2) fun u3 s3 ⟨x3, H3, I3, r3, hT, q3⟩ => ?_)
  refine Calls.spliced_cons (LamX.lam_make2 I3 TB hcode hmT hu hT hdef (L.has I3.ok) fun f c' pm' ctv H4 s4 I4 eN T4 hf hfn hfr hco => ?_)
  refine Calls.spliced_nil ⟨I4.kIn, ?_⟩
  have go : codeAny (model X.prog X.w) X.A (.call (.ref g) ⟨[u1, u2, u3, .ref f], []⟩) (CR C8.CX0 X.stack X.prog X.w H4 s4 Q C8.E0) s4 := by
    refine LamX.run_ofS (N := Ng) (ps := ps) (us := [u1, u2, u3, .ref f]) (vs := [x1, x2, x3, .ref f]) lk hcg Sg hr I4.env0 (hb s4 [u1, u2, u3, .ref f] I4.kIn (by rw [hps]; rfl)) (.cons r1 (.cons r2 (.cons r3 (.cons rfl .nil)))) (by rw [hps]; rfl) fun hr' => ?_
    obtain ⟨t', ht', hq'⟩ := hG σ f c' s4 H4 x1 x2 x3 Q (fun i an e ta p1 p2 hN hv hpa z1 z2 z3 z4 => pe_act1 I4 L ha hf hfn hfr (fun u => hbind _ _ _ _ _ u) hr' (fun A outer s H hr2 => hbody A outer s H f c' hr2) hN hv hpa z1 z2 z3 z4) hco (q3 H4 eN T4) hr'
    exact ⟨t', ht'.nox, hq'⟩
  refine wpAny_call (codeAny_mono go fun r s5 hz => ?_)
  cases r with
  | error e => exact (show False from hz).elim
  | ok fl =>
    cases fl with
    | ret u => exact I4.after hz
    | next => exact False.elim hz
    | brk => exact False.elim hz
    | cont => exact False.elim hz
end
end K6
/-! K6D7: read_global. -/
namespace K6
open PySem PySem.Spec PyProof.Rows L2 Evl
section
variable {P : Program} {w : World} {K : PySem.W.Frag} {mg : Str → Option Value} {base : Heap}
/-- a def of the module by its body, its own code object told -/
theorem Txt.calC (T : Txt w K mg) {x : Str} {st : Stmt} {N ps : List Str} {k : Nat} {sp : Sp} (hd : (⟨(x, none), x, x, defArgs st, defBody st, defScope st, [], []⟩ : He.DefD) ∈ fnL) (hg : He.Fa.glo x ∈ faL) (S : FnScope N ps (defScope st))
    (hb : ∀ (kV doc pm : Value) (an : Option Addr) (cdv ct : Value) (us : List Value), us.length = ps.length → bindArgs (PySem.W.fnOf x x (defArgs st) (defBody st) (defScope st) .none kV doc pm an cdv ct) ⟨us, []⟩ = pure (ps.zip us))
    (len : ∀ vs H Q E, sp vs H Q E → vs.length = ps.length)
    (hbody : ∀ (A : Around) (outer : List Env) (s : Shared) (H : Hp) (vs : List V) (Q : VK) (E : XK), Room k (A.deeper (envOfC x (defScope st) s.heap.objs.size (He.ga K x) (.ref (He.cT K (x, none)).1))) → sp vs H Q E →
      ∃ t, PSs (cxOf C8.CX0 P w K mg base N x (defScope st) (He.ga K x) (.ref (He.cT K (x, none)).1) A outer s H E).nox (defBody st) t ∧ t { nx := fun _ H' => Q .non H', rt := Q } (start N vs) H) :
    C8.Cal P w K mg base (k + 1) x sp [] := by
  obtain ⟨fd, F⟩ := T.t.d.defs hd
  have F' : FunD K x x (defArgs st) (defBody st) (defScope st) [] [] (He.ga K x) fd := F
  obtain ⟨oc, od, dV, kV, doc, pm, an, cdv, ct, osl, rfl, lk, hcd, _, _⟩ := F'.ex
  obtain ⟨c, rfl⟩ := He.codeIn_ref hcd
  have e : (He.cT K (x, none)).1 = c := He.codeOf_eq (p := (x, none)) lk rfl
  refine ⟨He.ga K x, _, ps, [], fn_of lk hcd S len fun A outer s H vs Q E hr h => ?_, T.glo hg, F'.kp, F'.bindsN hb, .nil⟩
  subst e
  obtain ⟨t, h1, h2⟩ := hbody A outer s H vs Q E hr h
  exact ⟨t, h1.nox, h2⟩
theorem ev_lenU {σ : L2.St} {H : Hp} {ta : TE} {p : Addr} {xs : List V} (ha : Ev ta σ H (.ref p)) (h : SqT K H p xs) : Ev (tCB (Evl.rLenS K) (tCons ta tNil)) σ H (.int (xs.length : Int)) := ev_cb (ea_cons ha ea_nil) fun H1 e Q q => ⟨p, xs, rfl, Or.inr (ex_t e h), q H1 (Ex.refl H1)⟩
def TTg (K : PySem.W.Frag) : L2.St → V → V → V → Hp → VK → Prop := fun σ x1 x2 x3 H Q => ∃ (r : Addr) (y1 y2 : Option V) (n : Nat) (l : List Nat) (ts : List Tx), σ = [some (.ref r), y1, y2, some (.int (n : Int)), none] ∧ x1 = .ref r ∧ x2 = vS [91] ∧ x3 = vS [93] ∧ WdOk n ∧ (∀ c ∈ l, c < 2 ^ n) ∧ l.length ≤ 100 ∧
  RAt K H r (lst (fun c => [num c]) [91] [93] l ++ ts) ∧ ∀ v H2, KR K r H H2 → RAt K H2 r ts → Dt H2 v (.tuple (l.map nt)) → Q v H2
theorem shl_one {n : Nat} (h : WdOk n) : CShl 1 (n : Int) ∧ (1 : Int) * 2 ^ (n : Int).toNat = (((2 ^ n : Nat)) : Int) := by
  have h' : n = 1 ∨ n = 8 ∨ n = 16 ∨ n = 32 ∨ n = 64 := by simpa [WdOk] using h
  rcases h' with rfl | rfl | rfl | rfl | rfl <;> exact ⟨⟨by decide, by decide⟩, by decide⟩
theorem RAt.extN {r : Addr} {ts : List Tx} {H H' : Hp} (e : LamX.ExtN H H') (h : RAt K H r ts) : RAt K H' r ts := by
  obtain ⟨dx, L, es, en, dn, h1, h2, h3, h4⟩ := h
  exact ⟨dx, L, es, en, dn, e _ _ h1 noTb_ins, e _ _ h2 noTb_lst, h3.kt fun b xs hb => e _ _ hb noTb_tup, h4⟩
theorem KR.extN {r : Addr} {H H' : Hp} (e : LamX.ExtN H H') (t : LamX.Tabs (tabT K) H') : KR K r H H' := ⟨fun b o _ n h => e b o h n, fun b xs h => e _ _ h noTb_tup, fun b hb o ho => by
  by_cases z : ∃ ps, o = .tbl ps
  · exact z
  · exact hb o (e b o ho fun ps q => z ⟨ps, q⟩), fun _ => t, fun C dx fs x h l => ⟨C, dx, fs, e _ _ h noTb_ins, l⟩⟩
theorem num_close (n : Nat) : ∀ c : Nat, c < 2 ^ n → ∃ a b, [num c] = a :: b ∧ a ≠ [93] := fun c _ => ⟨_, _, rfl, fun e => by
  obtain ⟨d, x, e2, h1, h2⟩ := num_fst (n := c)
  rw [e2] at e
  injection e with e3 _
  omega⟩
theorem ok_read_global (T : Txt w K mg) (W : Told K) (TB : LamX.TabB base mg (He.cT K ("read_global", none)).1 (He.cT K ("read_global", none)).2)
    (c_Reader_word : C8.Met P w K mg base 1 (rc K) "word" (spWord K) []) (c_Reader_need : C8.Met P w K mg base 2 (rc K) "need" (spNeed K) []) (c_Reader_number : C8.Met P w K mg base 2 (rc K) "number" (spNumber K) []) (c_Reader_one_of : C8.Met P w K mg base 2 (rc K) "one_of" (spOneOf K) []) (c_read_new_name : C8.Cal P w K mg base 3 "read_new_name" (spNewR K) []) : C8.Cal P w K mg base 6 "read_global" (spGbR K) [] := by
  refine T.calC m_def_read_global m_glo_read_global sc_read_global bi_read_global len2 (fun A outer s H vs Q E hr h => ?_)
  obtain ⟨u, u2, rfl, r, last, g, ts, rfl, rfl, hg, hlt, hT, h, q⟩ := h
  obtain ⟨fd, F⟩ := T.t.d.defs m_def_read_list
  have F' : FunD K "read_list" "read_list" (defArgs s_read_list) (defBody s_read_list) (defScope s_read_list) [] [] (He.ga K "read_list") fd := F
  have bN := F'.bindsN (ps := ["reader", "open_sign", "close_sign", "read_one"]) bi_read_list
  obtain ⟨oc, od, dV, kV, doc, pm, an, cdv, ct, osl, rfl, lk, hcd, _, _⟩ := F'.ex
  have hu : ∀ p ∈ tabT K, p.1 = (He.cT K ("read_global", none)).2 → p.2 = ("read_global" : Str) ++ ".<locals>." ++ "<lambda>" := fun p hp e => by
    rcases List.mem_cons.mp hp with rfl | hp
    · rfl
    · rw [List.mem_singleton.mp hp] at e
      exact absurd e.symm W.apart
  refine ⟨_, (pss_cons (ps_set (i := 2) sc_read_global.nd rfl (Or.inl rfl) (C8.pe_c c_read_new_name hr (by decide) (by rfl) (pa_cons (pv 0) (pa_cons (pv 1) (pa_cons (pe_tup pa_nil) pa_nil)))))
  (pss_cons (ps_expr (C8.pe_mt c_Reader_need hr (by decide) (pv 0) (pa_cons pe_str pa_nil)))
  (pss_cons (ps_expr (C8.pe_mt c_Reader_need hr (by decide) (pv 0) (pa_cons pe_str pa_nil)))
  (pss_cons (ps_set (i := 3) sc_read_global.nd rfl (Or.inr rfl) (C8.pe_mt c_Reader_one_of hr (by decide) (pv 0) (pa_cons (C8.pe_gc (by rfl) (T.gv m_glo_WIDTHS_TOLD)) pa_nil)))
  (pss_cons (ps_set (i := 4) sc_read_global.nd rfl (Or.inl rfl) (pe_listlam (T := tabT K) (k := 3) (TT := TTg K) (a := "one") (by rfl) (T.glo m_glo_read_list) F'.kp lk hcd bN rfl sc_read_list TB rfl List.mem_cons_self hu hr (lamP_by (by rfl)) (show ("one" : Str) ∉ n_read_global by decide +kernel) (by rfl) (fun _ _ _ _ _ _ => rfl)
      (fun A outer s H f c' hr2 => C8.pe_mt c_Reader_number hr2 (by decide) (pe_var (i := 5) rfl (.inl rfl)) (pa_cons pe_str (pa_cons (pe_op op_shlW pe_int (pe_var (i := 3) rfl (.inr (.inr rfl)))) pa_nil))) (pv 0) pe_str pe_str
      (fun σ f c' s H x1 x2 x3 Q act hco tt hr' => ?_)))
  (pss_one (ps_ret (pe_tup (pa_cons (pv 2) (pa_cons (pv 3) (pa_cons (pe_callB call_len_seq (by rfl) (T.free m_free_len) PySem.boot_len (pa_cons (pv 4) pa_nil)) (pa_cons (pv 4) pa_nil)))))))))))), ?_⟩
  · obtain ⟨r, y1, y2, n, l, ts, rfl, rfl, rfl, rfl, hn, hl, hz, h, q⟩ := tt
    have hcr : c' ≠ r := fun e => by
      obtain ⟨dx, fs, g1, _⟩ := rat_ins h
      rw [← e, hco] at g1
      unfold LamX.CodeO at g1
      cases g1
    obtain ⟨t, h1, h2⟩ := list_body (op := [91]) (cl := [93]) (fv := .ref f) (r := r) (tk := fun c => [num c]) (py := nt) (ok := fun c => c < 2 ^ n) T c_Reader_word c_Reader_need hr' (by decide) (fun p1 p2 p3 => act 3 "read_one" _ (tVar 0) p1 p3 rfl (Or.inl rfl) (pa_cons (pv 0) pa_nil) (by decide) (by decide) (by rfl) (by rfl))
      (fun y ts' z H0 k0 hy H1 k1 h1 Q' q' => ⟨rfl, _, rfl, _, rfl, (k0.trans k1).other _ _ hcr LamX.codeO_ne hco, rv_number (mk := []) (n := y) (bnd := 2 ^ n) (H0 := H1) (fun _ => ev_var rfl) (fun _ => ev_lit lit) (fun _ => ev_is (ev_op ev_c (ev_var rfl) (rv_I (shl_one hn).1)) (congrArg V.int (shl_one hn).2)) (by decide) hy (cell_lt hn hy) H1 (KR.refl r H1) h1 Q' q'⟩) (num_close n) (by decide)
    exact ⟨t, h1, h2 l ts Q hl hz h q⟩
  · have h : RAt K H r ((64 :: g.name) :: [61] :: kGlobal :: Ty.tk (.w g.w) :: (lst (fun c => [num c]) [91] [93] g.cells ++ ts)) := h
    refine (?_ : RvS K r _ _ H _ ts g.py) _ H (KR.refl r H) h q
    refine rvs_asg (t1 := [61] :: kGlobal :: Ty.tk (.w g.w) :: (lst (fun c => [num c]) [91] [93] g.cells ++ ts)) (d1 := tx g.name) (fun H1 k1 h1 Q1 q1 => ⟨_, rfl, _, rfl, sz_of (Nat.zero_le _), fun p hp => ⟨_, _, _, rfl, r, last, g.name, [], p, _, rfl, rfl, rfl, hg.name, hlt, by simp, .inr upd_same, h1.ex (Ex.new hp), fun v H2 k2 h2 hd => q1 v H2 ((KR.ex (Ex.new hp)).trans k2) h2 hd⟩⟩) fun v2 H2 k2 hd2 => ?_
    refine rvs_need (tk := [61]) (fun _ => ev_var rfl) (fun _ => ev_lit lit) (rvs_need (tk := kGlobal) (fun _ => ev_var rfl) (fun _ => ev_lit lit) (rvs_asg (d1 := nt g.w) (rv_width W (fun _ => ev_var rfl) hg.w) fun v3 H3 k3 hd3 => ?_))
    obtain rfl := hd3.intE
    refine rvs_asg (t1 := ts) (d1 := .tuple (g.cells.map nt)) (fun H4 k4 h4 Q4 q4 => ⟨_, rfl, k4.tabs (k3.tabs (k2.tabs hT)), fun H5 eN t5 => ⟨r, _, _, g.w, g.cells, ts, rfl, rfl, congrArg V.str lit, congrArg V.str lit, hg.w, hg.cells, Nat.le_trans hg.clen (by decide), h4.extN eN, fun v H6 k6 h6 hd => q4 v H6 ((KR.extN eN t5).trans k6) h6 hd⟩⟩) fun v4 H4 k4 hd4 => ?_
    obtain ⟨p4, xs4, rfl, hp4, hx4⟩ := id hd4.tupE
    have hxl := hx4.length
    rw [List.length_map] at hxl
    exact rvs_ret (rv_tup (rva_cons (rv_var rfl (hd2.kt (k3.trans k4).tups)) (rva_cons (rv_var rfl (.int _)) (rva_cons (rv_ev (v := .int (g.cells.length : Int)) (fun H5 k5 _ => by
      rw [← hxl]
      exact ev_lenU (ev_var rfl) (SqT.of (k5.tups _ _ hp4))) (.int _)) (rva_cons (rv_var rfl hd4) rva_nil)))) rfl)
end
end K6
/-! K6X1: the law's draws: the deal, what a draw gives. -/
namespace K6
open PySem PySem.Spec PyProof.Rows L2 Evl
abbrev nV (n : Nat) : V := .int (n : Int)
/-- the deal: a list of the cells left and a number -/
def Deal (H : Hp) (d cs : Addr) : Prop := ∃ (b : Int) (ns : List Nat), d ≠ cs ∧ H d = some (.lst [.ref cs, .int b]) ∧ H cs = some (.lst (ns.map nV)) ∧ ns.length ≤ 100
structure KD (d cs : Addr) (H H' : Hp) : Prop where
  other : ∀ b o, b ≠ d → b ≠ cs → H b = some o → H' b = some o
  tups : KT H H'
  new : ∀ b, H' b = none → H b = none
theorem KD.refl (d cs : Addr) (H : Hp) : KD d cs H H := ⟨fun _ _ _ _ h => h, KT.refl H, fun _ h => h⟩
theorem KD.trans {d cs : Addr} {H H1 H2 : Hp} (a : KD d cs H H1) (b : KD d cs H1 H2) : KD d cs H H2 := ⟨fun c o n m h => b.other c o n m (a.other c o n m h), a.tups.trans b.tups, fun c h => a.new c (b.new c h)⟩
theorem KD.ex {d cs : Addr} {H H' : Hp} (e : Ex H H') : KD d cs H H' := ⟨fun b o _ _ h => e b o h, KT.ex e, fun _ h => fresh_back e h⟩
theorem Deal.ex {d cs : Addr} {H H' : Hp} (e : Ex H H') (h : Deal H d cs) : Deal H' d cs := by
  obtain ⟨b, ns, h1, h2, h3, h4⟩ := h
  exact ⟨b, ns, h1, e _ _ h2, e _ _ h3, h4⟩
theorem KD.wr {d cs L : Addr} {H : Hp} {xs ys : List V} (hL : L = d ∨ L = cs) (h : H L = some (.lst xs)) : KD d cs H (upd H L (.lst ys)) := ⟨fun b o n m hb => by
  rw [upd_ne (hL.elim (fun e => by rw [e]; exact n) (fun e => by rw [e]; exact m))]
  exact hb, KT.updL h, fun b hb => by
  by_cases e : b = L
  · subst e
    rw [upd_same] at hb
    cases hb
  · rw [upd_ne e] at hb
    exact hb⟩
/-- a list that the deal does not know changes -/
theorem KD.mutL {d cs L : Addr} {H H' : Hp} {xs ys : List V} (k : KD d cs H H') (hL : H L = none) (hl : H' L = some (.lst xs)) : KD d cs H (upd H' L (.lst ys)) := by
  have ne : ∀ b o, H b = some o → b ≠ L := fun b o h e => by
    rw [e, hL] at h
    cases h
  refine ⟨fun b o n m h => ?_, fun b zs h => ?_, fun b h => ?_⟩
  · rw [upd_ne (ne _ _ h)]
    exact k.other b o n m h
  · rw [upd_ne (ne _ _ h)]
    exact k.tups b zs h
  · by_cases e : b = L
    · rw [e]
      exact hL
    · rw [upd_ne e] at h
      exact k.new b h
theorem Deal.ne {d cs L : Addr} {H : Hp} (h : Deal H d cs) (hL : H L = none) : L ≠ d ∧ L ≠ cs := by
  obtain ⟨b, ns, h1, h2, h3, h4⟩ := h
  refine ⟨fun e => ?_, fun e => ?_⟩
  · rw [e, h2] at hL
    cases hL
  · rw [e, h3] at hL
    cases hL
theorem Deal.updL {d cs L : Addr} {H : Hp} {o : HO} (h : Deal H d cs) (n : L ≠ d ∧ L ≠ cs) : Deal (upd H L o) d cs := by
  obtain ⟨b, ns, h1, h2, h3, h4⟩ := h
  exact ⟨b, ns, h1, by rw [upd_ne fun e => n.1 e.symm]; exact h2, by rw [upd_ne fun e => n.2 e.symm]; exact h3, h4⟩
section
variable (d cs : Addr)
/-- te draws: data of which P holds -/
def Dd (te : TE) (σ : L2.St) (H0 : Hp) (P : PyData → Prop) : Prop := ∀ H1, KD d cs H0 H1 → Deal H1 d cs → ∀ Q : VK, (∀ v H2 x, KD d cs H1 H2 → Deal H2 d cs → Dt H2 v x → P x → Q v H2) → te σ H1 Q
def DdA (ta : TA) (σ : L2.St) (H0 : Hp) (P : List PyData → Prop) : Prop := ∀ H1, KD d cs H0 H1 → Deal H1 d cs → ∀ Q : List V → Hp → Prop, (∀ vs H2 xs, KD d cs H1 H2 → Deal H2 d cs → DtA H2 vs xs → P xs → Q vs H2) → ta σ H1 Q
def DdS (t : TS) (σ : L2.St) (H0 : Hp) (P : PyData → Prop) : Prop := ∀ (D : Ends) H1, KD d cs H0 H1 → Deal H1 d cs → (∀ v H2 x, KD d cs H1 H2 → Deal H2 d cs → Dt H2 v x → P x → D.rt v H2) → t D σ H1
end
section
variable {d cs : Addr} {σ : L2.St} {H H0 H' : Hp} {ta te : TE} {tr : TA} {tt : TT} {t u : TS} {P P1 : PyData → Prop} {R : List PyData → Prop} {v : V} {x : PyData} {E : XK}
theorem Dd.mono (k : KD d cs H H') (h : Dd d cs te σ H P) : Dd d cs te σ H' P := fun H1 k1 => h H1 (k.trans k1)
theorem DdS.mono (k : KD d cs H H') (h : DdS d cs t σ H P) : DdS d cs t σ H' P := fun D H1 k1 => h D H1 (k.trans k1)
theorem Dd.imp (h : Dd d cs te σ H P1) (i : ∀ x, P1 x → P x) : Dd d cs te σ H P := fun H1 k1 h1 Q q => h H1 k1 h1 Q fun v H2 x k2 h2 hd p => q v H2 x k2 h2 hd (i x p)
theorem dd_ev (h : ∀ H1, KD d cs H0 H1 → Deal H1 d cs → Ev te σ H1 v) (hd : Dt H0 v x) (p : P x) : Dd d cs te σ H0 P := fun H1 k1 h1 Q q => h H1 k1 h1 H1 (Ex.refl H1) Q fun H2 e2 => q v H2 x (KD.ex e2) (h1.ex e2) ((hd.kt k1.tups).kt (KT.ex e2)) p
theorem dd_var {i : Nat} (h : σ[i]? = some (some v)) (hd : Dt H0 v x) (p : P x) : Dd d cs (tVar i) σ H0 P := dd_ev (fun _ _ _ => ev_var h) hd p
theorem dd_int {i : Int} (p : P (.int i)) : Dd d cs (tC (.int i)) σ H0 P := dd_ev (fun _ _ _ => ev_c) (.int i) p
theorem dd_s {y : Str} {a : Tx} (e : y = SX.S a) (p : P (tx a)) : Dd d cs (tC (.str y)) σ H0 P := dd_ev (v := .str y) (x := .str y) (fun _ _ _ => ev_c) (.str _) (by rw [e]; exact p)
theorem dd_non (p : P .none) : Dd d cs (tC .non) σ H0 P := dd_ev (fun _ _ _ => ev_c) .non p
theorem dda_nil (p : R []) : DdA d cs tNil σ H0 R := fun H1 _ h1 _ q => q [] H1 [] (KD.refl d cs H1) h1 .nil p
theorem dda_cons {S : List PyData → Prop} (h : Dd d cs te σ H0 P) (hr : DdA d cs tr σ H0 S) (i : ∀ x xs, P x → S xs → R (x :: xs)) : DdA d cs (tCons te tr) σ H0 R := fun H1 k1 h1 _ q => h H1 k1 h1 _ fun v H2 x k2 h2 hd p => hr H2 (k1.trans k2) h2 _ fun vs H3 xs k3 h3 hds ps => q _ H3 (x :: xs) (k2.trans k3) h3 (.cons (hd.kt k3.tups) hds) (i x xs p ps)
theorem dd_tup (h : DdA d cs tr σ H0 R) (i : ∀ xs, R xs → xs.length ≤ 1000 ∧ P (.tuple xs)) : Dd d cs (tTup tr) σ H0 P := fun H1 k1 h1 Q q => h H1 k1 h1 _ fun vs H2 xs k2 h2 hds p => ⟨sz_of (by
  rw [hds.length]
  have := (i xs p).1
  omega), fun a ha => q (.ref a) _ (.tuple xs) (k2.trans (KD.ex (Ex.new ha))) (h2.ex (Ex.new ha)) (.tup upd_same (hds.kt (KT.ex (Ex.new ha)))) (i xs p).2⟩
theorem dd_if (h : ∀ H1, KD d cs H0 H1 → Deal H1 d cs → ∃ b, EvT tt σ H1 b ∧ (b = true → Dd d cs ta σ H0 P) ∧ (b = false → Dd d cs te σ H0 P)) : Dd d cs (tIf tt ta te) σ H0 P := fun H1 k1 h1 Q q => by
  obtain ⟨b, hb, y, n⟩ := h H1 k1 h1
  refine hb H1 (Ex.refl H1) _ fun H2 e2 => ?_
  cases b with
  | true =>
    show ta σ H2 Q
    exact y rfl H2 (k1.trans (KD.ex e2)) (h1.ex e2) Q fun v H3 x k3 => q v H3 x ((KD.ex e2).trans k3)
  | false =>
    show te σ H2 Q
    exact n rfl H2 (k1.trans (KD.ex e2)) (h1.ex e2) Q fun v H3 x k3 => q v H3 x ((KD.ex e2).trans k3)
theorem dds_ret (h : Dd d cs te σ H0 P) : DdS d cs (tRet te) σ H0 P := fun D H1 k1 h1 q => h H1 k1 h1 _ q
theorem dds_asg {i : Nat} (h : Dd d cs te σ H0 P1) (k : ∀ v H2 x, KD d cs H0 H2 → Dt H2 v x → P1 x → DdS d cs u (σ.set i (some v)) H2 P) : DdS d cs (tSeq (tAsg te (gName i)) u) σ H0 P := fun D H1 k1 h1 q => h H1 k1 h1 _ fun v H2 x k2 h2 hd p => k v H2 x (k1.trans k2) hd p D H2 (KD.refl d cs H2) h2 fun v' H3 x' k3 => q v' H3 x' (k2.trans k3)
theorem dds_if (h : ∀ H1, KD d cs H0 H1 → Deal H1 d cs → ∃ b, EvT tt σ H1 b ∧ (b = true → DdS d cs t σ H0 P) ∧ (b = false → DdS d cs u σ H0 P)) : DdS d cs (tSeq (tIfS tt t tNext) u) σ H0 P := fun D H1 k1 h1 q => by
  obtain ⟨b, hb, y, n⟩ := h H1 k1 h1
  refine hb H1 (Ex.refl H1) _ fun H2 e2 => ?_
  cases b with
  | true =>
    show t { D with nx := u D } σ H2
    exact y rfl _ H2 (k1.trans (KD.ex e2)) (h1.ex e2) fun v H3 x k3 => q v H3 x ((KD.ex e2).trans k3)
  | false =>
    show u D σ H2
    exact n rfl D H2 (k1.trans (KD.ex e2)) (h1.ex e2) fun v H3 x k3 => q v H3 x ((KD.ex e2).trans k3)
end
/-! ### a def that draws -/
def spDr (P : PyData → Prop) : Sp := Pr1 fun v H Q => ∃ d cs, v = .ref d ∧ Deal H d cs ∧ ∀ y H2 x, KD d cs H H2 → Deal H2 d cs → Dt H2 y x → P x → Q y H2
def IntLt (b : Nat) (x : PyData) : Prop := ∃ n : Nat, x = nt n ∧ n < b
def spAny : Sp := Pr2 fun v b H Q => ∃ d cs bnd, v = .ref d ∧ b = .int ((bnd : Nat) : Int) ∧ 0 < bnd ∧ bnd ≤ 2 ^ 64 ∧ Deal H d cs ∧ ∀ y H2 x, KD d cs H H2 → Deal H2 d cs → Dt H2 y x → IntLt bnd x → Q y H2
def spOf : Sp := Pr2 fun v l H Q => ∃ d cs L xs ds, v = .ref d ∧ l = .ref L ∧ H L = some (.lst xs) ∧ DtA H xs ds ∧ ds ≠ [] ∧ ds.length ≤ 1000 ∧ L ≠ d ∧ L ≠ cs ∧ Deal H d cs ∧ ∀ y H2 x, x ∈ ds → KD d cs H H2 → Deal H2 d cs → Dt H2 y x → Q y H2
section
variable {d cs : Addr} {σ : L2.St} {H0 : Hp} {ta tb : TE} {tr : TA} {P : PyData → Prop} {E : XK}
theorem dd_dr (ha : ∀ H, Ev ta σ H (.ref d)) : Dd d cs (tCall (spDr P) [] E (tCons ta tNil)) σ H0 P := fun H1 k1 h1 Q q => ha H1 H1 (Ex.refl H1) _ fun H2 e2 => ⟨_, rfl, d, cs, rfl, h1.ex e2, fun y H3 x k3 h3 hd p => q y H3 x ((KD.ex e2).trans k3) h3 hd p⟩
theorem dd_any {bnd : Nat} (ha : ∀ H, Ev ta σ H (.ref d)) (hb : ∀ H1, KD d cs H0 H1 → Deal H1 d cs → Ev tb σ H1 (.int ((bnd : Nat) : Int))) (h0 : 0 < bnd) (h64 : bnd ≤ 2 ^ 64) : Dd d cs (tCall spAny [] E (tCons ta (tCons tb tNil))) σ H0 (IntLt bnd) := fun H1 k1 h1 Q q => ha H1 H1 (Ex.refl H1) _ fun H2 e2 => hb H2 (k1.trans (KD.ex e2)) (h1.ex e2) H2 (Ex.refl H2) _ fun H3 e3 =>
  ⟨_, _, rfl, d, cs, bnd, rfl, rfl, h0, h64, h1.ex (e2.trans e3), fun y H4 x k4 h4 hd p => q y H4 x ((KD.ex (e2.trans e3)).trans k4) h4 hd p⟩
theorem dd_anyC {bnd : Nat} (ha : ∀ H, Ev ta σ H (.ref d)) (h0 : 0 < bnd) (h64 : bnd ≤ 2 ^ 64) : Dd d cs (tCall spAny [] E (tCons ta (tCons (tC (.int ((bnd : Nat) : Int))) tNil))) σ H0 (IntLt bnd) := dd_any ha (fun _ _ _ => ev_c) h0 h64
theorem dd_of (ha : ∀ H, Ev ta σ H (.ref d)) (hl : DdA d cs tr σ H0 fun ds => ds ≠ [] ∧ ds.length ≤ 1000 ∧ ∀ x ∈ ds, P x) : Dd d cs (tCall spOf [] E (tCons ta (tCons (tLst tr) tNil))) σ H0 P := fun H1 k1 h1 Q q => ha H1 H1 (Ex.refl H1) _ fun H2 e2 =>
  hl H2 (k1.trans (KD.ex e2)) (h1.ex e2) _ fun vs H3 ds k3 h3 hds ⟨p1, p2, p3⟩ => ⟨sz_of (by
    rw [hds.length]
    omega), fun L hL => by
    have hne := h3.ne hL
    have e4 : Ex H3 (upd H3 L (.lst vs)) := Ex.new hL
    exact ⟨_, _, rfl, d, cs, L, vs, ds, rfl, rfl, upd_same, hds.kt (KT.ex e4), p1, p2, hne.1, hne.2, h3.ex e4, fun y H5 x hx k5 h5 hd => q y H5 x ((KD.ex e2).trans (k3.trans ((KD.ex e4).trans k5))) h5 hd (p3 x hx)⟩⟩
/-- the list of [..]: each of them P -/
theorem all_nil : ([] : List PyData) = [] ∨ False := .inl rfl
def AllP (P : PyData → Prop) (n : Nat) (ds : List PyData) : Prop := ds.length = n ∧ ∀ x ∈ ds, P x
theorem dda0 : DdA d cs tNil σ H0 (AllP P 0) := dda_nil ⟨rfl, fun x h => by cases h⟩
theorem dda1 {n : Nat} {te : TE} (h : Dd d cs te σ H0 P) (hr : DdA d cs tr σ H0 (AllP P n)) : DdA d cs (tCons te tr) σ H0 (AllP P (n + 1)) := dda_cons h hr fun x xs p ⟨h1, h2⟩ => ⟨by rw [List.length_cons, h1], fun y hy => by
  rcases List.mem_cons.mp hy with rfl | hy
  · exact p
  · exact h2 y hy⟩
theorem dd_ofA {n : Nat} (ha : ∀ H, Ev ta σ H (.ref d)) (hl : DdA d cs tr σ H0 (AllP P n)) (hn : 0 < n ∧ n ≤ 1000) : Dd d cs (tCall spOf [] E (tCons ta (tCons (tLst tr) tNil))) σ H0 P := dd_of ha fun H1 k1 h1 Q q => hl H1 k1 h1 Q fun vs H2 xs k2 h2 hd ⟨p1, p2⟩ => q vs H2 xs k2 h2 hd ⟨fun e => by
  rw [e] at p1
  simp at p1
  omega, by omega, p2⟩
end
section
variable {P : Program} {w : World} {K : PySem.W.Frag} {mg : Str → Option Value} {base : Heap}
theorem ev_int1 {σ : L2.St} {H : Hp} {te : TE} {i : Int} (h : Ev te σ H (.int i)) : Ev (tCB (fun xs H Q => (∃ i, xs = [.int i] ∧ Q (.int i) H) ∨ ∃ k, xs = [.bl k] ∧ Q (.int (if k then 1 else 0)) H) (tCons te tNil)) σ H (.int i) := ev_cb (ea_cons h ea_nil) fun H1 e Q q => .inl ⟨_, rfl, q H1 (Ex.refl H1)⟩
theorem ok__law_any (T : Txt w K mg) : C8.Cal P w K mg base 1 "_law_any" spAny [] := by
  refine T.cal m_def__law_any m_glo__law_any sc__law_any bi__law_any len2 (fun cdv A outer s H vs Q E hr h => ?_)
  obtain ⟨v, v2, rfl, d, cs, bnd, rfl, rfl, hb0, hb64, hd, q⟩ := h
  refine ⟨_, (pss_cons (ps_while PassesOwn.never (PW.pt (pw_and (pt_cmpR (op_neD hr.units) (pe_ix ix_list (pv 0) pe_int (fun _ _ => rfl)) (pe_lst pa_nil) (nomark _)) (pw_and1 (pt_cmpR op_eq (pe_ix ix_list (pe_ix ix_list (pv 0) pe_int (fun _ _ => rfl)) (pe_un un_neg pe_int) (fun _ _ => rfl)) pe_int (nomark _))))) (pss_one (ps_expr (pe_bm0 PySem.F.plainAttrs_list PySem.F.slot_list_pop PySem.F.type_list_pop mt_pop (pe_ix ix_list (pv 0) pe_int (fun _ _ => rfl))))))
  (pss_cons (ps_if (pt_cmpR (op_neD hr.units) (pe_ix ix_list (pv 0) pe_int (fun _ _ => rfl)) (pe_lst pa_nil) (nomark _)) (pss_cons (ps_set (i := 2) sc__law_any.nd rfl (Or.inl rfl) (pe_callTy call_int1 (by rfl) (T.free m_free_int) (by decide +kernel) (pa_cons (pe_bm0 PySem.F.plainAttrs_list PySem.F.slot_list_pop PySem.F.type_list_pop mt_pop (pe_ix ix_list (pv 0) pe_int (fun _ _ => rfl))) pa_nil)))
  (pss_cons (ps_expr (pe_bm PySem.F.plainAttrs_list PySem.F.slot_list_append PySem.F.type_list_append mt_append (pe_ix ix_list (pv 0) pe_int (fun _ _ => rfl)) (pa_cons (pe_op op_fdivW (pv 2) (pv 1)) pa_nil)))
  (pss_one (ps_ret (pe_op op_mod (pv 2) (pv 1)))))) pss_nil)
  (pss_cons (ps_asg (pe_op op_mod (pe_callTy call_int1 (by rfl) (T.free m_free_int) (by decide +kernel) (pa_cons (pe_op op_add (pe_op op_mul (pe_ix ix_list (pv 0) pe_int (fun _ _ => rfl)) pe_int) pe_int) pa_nil)) pe_int) (pg_sub (pv 0) pe_int set_list))
  (pss_one (ps_ret (pe_op op_mod (pe_callTy call_int1 (by rfl) (T.free m_free_int) (by decide +kernel) (pa_cons (pe_op op_fdivW (pe_ix ix_list (pv 0) pe_int (fun _ _ => rfl)) pe_int) pa_nil)) (pv 1))))))), ?_⟩
  have hlog : bnd.log2 < 9000 := by
    have h1 := (Nat.log2_lt (n := bnd) (k := 65) (by omega)).mpr (by omega)
    omega
  -- the cells, and whether any is left
  have cells : ∀ (σ : L2.St) (H' : Hp), σ[0]? = some (some (.ref d)) → Deal H' d cs → Ev (tOp (rIxL K) (tVar 0) (tC (.int 0))) σ H' (.ref cs) := fun σ H' h0 ⟨b, ns, h1, h2, h3, h4⟩ => ev_op (ev_var h0) ev_c (rv_ixL (sq_of h2) (atI_nat (j := 0) rfl))
  have some_ : ∀ (σ : L2.St) (H' : Hp) (b : Int) (ns : List Nat), σ[0]? = some (some (.ref d)) → d ≠ cs → H' d = some (.lst [.ref cs, .int b]) → H' cs = some (.lst (ns.map nV)) → ns.length ≤ 100 → EvT (tTest (tOp (rNeD K) (tOp (rIxL K) (tVar 0) (tC (.int 0))) (tLst tNil))) σ H' (!ns.isEmpty) := fun σ H' b ns h0 h1 h2 h3 h4 H1 e Q q =>
    cells σ H' h0 ⟨b, ns, h1, h2, h3, h4⟩ H1 e _ fun H2 e2 => ⟨sz_of (Nat.zero_le _), fun r hr => by
      have e3 : Ex H2 (upd H2 r (.lst [])) := Ex.new hr
      have all : ∀ (l : List Nat) (G : Hp), DpAll K G (l.map nV) (l.map nt) := fun l G => by
        induction l with
        | nil => exact .nil
        | cons a l ih => exact .cons (.int _) ih
      have lay : ∀ l : List Nat, PyData.canLayAll0 (l.map nt) = true ∧ PyData.depthAll (l.map nt) = 0 := fun l => by
        induction l with
        | nil => exact ⟨rfl, rfl⟩
        | cons a l ih =>
          refine ⟨?_, ?_⟩
          · show (PyData.canLay0 (nt a) && PyData.canLayAll0 (l.map nt)) = true
            rw [ih.1]
            rfl
          · show max (PyData.depth (nt a)) (PyData.depthAll (l.map nt)) = 0
            rw [ih.2]
            rfl
      refine ⟨.list (ns.map nt), .list [], .lst (sq_of (e3 _ _ (e2 _ _ (e _ _ h3)))) (all ns _), .lst (sq_of upd_same) .nil, ?_, rfl, _, rfl, ?_⟩
      · show ((PyData.canLayAll0 (ns.map nt)) && decide (PyData.depthAll (ns.map nt) + 1 ≤ 64)) = true
        rw [(lay ns).1, (lay ns).2]
        rfl
      · have hb : (!PyData.eqv (.list (ns.map nt)) (.list [])) = !ns.isEmpty := by
          cases ns <;> rfl
        rw [hb]
        exact q _ (e2.trans e3)⟩
  refine q_while (fun m σ' H' => ∃ (b : Int) (ns : List Nat) , d ≠ cs ∧ H' d = some (.lst [.ref cs, .int b]) ∧ H' cs = some (.lst (ns.map nV)) ∧ ns.length ≤ 100 ∧ m = ns.length ∧ KD d cs H H' ∧ σ' = [some (.ref d), some (.int (bnd : Int)), none]) hd.choose_spec.choose.length
    ⟨_, _, hd.choose_spec.choose_spec.1, hd.choose_spec.choose_spec.2.1, hd.choose_spec.choose_spec.2.2.1, hd.choose_spec.choose_spec.2.2.2, rfl, KD.refl d cs H, rfl⟩ fun m σ' H' ⟨b, ns, h1, h2, h3, h4, hm, k, eσ⟩ => ?_
  subst eσ
  have lastE : ∀ (n : Nat) (l : List Nat), ns = l ++ [n] → ∀ H2, Ex H' H2 → Ev (tOp (rIxL K) (tOp (rIxL K) (tVar 0) (tC (.int 0))) (tUn (rU fun i => .int (-i)) (tC (.int 1)))) [some (.ref d), some (.int (bnd : Int)), none] H2 (.int (n : Int)) := fun n l en H2 e2 => by
    refine ev_op ((cells _ _ rfl ⟨b, ns, h1, h2, h3, h4⟩).mono e2) (ev_un ev_c ru_neg) (rv_ixL (sq_of (e2 _ _ h3)) ?_)
    subst en
    unfold atI ixN
    rw [if_neg (by decide), if_pos (by simp; omega), Option.bind_some]
    have e : ((-1 : Int) + (((l ++ [n]).map nV).length : Int)).toNat = l.length := by
      rw [List.length_map, List.length_append]
      simp
      omega
    rw [e]
    simp
  rcases List.eq_nil_or_concat ns with rfl | ⟨l, n, rfl⟩
  · refine ⟨false, et_is (et_and (b := false) (some_ _ _ b [] rfl h1 h2 h3 h4) fun e => by cases e) rfl, (fun e => by cases e), fun _ H1 e1 => ?_⟩
    refine q_when (b := false) (et_is (some_ _ _ b [] rfl h1 (e1 _ _ h2) (e1 _ _ h3) h4) rfl) (fun e => by cases e) fun _ H2 e2 => ?_
    have e12 := e1.trans e2
    have one_ : ∀ (G : Hp) (c : Int), G d = some (.lst [.ref cs, .int c]) → Ev (tOp (rIxL K) (tVar 0) (tC (.int 1))) [some (.ref d), some (.int (bnd : Int)), none] G (.int c) := fun G c hG => ev_op (ev_var rfl) ev_c (rv_ixL (sq_of hG) (atI_nat (j := 1) rfl))
    refine q_setL (l := d) (j := 1) (v := .int ((b * 40693 + 71) % 2147483647)) (e12 _ _ h2) (ev_op (ev_int1 (ev_op (ev_op (one_ _ b (e12 _ _ h2)) ev_c (rv_I (.inr (by decide)))) ev_c rv_I0)) ev_c (rv_I (by decide))) (ev_var rfl) ev_c (by show 1 < 2; omega) fun H3 e3 => ?_
    have e13 := e12.trans e3
    have h3' : upd H3 d (.lst [.ref cs, .int ((b * 40693 + 71) % 2147483647)]) cs = some (.lst ([].map nV)) := by
      rw [upd_ne fun e => h1 e.symm]
      exact e13 _ _ h3
    have kk : KD d cs H (upd H3 d (.lst [.ref cs, .int ((b * 40693 + 71) % 2147483647)])) := (k.trans (KD.ex e13)).trans (KD.wr (.inl rfl) (e13 _ _ h2))
    refine s_ret (ev_op (ev_int1 (ev_op (one_ _ _ upd_same) ev_c (rv_I ⟨by decide, by decide⟩))) (ev_var rfl) (rv_I (by omega))) fun H4 e4 => ?_
    have hlt := Int.emod_lt_of_pos ((b * 40693 + 71) % 2147483647 / 64) (b := (bnd : Int)) (by omega)
    have hnn := Int.emod_nonneg ((b * 40693 + 71) % 2147483647 / 64) (b := (bnd : Int)) (by omega)
    exact q _ H4 (.int _) (kk.trans (KD.ex e4)) ⟨_, [], h1, e4 _ _ upd_same, e4 _ _ h3', Nat.zero_le _⟩ (.int _) ⟨((b * 40693 + 71) % 2147483647 / 64 % (bnd : Int)).toNat, congrArg PyData.int (by omega), by omega⟩
  · rw [List.concat_eq_append] at h3 h4 hm lastE
    have hlast : ((l ++ [n]).map nV)[((l ++ [n]).map nV).length - 1]? = some (nV n) := by
      rw [List.length_map, List.length_append]
      simp
    have hdl : ((l ++ [n]).map nV).dropLast = l.map nV := by
      rw [List.map_append]
      simp
    have hll : l.length ≤ 100 := by
      rw [List.length_append] at h4
      omega
    refine ⟨decide ((n : Int) = 0), ?_, fun hz H1 e1 => ?_, fun hz H1 e1 => ?_⟩
    · exact et_is (et_and (some_ _ _ b (l ++ [n]) rfl h1 h2 h3 h4) fun _ => et_eqI (lastE n l rfl _ (Ex.refl _)) ev_c) (by simp)
    · refine ⟨fun σ2 H2 => ∃ (b : Int) (ns : List Nat), d ≠ cs ∧ H2 d = some (.lst [.ref cs, .int b]) ∧ H2 cs = some (.lst (ns.map nV)) ∧ ns.length ≤ 100 ∧ ns.length < m ∧ KD d cs H H2 ∧ σ2 = [some (.ref d), some (.int (bnd : Int)), none], fun σ2 H2 ⟨b, ns, g1, g2, g3, g4, g5, g6, g7⟩ => ⟨ns.length, g5, b, ns, g1, g2, g3, g4, rfl, g6, g7⟩, ?_⟩
      refine ((cells _ _ rfl ⟨b, l ++ [n], h1, h2, h3, h4⟩).mono e1) H1 (Ex.refl H1) _ fun H2 e2 => ⟨Or.inl ⟨rfl, _, sq_of (e2 _ _ (e1 _ _ h3))⟩, cs, _, nV n, rfl, rfl, e2 _ _ (e1 _ _ h3), hlast, ?_⟩
      rw [hdl]
      have e12 := e1.trans e2
      exact ⟨b, l, h1, by rw [upd_ne h1]; exact e12 _ _ h2, upd_same, hll, by rw [hm, List.length_append]; exact Nat.lt_succ_self _, (k.trans (KD.ex e12)).trans (KD.wr (.inr rfl) (e12 _ _ h3)), rfl⟩
    · refine q_if (b := true) (et_is (some_ _ _ b (l ++ [n]) rfl h1 (e1 _ _ h2) (e1 _ _ h3) h4) (by simp)) (fun _ H2 e2 => ?_) fun e => by cases e
      have e12 := e1.trans e2
      refine ((cells _ _ rfl ⟨b, l ++ [n], h1, h2, h3, h4⟩).mono e12) H2 (Ex.refl H2) _ fun H3 e3 => ⟨Or.inl ⟨rfl, _, sq_of (e3 _ _ (e12 _ _ h3))⟩, cs, _, nV n, rfl, rfl, e3 _ _ (e12 _ _ h3), hlast, .inl ⟨_, rfl, ?_⟩⟩
      rw [hdl]
      have e13 := e12.trans e3
      have k3 : KD d cs H (upd H3 cs (.lst (l.map nV))) := (k.trans (KD.ex e13)).trans (KD.wr (.inr rfl) (e13 _ _ h3))
      have hd3 : upd H3 cs (.lst (l.map nV)) d = some (.lst [.ref cs, .int b]) := by
        rw [upd_ne h1]
        exact e13 _ _ h2
      refine q_app (l := cs) (v := .int ((n : Int) / (bnd : Int))) upd_same (cells _ _ rfl ⟨b, l, h1, hd3, upd_same, hll⟩) (ev_op (ev_var rfl) (ev_var rfl) (rv_I ⟨by omega, by rw [Int.natAbs_natCast]; exact hlog⟩)) (by rw [List.length_map]; omega) fun H4 e4 => ?_
      have k4 := (k3.trans (KD.ex e4)).trans (KD.wr (ys := l.map nV ++ [.int ((n : Int) / (bnd : Int))]) (.inr rfl) (e4 _ _ upd_same))
      refine s_ret (ev_op (ev_var rfl) (ev_var rfl) (rv_I (by omega))) fun H5 e5 => ?_
      have hlt := Int.emod_lt_of_pos (n : Int) (b := (bnd : Int)) (by omega)
      have hnn := Int.emod_nonneg (n : Int) (b := (bnd : Int)) (by omega)
      have hll2 : (l ++ [n / bnd]).length ≤ 100 := by
        rw [List.length_append] at h4 ⊢
        exact h4
      refine q _ H5 (.int _) (k4.trans (KD.ex e5)) ⟨b, l ++ [n / bnd], h1, e5 _ _ ?_, e5 _ _ ?_, hll2⟩ (.int _) ⟨((n : Int) % (bnd : Int)).toNat, congrArg PyData.int (by omega), by omega⟩
      · rw [upd_ne h1]
        exact e4 _ _ hd3
      · rw [upd_same, List.map_append]
        rfl
end
end K6
/-! K6X2: the law's draws: numbers, names, operands. -/
namespace K6
open PySem PySem.Spec PyProof.Rows L2 Evl
section
variable {K : PySem.W.Frag} {d cs : Addr} {σ : L2.St} {H H0 : Hp} {ta te : TE} {tr : TA} {P : PyData → Prop} {R : List PyData → Prop} {E : XK}
/-- te draws a new list -/
def DdL (d cs : Addr) (te : TE) (σ : L2.St) (H0 : Hp) (R : List PyData → Prop) : Prop := ∀ H1, KD d cs H0 H1 → Deal H1 d cs → ∀ Q : VK, (∀ p H2 vs xs, H1 p = none → KD d cs H1 H2 → Deal H2 d cs → H2 p = some (.lst vs) → DtA H2 vs xs → R xs → Q (.ref p) H2) → te σ H1 Q
theorem dd_tupleL (h : DdL d cs te σ H0 R) (i : ∀ xs, R xs → P (.tuple xs)) : Dd d cs (tCB (fun xs H Q => ∃ p ys, xs = [V.ref p] ∧ ((SqL K H p ys ∧ ∀ l, H l = none → Q (.ref l) (upd H l (.tup ys))) ∨ (SqT K H p ys ∧ Q (.ref p) H))) (tCons te tNil)) σ H0 P := fun H1 k1 h1 Q q => h H1 k1 h1 _ fun p H2 vs xs hp k2 h2 hp2 hds r =>
  ⟨p, vs, rfl, .inl ⟨sq_of hp2, fun l hl => q _ _ (.tuple xs) (k2.trans (KD.ex (Ex.new hl))) (h2.ex (Ex.new hl)) (.tup upd_same (hds.kt (KT.ex (Ex.new hl)))) (i xs r)⟩⟩
/-- [e for _ in range(n)] -/
theorem dl_lcR {j : Nat} {vs : List Nat} {N : Nat → Prop} (hN : ∀ n, N n → n ≤ 1000) (h : DdA d cs tr σ H0 fun ds => ∃ n, ds = [nt n] ∧ N n) (hw : ∀ x, wipe ((wipe σ vs).set j (some x)) vs = wipe σ vs) (he : ∀ y, Dd d cs te ((wipe σ vs).set j (some y)) H0 P) :
    DdL d cs (tLc (iRng1 tr) (gName j) tYes te vs) σ H0 fun xs => ∃ n, N n ∧ xs.length = n ∧ ∀ x ∈ xs, P x := fun H1 k1 h1 Q q => h H1 k1 h1 _ fun us H2 ds k2 h2 hds ⟨n, eds, hn⟩ => by
  subst eds
  obtain ⟨v, r, rfl, hv, hr⟩ := hds.consE
  obtain rfl := hr.nilE
  obtain rfl := hv.intE
  have hn1 := hN n hn
  refine ⟨(n : Int), rfl, by omega, by omega, fun D hD => ?_⟩
  have hne := h2.ne hD
  refine lc_range (lo := 0) (n := (n : Int).toNat) (fun i H' => ∃ ws xs, KD d cs H2 H' ∧ Deal H' d cs ∧ H' D = some (.lst ws) ∧ DtA H' ws xs ∧ xs.length = i ∧ ∀ x ∈ xs, P x) ⟨[], [], KD.ex (Ex.new hD), h2.ex (Ex.new hD), upd_same, .nil, rfl, fun x h => by cases h⟩ (fun i H' hi ⟨ws, xs, k3, h3, hD3, hds3, hl, hP⟩ => ?_) fun H' ⟨ws, xs, k3, h3, hD3, hds3, hl, hP⟩ => ?_
  · refine ⟨hw _, ?_⟩
    simp only [tYes, if_true]
    refine he _ H' (k1.trans (k2.trans k3)) h3 _ fun y H4 x k4 h4 hd p => ?_
    have hD4 := k4.other D _ hne.1 hne.2 hD3
    refine ⟨ws, hD4, sz_lt (by rw [hds3.length, hl]; omega), ws ++ [y], xs ++ [x], (k3.trans k4).mutL hD hD4, h4.updL hne, upd_same, ?_, by rw [List.length_append, hl]; rfl, fun z hz => ?_⟩
    · exact DtA.app ((hds3.kt k4.tups).kt (KT.updL hD4)) (.cons (hd.kt (KT.updL hD4)) .nil)
    · rcases List.mem_append.mp hz with hz | hz
      · exact hP z hz
      · rw [List.mem_singleton.mp hz]
        exact p
  · exact q D H' ws xs (k2.new D hD) (k2.trans k3) h3 hD3 hds3 ⟨n, hn, by rw [hl, Int.toNat_natCast], hP⟩
end
section
variable {P : Program} {w : World} {K : PySem.W.Frag} {mg : Str → Option Value} {base : Heap}
theorem DtA.at {H : Hp} : ∀ {vs : List V} {ds : List PyData} {i : Nat}, DtA H vs ds → i < ds.length → ∃ v x, vs[i]? = some v ∧ x ∈ ds ∧ Dt H v x
  | _, _, _, .nil, h => by cases h
  | _, _, 0, .cons h _, _ => ⟨_, _, rfl, List.mem_cons_self, h⟩
  | _, _, i + 1, .cons _ r, h => by
    obtain ⟨v, x, h1, h2, h3⟩ := DtA.at (i := i) r (Nat.lt_of_succ_lt_succ h)
    exact ⟨v, x, by simpa using h1, List.mem_cons_of_mem _ h2, h3⟩
theorem ok__law_of (T : Txt w K mg) (c__law_any : C8.Cal P w K mg base 1 "_law_any" spAny []) : C8.Cal P w K mg base 2 "_law_of" spOf [] := by
  refine T.cal m_def__law_of m_glo__law_of sc__law_of bi__law_of len2 (fun cdv A outer s H vs Q E hr h => ?_)
  obtain ⟨v, v2, rfl, d, cs, L, xs, ds, rfl, rfl, hL, hds, hne, hlen, n1, n2, hd, q⟩ := h
  refine ⟨_, (pss_one (ps_ret (pe_ix ix_list (pv 1) (C8.pe_c c__law_any hr (by decide) (by rfl) (pa_cons (pv 0) (pa_cons (pe_callB call_len_seq (by rfl) (T.free m_free_len) PySem.boot_len (pa_cons (pv 1) pa_nil)) pa_nil))) (fun _ _ => rfl)))), ?_⟩
  have hpos : 0 < ds.length := Nat.pos_of_ne_zero fun e => hne (List.eq_nil_of_length_eq_zero e)
  have hl := hds.length
  have ha : Dd d cs (tCall spAny [] C8.E0 (tCons (tVar 0) (tCons (tCB (Evl.rLenS K) (tCons (tVar 1) tNil)) tNil))) [some (.ref d), some (.ref L)] H (IntLt ds.length) := dd_any (bnd := ds.length) (fun _ => ev_var rfl) (fun H1 k1 h1 => by
    rw [← hl]
    exact ev_len (ev_var rfl) (sq_of (k1.other L _ n1 n2 hL))) hpos (Nat.le_trans hlen (by decide))
  refine ⟨.ref L, rfl, ha H (KD.refl d cs H) hd _ fun y H2 x k2 h2 hdy ⟨n, ex, hn⟩ => ?_⟩
  subst ex
  obtain rfl := hdy.intE
  have hL2 := k2.other L _ n1 n2 hL
  obtain ⟨v, x, h3, h4, h5⟩ := (hds.kt k2.tups).at hn
  exact ⟨L, xs, (n : Int), v, rfl, rfl, sq_of hL2, atI_nat h3, q v H2 x h4 k2 h2 h5⟩
theorem ok__law_power (T : Txt w K mg) : C8.Cal P w K mg base 1 "_law_power" (Pr1 fun v H Q => ∃ n : Nat, v = .int (n : Int) ∧ n ≤ 64 ∧ RetV (.int ((2 ^ n : Nat) : Int)) H Q) [] := by
  refine T.cal m_def__law_power m_glo__law_power sc__law_power bi__law_power len1 (fun cdv A outer s H vs Q E hr h => ?_)
  obtain ⟨v, rfl, n, rfl, hn, q⟩ := h
  refine ⟨_, (pss_one (ps_ret (pe_op op_shl pe_int (pv 0)))), ?_⟩
  exact s_ret (ev_is (ev_op ev_c (ev_var rfl) (rv_I ⟨by omega, by omega, by decide⟩)) (congrArg V.int (by rw [Int.toNat_natCast, Int.one_mul]; simp))) fun H1 e => q H1 e
theorem IntLt.mono {a b : Nat} {x : PyData} (h : a ≤ b) : IntLt a x → IntLt b x := fun ⟨n, e, hn⟩ => ⟨n, e, Nat.lt_of_lt_of_le hn h⟩
theorem intLt {b n : Nat} (h : n < b) : IntLt b (.int (n : Int)) := ⟨n, rfl, h⟩
abbrev Num64 : PyData → Prop := IntLt (2 ^ 64)
theorem num_lit {i : Int} (h : 0 ≤ i ∧ i < 18446744073709551616) : Num64 (.int i) := ⟨i.toNat, congrArg PyData.int (by omega), by
  have := h.2
  have := h.1
  show i.toNat < 18446744073709551616
  omega⟩
theorem pow_ev {d cs : Addr} {σ : L2.St} {H0 : Hp} {k : Nat} {Pr : PyData → Prop} (hk : k ≤ 1000) (p : Pr (.int (2 ^ k))) : Dd d cs (tOp (rI CPow fun i j => .int (i ^ j.toNat)) (tC (.int 2)) (tC (.int (k : Int)))) σ H0 Pr := dd_ev (fun _ _ _ => ev_op ev_c ev_c (rv_I ⟨by omega, by omega, by decide⟩)) (by rw [Int.toNat_natCast]; exact .int _) p
theorem ok__law_number (T : Txt w K mg) (c__law_any : C8.Cal P w K mg base 1 "_law_any" spAny []) (c__law_of : C8.Cal P w K mg base 2 "_law_of" spOf []) : C8.Cal P w K mg base 3 "_law_number" (spDr Num64) [] := by
  refine T.cal m_def__law_number m_glo__law_number sc__law_number bi__law_number len1 (fun cdv A outer s H vs Q E hr h => ?_)
  obtain ⟨v, rfl, d, cs, rfl, hd, q⟩ := h
  refine ⟨_, (pss_one (ps_ret (C8.pe_c c__law_of hr (by decide) (by rfl) (pa_cons (pv 0) (pa_cons (pe_lst (pa_cons pe_int (pa_cons pe_int (pa_cons pe_int (pa_cons pe_int (pa_cons pe_int (pa_cons pe_int (pa_cons (C8.pe_c c__law_any hr (by decide) (by rfl) (pa_cons (pv 0) (pa_cons pe_int pa_nil))) (pa_cons (C8.pe_c c__law_any hr (by decide) (by rfl) (pa_cons (pv 0) (pa_cons (pe_op op_pow pe_int pe_int) pa_nil))) (pa_cons (pe_op op_sub (pe_op op_pow pe_int pe_int) pe_int) (pa_cons (pe_op op_pow pe_int pe_int) pa_nil))))))))))) pa_nil))))), ?_⟩
  have e64 : ∀ H', Ev (tOp (rI CPow fun i j => .int (i ^ j.toNat)) (tC (.int 2)) (tC (.int 64))) [some (.ref d)] H' (.int ((2 ^ 64 : Nat) : Int)) := fun H' => ev_op ev_c ev_c (rv_I ⟨by omega, by omega, by decide⟩)
  exact dds_ret (dd_ofA (n := 10) (fun _ => ev_var rfl) (dda1 (dd_int (num_lit (by decide))) (dda1 (dd_int (num_lit (by decide))) (dda1 (dd_int (num_lit (by decide))) (dda1 (dd_int (num_lit (by decide))) (dda1 (dd_int (num_lit (by decide))) (dda1 (dd_int (num_lit (by decide))) (dda1 ((dd_anyC (bnd := 1000) (fun _ => ev_var rfl) (by decide) (by decide)).imp fun x => IntLt.mono (by decide)) (dda1 (dd_any (bnd := 2 ^ 64) (fun _ => ev_var rfl) (fun _ _ _ => e64 _) (by decide) (Nat.le_refl _))
    (dda1 (dd_ev (v := .int (2 ^ 64 - 1)) (fun _ _ _ => ev_op (e64 _) ev_c rv_I0) (.int _) (num_lit (by decide))) (dda1 (dd_ev (v := .int (2 ^ 63)) (fun _ _ _ => ev_op ev_c ev_c (rv_I ⟨by omega, by omega, by decide⟩)) (.int _) (num_lit (by decide))) dda0)))))))))) (by decide)) _ H (KD.refl d cs H) hd q
theorem ok__law_small (T : Txt w K mg) (c__law_any : C8.Cal P w K mg base 1 "_law_any" spAny []) (c__law_of : C8.Cal P w K mg base 2 "_law_of" spOf []) : C8.Cal P w K mg base 3 "_law_small" (spDr Num64) [] := by
  refine T.cal m_def__law_small m_glo__law_small sc__law_small bi__law_small len1 (fun cdv A outer s H vs Q E hr h => ?_)
  obtain ⟨v, rfl, d, cs, rfl, hd, q⟩ := h
  refine ⟨_, (pss_one (ps_ret (C8.pe_c c__law_of hr (by decide) (by rfl) (pa_cons (pv 0) (pa_cons (pe_lst (pa_cons (C8.pe_c c__law_any hr (by decide) (by rfl) (pa_cons (pv 0) (pa_cons pe_int pa_nil))) (pa_cons (C8.pe_c c__law_any hr (by decide) (by rfl) (pa_cons (pv 0) (pa_cons pe_int pa_nil))) (pa_cons (C8.pe_c c__law_any hr (by decide) (by rfl) (pa_cons (pv 0) (pa_cons pe_int pa_nil))) (pa_cons (pe_op op_sub (pe_op op_sub (pe_op op_pow pe_int pe_int) pe_int) (C8.pe_c c__law_any hr (by decide) (by rfl) (pa_cons (pv 0) (pa_cons pe_int pa_nil)))) pa_nil))))) pa_nil))))), ?_⟩
  have e64 : ∀ H', Ev (tOp (rI CPow fun i j => .int (i ^ j.toNat)) (tC (.int 2)) (tC (.int 64))) [some (.ref d)] H' (.int ((2 ^ 64 : Nat) : Int)) := fun H' => ev_op ev_c ev_c (rv_I ⟨by omega, by omega, by decide⟩)
  refine dds_ret (dd_ofA (n := 4) (fun _ => ev_var rfl) (dda1 ((dd_anyC (bnd := 9) (fun _ => ev_var rfl) (by decide) (by decide)).imp fun x => IntLt.mono (by decide)) (dda1 ((dd_anyC (bnd := 9) (fun _ => ev_var rfl) (by decide) (by decide)).imp fun x => IntLt.mono (by decide)) (dda1 ((dd_anyC (bnd := 200) (fun _ => ev_var rfl) (by decide) (by decide)).imp fun x => IntLt.mono (by decide))
    (dda1 (fun H1 k1 h1 Q q => ?_) dda0)))) (by decide)) _ H (KD.refl d cs H) hd q
  refine ev_op (e64 H1) ev_c rv_I0 H1 (Ex.refl H1) _ fun H2 e2 => dd_anyC (d := d) (cs := cs) (bnd := 3) (fun _ => ev_var rfl) (by decide) (by decide) H2 (k1.trans (KD.ex e2)) (h1.ex e2) _ fun y H3 x k3 h3 hdy ⟨n, ex, hn⟩ => ?_
  subst ex
  obtain rfl := hdy.intE
  exact ⟨_, _, rfl, rfl, q _ H3 (.int _) ((KD.ex e2).trans k3) h3 (.int _) (num_lit (by omega))⟩
def WdP (x : PyData) : Prop := ∃ n : Nat, x = nt n ∧ WdOk n
theorem wdP {n : Nat} (h : (decide (n ∈ [1, 8, 16, 32, 64])) = true) : WdP (.int (n : Int)) := ⟨n, rfl, (of_decide_eq_true h : n ∈ [1, 8, 16, 32, 64])⟩
theorem ok__law_width (T : Txt w K mg) (c__law_of : C8.Cal P w K mg base 2 "_law_of" spOf []) : C8.Cal P w K mg base 3 "_law_width" (spDr WdP) [] := by
  refine T.cal m_def__law_width m_glo__law_width sc__law_width bi__law_width len1 (fun cdv A outer s H vs Q E hr h => ?_)
  obtain ⟨v, rfl, d, cs, rfl, hd, q⟩ := h
  refine ⟨_, (pss_one (ps_ret (C8.pe_c c__law_of hr (by decide) (by rfl) (pa_cons (pv 0) (pa_cons (pe_lst (pa_cons pe_int (pa_cons pe_int (pa_cons pe_int (pa_cons pe_int (pa_cons pe_int pa_nil)))))) pa_nil))))), ?_⟩
  exact dds_ret (dd_ofA (n := 5) (fun _ => ev_var rfl) (dda1 (dd_int (wdP (n := 1) (by decide))) (dda1 (dd_int (wdP (n := 8) (by decide))) (dda1 (dd_int (wdP (n := 16) (by decide))) (dda1 (dd_int (wdP (n := 32) (by decide))) (dda1 (dd_int (wdP (n := 64) (by decide))) dda0))))) (by decide)) _ H (KD.refl d cs H) hd q
def TyP (x : PyData) : Prop := ∃ t : Ty, x = t.py ∧ TyOk t
theorem tyW {n : Nat} (h : (decide (n ∈ [1, 8, 16, 32, 64])) = true) : TyP (.int (n : Int)) := ⟨.w n, rfl, (of_decide_eq_true h : n ∈ [1, 8, 16, 32, 64])⟩
theorem ok__law_type (T : Txt w K mg) (c__law_of : C8.Cal P w K mg base 2 "_law_of" spOf []) : C8.Cal P w K mg base 3 "_law_type" (spDr TyP) [] := by
  refine T.cal m_def__law_type m_glo__law_type sc__law_type bi__law_type len1 (fun cdv A outer s H vs Q E hr h => ?_)
  obtain ⟨v, rfl, d, cs, rfl, hd, q⟩ := h
  refine ⟨_, (pss_one (ps_ret (C8.pe_c c__law_of hr (by decide) (by rfl) (pa_cons (pv 0) (pa_cons (pe_lst (pa_cons pe_int (pa_cons pe_int (pa_cons pe_int (pa_cons pe_int (pa_cons pe_int (pa_cons pe_str (pa_cons pe_str pa_nil)))))))) pa_nil))))), ?_⟩
  exact dds_ret (dd_ofA (n := 7) (fun _ => ev_var rfl) (dda1 (dd_int (tyW (n := 1) (by decide))) (dda1 (dd_int (tyW (n := 8) (by decide))) (dda1 (dd_int (tyW (n := 16) (by decide))) (dda1 (dd_int (tyW (n := 32) (by decide))) (dda1 (dd_int (tyW (n := 64) (by decide))) (dda1 (dd_s (a := kPtr) lit ⟨.ptr, rfl, trivial⟩) (dda1 (dd_s (a := kPtr) lit ⟨.ptr, rfl, trivial⟩) dda0))))))) (by decide)) _ H (KD.refl d cs H) hd q
end
end K6
/-! K6X3: the law's draws: names, operands, targets. -/
namespace K6
open PySem PySem.Spec PyProof.Rows L2 Evl
/-! ### sorted texts without a double: each less than the next -/
theorem ltCps_lt : ∀ {a b : List Nat}, ltCps a b = true ↔ a < b
  | [], [] => ⟨(fun h => by cases h), fun h => absurd h (List.lt_irrefl [])⟩
  | [], b :: t => ⟨fun _ => List.nil_lt_cons b t, fun _ => rfl⟩
  | a :: r, [] => ⟨(fun h => by cases h), fun h => absurd h (List.not_lt_nil _)⟩
  | a :: r, b :: t => by
    have ih := ltCps_lt (a := r) (b := t)
    show (decide (a < b) || (a == b && ltCps r t)) = true ↔ _
    rw [Bool.or_eq_true, Bool.and_eq_true, decide_eq_true_eq, beq_iff_eq, ih, List.cons_lt_cons_iff]
theorem asc_of : ∀ {l : List Tx}, sortedS (l.map SX.S) = true → l.Nodup → Asc l
  | [], _, _ => trivial
  | [_], _, _ => trivial
  | a :: b :: r, h, n => by
    have h' : (!ltCps b a && risingS (SX.S b) (r.map SX.S)) = true := h
    rw [Bool.and_eq_true, Bool.not_eq_true'] at h'
    have ne : a ≠ b := fun e => by
      rw [e] at n
      exact (List.nodup_cons.mp n).1 List.mem_cons_self
    refine ⟨?_, asc_of (l := b :: r) h'.2 (List.nodup_cons.mp n).2⟩
    rcases Std.lt_trichotomy a b with z | z | z
    · exact z
    · exact absurd z ne
    · rw [ltCps_lt.mpr z] at h'
      cases h'.1
theorem mem_S {a : Tx} {l : List Tx} : SX.S a ∈ l.map SX.S ↔ a ∈ l := by
  rw [List.mem_map]
  exact ⟨fun ⟨b, hb, e⟩ => by rw [← SX.S_inj e]; exact hb, fun h => ⟨a, h, rfl⟩⟩
/-- a row of texts by codes -/
theorem strs_S {ys : List Str} {l : List Tx} (h : ys.Perm (l.map SX.S)) : ∃ m : List Tx, ys = m.map SX.S ∧ m.Perm l := by
  have e : ys = (ys.map fun y => y.cps.toList).map SX.S := by
    rw [List.map_map]
    have : (SX.S ∘ fun y : Str => y.cps.toList) = id := by
      funext y
      rfl
    rw [this, List.map_id]
  refine ⟨_, e, ?_⟩
  have := h.map fun y : Str => y.cps.toList
  rw [List.map_map] at this
  have e2 : ((fun y : Str => y.cps.toList) ∘ SX.S) = id := by
    funext y
    rfl
  rw [e2, List.map_id] at this
  exact this
def namesL : List Tx := [[97], [98], [109, 97, 105, 110], [102, 95, 49], [90, 122], [95], [120, 57], [116], [105, 51, 50], [98, 48], [118, 111, 105, 100], [65], [95, 95], [113, 50, 113]]
theorem names_ok {x : Tx} (h : x ∈ namesL) : NameOk x := by
  have hd : namesL.all (fun x => !x.isEmpty && decide (x.length ≤ 4) && x.all isWd && !(isF (x.headD 48))) = true := by decide
  have := List.all_eq_true.mp hd x h
  simp only [Bool.and_eq_true, Bool.not_eq_true', decide_eq_true_eq, List.all_eq_true] at this
  obtain ⟨⟨⟨h1, h2⟩, h3⟩, h4⟩ := this
  refine ⟨fun e => ?_, h2, h3, fun c r e => ?_⟩
  · rw [e] at h1
    cases h1
  · rw [e] at h4
    exact h4
section
variable {P : Program} {w : World} {K : PySem.W.Frag} {mg : Str → Option Value} {base : Heap}
def spNames : Sp := Pr3 fun v m b H Q => ∃ d cs n pb bs, v = .ref d ∧ m = .int ((n : Nat) : Int) ∧ n ≤ 10 ∧ b = .ref pb ∧ H pb = some (.lst (bs.map vS)) ∧ bs.length ≤ 100 ∧ pb ≠ d ∧ pb ≠ cs ∧ Deal H d cs ∧
  ∀ p H2 ns, H p = none → KD d cs H H2 → Deal H2 d cs → H2 p = some (.lst (ns.map vS)) → Asc ns → (∀ x ∈ ns, NameOk x ∧ x ∉ bs) → ns.length ≤ n → (0 < n → bs = [] → ns ≠ []) → Q (.ref p) H2
theorem inV_iff {x : Tx} {l : List Tx} : inV (vS x) (l.map vS) = decide (x ∈ l) := by
  by_cases h : x ∈ l
  · rw [decide_eq_true h]
    refine List.any_eq_true.mpr ⟨vS x, List.mem_map.mpr ⟨x, h, rfl⟩, ?_⟩
    show (SX.S x == SX.S x) = true
    exact beq_self_eq_true _
  · rw [decide_eq_false h]
    refine List.any_eq_false.mpr fun v hv => ?_
    obtain ⟨y, hy, rfl⟩ := List.mem_map.mp hv
    show ¬ (SX.S y == SX.S x) = true
    rw [beq_iff_eq]
    exact fun e => h (by rw [← SX.S_inj e]; exact hy)
theorem flat_V : ∀ (bs : List Tx), (bs.map vS).all flatV = true
  | [] => rfl
  | b :: bs => flat_V bs
theorem et_niCat {σ : L2.St} {H : Hp} {ta tb tc : TE} {L F : Addr} {nm : Tx} {ns bs : List Tx} (ha : Ev ta σ H (vS nm)) (hb : Ev tb σ H (.ref L)) (hc : Ev tc σ H (.ref F)) (hL : H L = some (.lst (ns.map vS))) (hF : H F = some (.lst (bs.map vS))) (hz : ns.length + bs.length ≤ 1000) : EvT (tTest (tOp (rIn K true) ta (tOp rCat tb tc))) σ H (!decide (nm ∈ ns ++ bs)) := fun H1 e Q q =>
  ha H1 e _ fun H2 e2 => hb H2 (e.trans e2) _ fun H3 e3 => hc H3 (e.trans (e2.trans e3)) _ fun H4 e4 => by
    have e24 := e2.trans (e3.trans e4)
    have e14 := e.trans e24
    refine ⟨L, F, _, _, rfl, rfl, e14 _ _ hL, e14 _ _ hF, sz_of (by rw [List.length_map, List.length_map]; omega), fun r hr => ⟨r, _, rfl, .inl (sq_of upd_same), rfl, by rw [← List.map_append]; exact flat_V _, _, rfl, ?_⟩⟩
    rw [← List.map_append, inV_iff]
    exact q _ (e24.trans (Ex.new hr))
theorem ok__law_names (T : Txt w K mg) (c__law_of : C8.Cal P w K mg base 2 "_law_of" spOf []) : C8.Cal P w K mg base 3 "_law_names" spNames [] := by
  refine T.cal m_def__law_names m_glo__law_names sc__law_names bi__law_names len3 (fun cdv A outer s H vs Q E hr h => ?_)
  obtain ⟨v, v2, v3, rfl, d, cs, n, pb, bs, rfl, rfl, hn, rfl, hpb, hbl, nb1, nb2, hd, q⟩ := h
  refine ⟨_, (pss_cons (ps_set (i := 3) sc__law_names.nd rfl (Or.inl rfl) (pe_lst (pa_cons pe_str (pa_cons pe_str (pa_cons pe_str (pa_cons pe_str (pa_cons pe_str (pa_cons pe_str (pa_cons pe_str (pa_cons pe_str (pa_cons pe_str (pa_cons pe_str (pa_cons pe_str (pa_cons pe_str (pa_cons pe_str (pa_cons pe_str pa_nil))))))))))))))))
  (pss_cons (ps_set (i := 4) sc__law_names.nd rfl (Or.inl rfl) (pe_lst pa_nil))
  (pss_cons (ps_for PassesOwn.never rfl (pi_range1 rfl (T.free m_free_range) (pa_cons (pv 1) pa_nil)) (pg_name (i := 5) sc__law_names.nd rfl (Or.inl rfl)) (pss_cons (ps_set (i := 6) sc__law_names.nd rfl (Or.inl rfl) (C8.pe_c c__law_of hr (by decide) (by rfl) (pa_cons (pv 0) (pa_cons (pv 3) pa_nil))))
  (pss_one (ps_if (pt_cmpR op_notIn_seq (pv 6) (pe_op op_cat (pv 4) (pv 2)) (by rfl)) (pss_one (ps_expr (pe_bm PySem.F.plainAttrs_list PySem.F.slot_list_append PySem.F.type_list_append mt_append (pv 4) (pa_cons (pv 6) pa_nil)))) pss_nil))))
  (pss_one (ps_ret (pe_callB cr_sortedS (by rfl) (T.free m_free_sorted) (by decide +kernel) (pa_cons (pv 4) pa_nil))))))), ?_⟩
  have ab : ∀ (x : Tx) (σ : L2.St) (H : Hp), Ev (tC (.str (SX.S x))) σ H (vS x) := fun _ _ _ => ev_c
  refine q_asgL (xs := namesL.map vS) (el_lst (ea_cons (ev_lit lit) (ea_cons (ev_lit lit) (ea_cons (ev_lit lit) (ea_cons (ev_lit lit) (ea_cons (ev_lit lit) (ea_cons (ev_lit lit) (ea_cons (ev_lit lit) (ea_cons (ev_lit lit) (ea_cons (ev_lit lit) (ea_cons (ev_lit lit) (ea_cons (ev_lit lit) (ea_cons (ev_lit lit) (ea_cons (ev_lit lit) (ea_cons (ev_lit lit) ea_nil)))))))))))))) (by decide)) fun S H1 hS0 e1 hS1 => ?_
  refine q_asgL (el_lst ea_nil (Nat.zero_le _)) fun L H2 hL0' e2 hL2 => ?_
  have hL0 : H L = none := fresh_back e1 hL0'
  have nS := hd.ne hS0
  have nL := hd.ne hL0
  have nSL : S ≠ L := fun e => by
    rw [← e, hS1] at hL0'
    cases hL0'
  have nbL : pb ≠ L := fun e => by
    rw [← e, hpb] at hL0
    cases hL0
  have hdS : DtA H2 (namesL.map vS) (namesL.map tx) := by
    have : ∀ l : List Tx, DtA H2 (l.map vS) (l.map tx) := fun l => by
      induction l with
      | nil => exact .nil
      | cons a l ih => exact .cons (.str _) ih
    exact this _
  refine q_forR1 (n := (n : Int)) (ea_cons (ev_var rfl) ea_nil) (by omega) (fun i σ' H' => ∃ ns y5 y6, KD d cs H H' ∧ Deal H' d cs ∧ H' S = some (.lst (namesL.map vS)) ∧ H' L = some (.lst (ns.map vS)) ∧ ns.Nodup ∧ (∀ x ∈ ns, x ∈ namesL ∧ x ∉ bs) ∧ ns.length ≤ i ∧ (0 < i → bs = [] → ns ≠ []) ∧ σ' = [some (.ref d), some (.int (n : Int)), some (.ref pb), some (.ref S), some (.ref L), y5, y6]) (fun H3 e3 => ?_) (fun i σ' H' hi ⟨ns, y5, y6, k, hdl, hS, hL, hnd, hns, hlen, hne, eσ⟩ => ?_) (fun σ' H' ⟨ns, y5, y6, k, hdl, hS, hL, hnd, hns, hlen, hne, eσ⟩ => ?_)
  · exact ⟨[], none, none, KD.ex (e1.trans (e2.trans e3)), hd.ex (e1.trans (e2.trans e3)), e3 _ _ (e2 _ _ hS1), e3 _ _ hL2, List.nodup_nil, (fun x h => by cases h), Nat.le_refl _, (fun h => absurd h (by decide)), rfl⟩
  · subst eσ
    refine ⟨.ref d, rfl, .ref S, rfl, ?_⟩
    have hds : DtA H' (namesL.map vS) (namesL.map tx) := by
      have : ∀ l : List Tx, DtA H' (l.map vS) (l.map tx) := fun l => by
        induction l with
        | nil => exact .nil
        | cons a l ih => exact .cons (.str _) ih
      exact this _
    refine ⟨_, _, rfl, d, cs, S, _, _, rfl, rfl, hS, hds, by decide, by decide, nS.1, nS.2, hdl, fun y H3 x hx k3 h3 hdy => ?_⟩
    obtain ⟨nm, hnm, rfl⟩ := List.mem_map.mp hx
    obtain rfl := hdy.strE
    have hL3 := k3.other L _ nL.1 nL.2 hL
    have hb3 := k3.other pb _ nb1 nb2 (k.other pb _ nb1 nb2 hpb)
    have k03 := k.trans k3
    refine s_when (b := !decide (nm ∈ ns ++ bs)) (et_niCat (ev_var rfl) (ev_var rfl) (ev_var rfl) hL3 hb3 (by omega)) (fun hb H4 e4 => ?_) fun hb H4 e4 => ?_
    · have hnm2 : nm ∉ ns ++ bs := by
        simpa using hb
      rw [List.mem_append, not_or] at hnm2
      refine s_app (e4 _ _ hL3) (ev_var rfl) (ev_var rfl) (by rw [List.length_map]; omega) fun H5 e5 => ?_
      have k05 := k03.trans (KD.ex (e4.trans e5))
      refine ⟨ns ++ [nm], _, _, k05.mutL hL0 (e5 _ _ (e4 _ _ hL3)), (h3.ex (e4.trans e5)).updL nL, ?_, ?_, ?_, fun x hx => ?_, by rw [List.length_append]; show ns.length + 1 ≤ i + 1; omega, (fun _ _ e => by simp at e), rfl⟩
      · rw [upd_ne nSL]
        exact (e4.trans e5) _ _ (k3.other S _ nS.1 nS.2 hS)
      · rw [upd_same, List.map_append]
        rfl
      · exact List.nodup_append.mpr ⟨hnd, List.nodup_cons.mpr ⟨by simp, List.nodup_nil⟩, fun a ha b hb e => by
          rw [List.mem_singleton.mp hb] at e
          exact hnm2.1 (by rw [← e]; exact ha)⟩
      · rcases List.mem_append.mp hx with hx | hx
        · exact hns x hx
        · rw [List.mem_singleton.mp hx]
          exact ⟨hnm, hnm2.2⟩
    · have hnm2 : nm ∈ ns ++ bs := Decidable.byContradiction fun z => by
        rw [decide_eq_false z] at hb
        cases hb
      refine ⟨ns, _, _, k03.trans (KD.ex e4), h3.ex e4, e4 _ _ (k3.other S _ nS.1 nS.2 hS), e4 _ _ hL3, hnd, hns, by omega, fun _ hbs e => ?_, rfl⟩
      rw [e, hbs] at hnm2
      simp at hnm2
  · subst eσ
    rw [Int.toNat_natCast] at hlen hne
    refine ⟨_, rfl, L, ns.map SX.S, rfl, sq_of (by rw [← vmap]; exact hL), by rw [List.length_map]; omega, fun ys p hp hs hp0 => ?_⟩
    obtain ⟨m, rfl, hm⟩ := strs_S hp
    refine q p _ m (k.new p hp0) (k.trans (KD.ex (Ex.new hp0))) (hdl.ex (Ex.new hp0)) (by rw [upd_same, vmap]) (asc_of hs (hm.nodup_iff.mpr hnd)) (fun x hx => ?_) (by rw [hm.length_eq]; exact hlen) fun h1 h2 e => ?_
    · have := hns x (hm.mem_iff.mp hx)
      exact ⟨names_ok this.1, this.2⟩
    · rw [e] at hm
      exact hne h1 h2 (List.nil_perm.mp hm)
end
end K6
/-! K6X4: the law's draws: operands, targets, ops, endings. -/
namespace K6
open PySem PySem.Spec PyProof.Rows L2 Evl
def OpdP (x : PyData) : Prop := ∃ o : Opd, x = o.py ∧ OpdOk o
def NmP (x : PyData) : Prop := ∃ a : Tx, x = tx a ∧ NameOk a
def TgtP (x : PyData) : Prop := ∃ t : Tgt, x = t.py ∧ TgtOk t
def OpP (x : PyData) : Prop := ∃ o : Op, x = o.py ∧ OpOk o
def EndP (x : PyData) : Prop := ∃ o : End, x = o.py ∧ EndOk o
/-- so many operands -/
def ArgP (N : Nat → Prop) (x : PyData) : Prop := ∃ l : List Opd, x = argsPy l ∧ N l.length ∧ ∀ o ∈ l, OpdOk o
theorem opds_of : ∀ {xs : List PyData}, (∀ x ∈ xs, OpdP x) → ∃ l : List Opd, xs = l.map Opd.py ∧ ∀ o ∈ l, OpdOk o
  | [], _ => ⟨[], rfl, fun o h => by cases h⟩
  | x :: xs, h => by
    obtain ⟨o, rfl, ho⟩ := h x List.mem_cons_self
    obtain ⟨l, rfl, hl⟩ := opds_of fun y hy => h y (List.mem_cons_of_mem _ hy)
    exact ⟨o :: l, rfl, fun p hp => by
      rcases List.mem_cons.mp hp with rfl | hp
      · exact ho
      · exact hl p hp⟩
section
variable {K : PySem.W.Frag} {d cs : Addr} {σ : L2.St} {H0 : Hp} {ta tb te : TE} {tr : TA} {P : PyData → Prop} {E : XK}
/-- _law_names(deal, 1, [])[0] -/
theorem dd_name0 (ha : ∀ H, Ev ta σ H (.ref d)) : Dd d cs (tOp (rIxL K) (tCall spNames [] E (tCons ta (tCons (tC (.int 1)) (tCons (tLst tNil) tNil)))) (tC (.int 0))) σ H0 NmP := fun H1 k1 h1 Q q => ha H1 H1 (Ex.refl H1) _ fun H2 e2 => ⟨sz_of (Nat.zero_le _), fun B hB => by
  have e3 : Ex H2 (L2.upd H2 B (.lst [])) := Ex.new hB
  have nB := (h1.ex e2).ne hB
  refine ⟨_, _, _, rfl, d, cs, 1, B, [], rfl, rfl, by decide, rfl, upd_same, by decide, nB.1, nB.2, (h1.ex e2).ex e3, fun p H3 ns hp k3 h3 hp3 hasc hns hlen hne => ?_⟩
  obtain ⟨x, r, rfl⟩ : ∃ x r, ns = x :: r := by
    cases ns with
    | nil => exact absurd rfl (hne (by decide) rfl)
    | cons x r => exact ⟨x, r, rfl⟩
  exact ⟨p, _, 0, vS x, rfl, rfl, sq_of hp3, atI_nat (j := 0) rfl, q _ H3 (tx x) ((KD.ex (e2.trans e3)).trans k3) h3 (.str _) ⟨x, rfl, (hns x List.mem_cons_self).1⟩⟩⟩
def spArgsD : Sp := Pr2 fun v m H Q => ∃ d cs n, v = .ref d ∧ m = .int ((n : Nat) : Int) ∧ n ≤ 10 ∧ Deal H d cs ∧ ∀ y H2 x, KD d cs H H2 → Deal H2 d cs → Dt H2 y x → ArgP (· = n) x → Q y H2
theorem ArgP.imp {N M : Nat → Prop} (h : ∀ n, N n → M n) {x : PyData} : ArgP N x → ArgP M x := fun ⟨l, e, hn, ho⟩ => ⟨l, e, h _ hn, ho⟩
theorem dd_args {n : Nat} (ha : ∀ H, Ev ta σ H (.ref d)) (hb : ∀ H, Ev tb σ H (.int ((n : Nat) : Int))) (hn : n ≤ 10) : Dd d cs (tCall spArgsD [] E (tCons ta (tCons tb tNil))) σ H0 (ArgP (· = n)) := fun H1 k1 h1 Q q => ha H1 H1 (Ex.refl H1) _ fun H2 e2 => hb H2 H2 (Ex.refl H2) _ fun H3 e3 =>
  ⟨_, _, rfl, d, cs, n, rfl, rfl, hn, h1.ex (e2.trans e3), fun y H4 x k4 h4 hd p => q y H4 x ((KD.ex (e2.trans e3)).trans k4) h4 hd p⟩
/-- _law_args(deal, _law_any(deal, b)) -/
theorem dd_argsAny {b : Nat} {E2 : XK} {tc : TE} (ha : ∀ H, Ev ta σ H (.ref d)) (hc : ∀ H, Ev tc σ H (.ref d)) (h0 : 0 < b) (hb : b ≤ 11) : Dd d cs (tCall spArgsD [] E (tCons ta (tCons (tCall spAny [] E2 (tCons tc (tCons (tC (.int ((b : Nat) : Int))) tNil))) tNil))) σ H0 (ArgP (· < b)) := fun H1 k1 h1 Q q => ha H1 H1 (Ex.refl H1) _ fun H2 e2 =>
  dd_anyC (bnd := b) hc h0 (by omega) H2 (k1.trans (KD.ex e2)) (h1.ex e2) _ fun y H3 x k3 h3 hd ⟨n, ex, hn⟩ => by
    subst ex
    obtain rfl := hd.intE
    exact ⟨_, _, rfl, d, cs, n, rfl, rfl, by omega, h3, fun y H4 x k4 h4 hd p => q y H4 x ((KD.ex e2).trans (k3.trans k4)) h4 hd (p.imp fun m e => by rw [e]; exact hn)⟩
end
section
variable {P : Program} {w : World} {K : PySem.W.Frag} {mg : Str → Option Value} {base : Heap}
theorem ok__law_operand (T : Txt w K mg) (c__law_any : C8.Cal P w K mg base 1 "_law_any" spAny []) (c__law_names : C8.Cal P w K mg base 3 "_law_names" spNames []) (c__law_number : C8.Cal P w K mg base 3 "_law_number" (spDr Num64) []) (c__law_small : C8.Cal P w K mg base 3 "_law_small" (spDr Num64) []) : C8.Cal P w K mg base 4 "_law_operand" (spDr OpdP) [] := by
  refine T.cal m_def__law_operand m_glo__law_operand sc__law_operand bi__law_operand len1 (fun cdv A outer s H vs Q E hr h => ?_)
  obtain ⟨v, rfl, d, cs, rfl, hd, q⟩ := h
  refine ⟨_, (pss_cons (ps_set (i := 1) sc__law_operand.nd rfl (Or.inl rfl) (C8.pe_c c__law_any hr (by decide) (by rfl) (pa_cons (pv 0) (pa_cons pe_int pa_nil))))
  (pss_cons (ps_if (pt_cmpR op_eq (pv 1) pe_int (nomark _)) (pss_one (ps_ret (pe_tup (pa_cons pe_str (pa_cons (pe_ix ix_list (C8.pe_c c__law_names hr (by decide) (by rfl) (pa_cons (pv 0) (pa_cons pe_int (pa_cons (pe_lst pa_nil) pa_nil)))) pe_int (fun _ _ => rfl)) pa_nil))))) pss_nil)
  (pss_one (ps_ret (pe_ifExp (pt_cmpR op_eq (pv 1) pe_int (nomark _)) (pe_tup (pa_cons pe_str (pa_cons (C8.pe_c c__law_number hr (by decide) (by rfl) (pa_cons (pv 0) pa_nil)) pa_nil))) (pe_tup (pa_cons pe_str (pa_cons (C8.pe_c c__law_small hr (by decide) (by rfl) (pa_cons (pv 0) pa_nil)) pa_nil)))))))), ?_⟩
  refine (dds_asg (P1 := IntLt 5) (dd_anyC (bnd := 5) (fun _ => ev_var rfl) (by decide) (by decide)) fun v1 H1 x1 k1 hd1 ⟨n, ex, hn⟩ => ?_) _ H (KD.refl d cs H) hd q
  subst ex
  obtain rfl := hd1.intE
  refine dds_if fun H2 k2 h2 => ⟨_, et_eqI (ev_var rfl) ev_c, fun _ => ?_, fun _ => ?_⟩
  · exact dds_ret (dd_tup (R := fun ds => ∃ a, ds = [tx [103], tx a] ∧ NameOk a) (dda_cons (dd_s (P := fun x => x = tx [103]) (a := [103]) lit rfl) (dda_cons (R := fun ds => ∃ a, ds = [tx a] ∧ NameOk a) (dd_name0 (fun _ => ev_var rfl)) (dda_nil (R := fun ds => ds = []) rfl) fun x xs ⟨a, e, h⟩ e2 => ⟨a, by rw [e, e2], h⟩) fun x xs e ⟨a, e2, h⟩ => ⟨a, by rw [e, e2], h⟩) fun xs ⟨a, e, h⟩ => ⟨by rw [e]; show 2 ≤ 1000; omega, .g a, by rw [e]; rfl, h⟩)
  · have numP : ∀ (c : Tx) (y : Str) (mk : Nat → Opd) (te : TE) (_ : y = SX.S c) (_ : ∀ n, (mk n).py = .tuple [tx c, nt n]) (_ : ∀ n, n < 2 ^ 64 → OpdOk (mk n)) (_ : Dd d cs te [some (.ref d), some (.int (n : Int))] H1 Num64), Dd d cs (tTup (tCons (tC (.str y)) (tCons te tNil))) [some (.ref d), some (.int (n : Int))] H1 OpdP := fun c y mk te hy hp ho hte =>
      dd_tup (R := fun ds => ∃ m, ds = [tx c, nt m] ∧ m < 2 ^ 64) (dda_cons (dd_s (P := fun x => x = tx c) (a := c) hy rfl) (dda_cons (R := fun ds => ∃ m, ds = [nt m] ∧ m < 2 ^ 64) hte (dda_nil (R := fun ds => ds = []) rfl) fun x xs ⟨a, e, h⟩ e2 => ⟨a, by rw [e, e2], h⟩) fun x xs e ⟨a, e2, h⟩ => ⟨a, by rw [e, e2], h⟩) fun xs ⟨a, e, h⟩ => ⟨by rw [e]; show 2 ≤ 1000; omega, mk a, by rw [e, hp], ho a h⟩
    refine dds_ret (dd_if fun H3 k3 h3 => ⟨_, et_eqI (ev_var rfl) ev_c, fun _ => ?_, fun _ => ?_⟩)
    · exact numP [110] _ .n _ lit (fun _ => rfl) (fun _ h => h) (dd_dr fun _ => ev_var rfl)
    · exact numP [118] _ .v _ lit (fun _ => rfl) (fun _ h => h) (dd_dr fun _ => ev_var rfl)
theorem ok__law_args (T : Txt w K mg) (c__law_operand : C8.Cal P w K mg base 4 "_law_operand" (spDr OpdP) []) : C8.Cal P w K mg base 5 "_law_args" spArgsD [] := by
  refine T.cal m_def__law_args m_glo__law_args sc__law_args bi__law_args len2 (fun cdv A outer s H vs Q E hr h => ?_)
  obtain ⟨v, v2, rfl, d, cs, n, rfl, rfl, hn, hd, q⟩ := h
  refine ⟨_, (pss_one (ps_ret (pe_callTy call_tuple_of (by rfl) (T.free m_free_tuple) (by decide +kernel) (pa_cons (pe_lc (own := [("_law_turn", 2)]) (g := gName 2) rfl sc__law_args.nd (pi_range1 rfl (T.free m_free_range) (pa_cons (pv 1) pa_nil)) (blkOk_by (N := n__law_args) (sc := defScope s__law_args) (by decide +kernel)) (fun _ _ _ _ _ => (pg_name (i := 2) sc__law_args.nd rfl (Or.inl rfl))) (fun _ _ _ _ _ => pts_nil) (fun _ _ _ _ _ => (C8.pe_c c__law_operand hr (by decide) (by rfl) (pa_cons (pv 0) pa_nil)))) pa_nil)))), ?_⟩
  exact dds_ret (dd_tupleL (P := ArgP (· = n)) (dl_lcR (N := (· = n)) (P := OpdP) (fun m e => by omega) (fun H1 k1 h1 Q' q' => ⟨_, rfl, q' _ H1 [nt n] (KD.refl d cs H1) h1 (.cons (.int _) .nil) ⟨n, rfl, rfl⟩⟩) (fun _ => rfl) fun y => dd_dr fun _ => ev_var rfl) fun xs ⟨m, hm, hl, hP⟩ => by
    obtain ⟨l, rfl, ho⟩ := opds_of hP
    rw [List.length_map] at hl
    exact ⟨l, rfl, hl.trans hm, ho⟩) _ H (KD.refl d cs H) hd q
theorem ok__law_target (T : Txt w K mg) (c__law_any : C8.Cal P w K mg base 1 "_law_any" spAny []) (c__law_small : C8.Cal P w K mg base 3 "_law_small" (spDr Num64) []) (c__law_args : C8.Cal P w K mg base 5 "_law_args" spArgsD []) : C8.Cal P w K mg base 6 "_law_target" (spDr TgtP) [] := by
  refine T.cal m_def__law_target m_glo__law_target sc__law_target bi__law_target len1 (fun cdv A outer s H vs Q E hr h => ?_)
  obtain ⟨v, rfl, d, cs, rfl, hd, q⟩ := h
  refine ⟨_, (pss_one (ps_ret (pe_tup (pa_cons (C8.pe_c c__law_small hr (by decide) (by rfl) (pa_cons (pv 0) pa_nil)) (pa_cons (C8.pe_c c__law_args hr (by decide) (by rfl) (pa_cons (pv 0) (pa_cons (C8.pe_c c__law_any hr (by decide) (by rfl) (pa_cons (pv 0) (pa_cons pe_int pa_nil))) pa_nil))) pa_nil))))), ?_⟩
  exact dds_ret (dd_tup (R := fun ds => ∃ n l, ds = [nt n, argsPy l] ∧ n < 2 ^ 64 ∧ l.length < 3 ∧ ∀ o ∈ l, OpdOk o) (dda_cons (dd_dr (P := Num64) fun _ => ev_var rfl) (dda_cons (R := fun ds => ∃ l, ds = [argsPy l] ∧ l.length < 3 ∧ ∀ o ∈ l, OpdOk o) (dd_argsAny (b := 3) (fun _ => ev_var rfl) (fun _ => ev_var rfl) (by decide) (by decide)) (dda_nil (R := fun ds => ds = []) rfl) fun x xs ⟨l, e, h⟩ e2 => ⟨l, by rw [e, e2], h⟩) fun x xs ⟨n, e, hn⟩ ⟨l, e2, h⟩ => ⟨n, l, by rw [e, e2], hn, h⟩) fun xs ⟨n, l, e, hn, hl, ho⟩ => ⟨by rw [e]; show 2 ≤ 1000; omega, ⟨n, l⟩, by rw [e]; rfl, hn, Nat.le_of_lt_succ hl, ho⟩) _ H (KD.refl d cs H) hd q
end
end K6
/-! K6X5: the law's draws: ops, endings. -/
namespace K6
open PySem PySem.Spec PyProof.Rows L2 Evl
section
variable {K : PySem.W.Frag} {d cs : Addr} {σ : L2.St} {H0 : Hp} {t1 t2 t3 t4 ta tb : TE} {tr : TA} {u : TS} {P P1 P2 P3 P4 : PyData → Prop} {R : List PyData → Prop} {E : XK}
theorem dd_tup1 (h1 : Dd d cs t1 σ H0 P1) (i : ∀ x1, P1 x1 → P (.tuple [x1])) : Dd d cs (tTup (tCons t1 tNil)) σ H0 P :=
  dd_tup (R := fun ds => ∃ x1, ds = [x1] ∧ P1 x1) (dda_cons h1 (dda_nil (R := fun ds => ds = []) rfl) fun x xs p e => ⟨x, by rw [e], p⟩) fun xs ⟨x1, e, p⟩ => ⟨by rw [e]; show 1 ≤ 1000; omega, by rw [e]; exact i x1 p⟩
theorem dd_tup2 (h1 : Dd d cs t1 σ H0 P1) (h2 : Dd d cs t2 σ H0 P2) (i : ∀ x1 x2, P1 x1 → P2 x2 → P (.tuple [x1, x2])) : Dd d cs (tTup (tCons t1 (tCons t2 tNil))) σ H0 P :=
  dd_tup (R := fun ds => ∃ x1 x2, ds = [x1, x2] ∧ P1 x1 ∧ P2 x2) (dda_cons h1 (dda_cons (R := fun ds => ∃ x2, ds = [x2] ∧ P2 x2) h2 (dda_nil (R := fun ds => ds = []) rfl) fun x xs p e => ⟨x, by rw [e], p⟩) fun x xs p ⟨x2, e, p2⟩ => ⟨x, x2, by rw [e], p, p2⟩) fun xs ⟨x1, x2, e, p, p2⟩ => ⟨by rw [e]; show 2 ≤ 1000; omega, by rw [e]; exact i x1 x2 p p2⟩
theorem dda3 (h1 : Dd d cs t1 σ H0 P1) (h2 : Dd d cs t2 σ H0 P2) (h3 : Dd d cs t3 σ H0 P3) : DdA d cs (tCons t1 (tCons t2 (tCons t3 tNil))) σ H0 fun ds => ∃ x1 x2 x3, ds = [x1, x2, x3] ∧ P1 x1 ∧ P2 x2 ∧ P3 x3 :=
  dda_cons h1 (dda_cons (R := fun ds => ∃ x2 x3, ds = [x2, x3] ∧ P2 x2 ∧ P3 x3) h2 (dda_cons (R := fun ds => ∃ x3, ds = [x3] ∧ P3 x3) h3 (dda_nil (R := fun ds => ds = []) rfl) fun x xs p e => ⟨x, by rw [e], p⟩) fun x xs p ⟨x3, e, p3⟩ => ⟨x, x3, by rw [e], p, p3⟩) fun x xs p ⟨x2, x3, e, p2, p3⟩ => ⟨x, x2, x3, by rw [e], p, p2, p3⟩
theorem dd_tup3 (h1 : Dd d cs t1 σ H0 P1) (h2 : Dd d cs t2 σ H0 P2) (h3 : Dd d cs t3 σ H0 P3) (i : ∀ x1 x2 x3, P1 x1 → P2 x2 → P3 x3 → P (.tuple [x1, x2, x3])) : Dd d cs (tTup (tCons t1 (tCons t2 (tCons t3 tNil)))) σ H0 P :=
  dd_tup (dda3 h1 h2 h3) fun xs ⟨x1, x2, x3, e, p, p2, p3⟩ => ⟨by rw [e]; show 3 ≤ 1000; omega, by rw [e]; exact i x1 x2 x3 p p2 p3⟩
theorem dd_tup4 (h1 : Dd d cs t1 σ H0 P1) (h2 : Dd d cs t2 σ H0 P2) (h3 : Dd d cs t3 σ H0 P3) (h4 : Dd d cs t4 σ H0 P4) (i : ∀ x1 x2 x3 x4, P1 x1 → P2 x2 → P3 x3 → P4 x4 → P (.tuple [x1, x2, x3, x4])) : Dd d cs (tTup (tCons t1 (tCons t2 (tCons t3 (tCons t4 tNil))))) σ H0 P :=
  dd_tup (dda_cons (R := fun ds => ∃ x1 x2 x3 x4, ds = [x1, x2, x3, x4] ∧ P1 x1 ∧ P2 x2 ∧ P3 x3 ∧ P4 x4) h1 (dda3 h2 h3 h4) fun x xs p ⟨x2, x3, x4, e, p2, p3, p4⟩ => ⟨x, x2, x3, x4, by rw [e], p, p2, p3, p4⟩) fun xs ⟨x1, x2, x3, x4, e, p, p2, p3, p4⟩ => ⟨by rw [e]; show 4 ≤ 1000; omega, by rw [e]; exact i x1 x2 x3 x4 p p2 p3 p4⟩
theorem dd_tup0 (p : P (.tuple [])) : Dd d cs (tTup tNil) σ H0 P := dd_tup (R := fun ds => ds = []) (dda_nil rfl) fun xs e => ⟨by rw [e]; show 0 ≤ 1000; omega, by rw [e]; exact p⟩
theorem dds_par3 {i j l : Nat} (h1 : Dd d cs t1 σ H0 P1) (h2 : Dd d cs t2 σ H0 P2) (h3 : Dd d cs t3 σ H0 P3) (k : ∀ v1 v2 v3 x1 x2 x3 H2, KD d cs H0 H2 → Dt H2 v1 x1 → Dt H2 v2 x2 → Dt H2 v3 x3 → P1 x1 → P2 x2 → P3 x3 → DdS d cs u (((σ.set i (some v1)).set j (some v2)).set l (some v3)) H2 P) : DdS d cs (tSeq (tPar3 i j l (tCons t1 (tCons t2 (tCons t3 tNil)))) u) σ H0 P := fun D H1 k1 hd1 q =>
  by
  have h := dda3 h1 h2 h3 H1 k1 hd1 (fun vs H2 => ∃ v1 v2 v3, vs = [v1, v2, v3] ∧ u D (((σ.set i (some v1)).set j (some v2)).set l (some v3)) H2) fun vs H2 xs k2 hd2 hds ⟨x1, x2, x3, e, p1, p2, p3⟩ => by
    subst e
    obtain ⟨v1, r1, rfl, e1, hr⟩ := hds.consE
    obtain ⟨v2, r2, rfl, e2, hr⟩ := hr.consE
    obtain ⟨v3, r3, rfl, e3, hr⟩ := hr.consE
    obtain rfl := hr.nilE
    exact ⟨v1, v2, v3, rfl, k v1 v2 v3 x1 x2 x3 H2 (k1.trans k2) e1 e2 e3 p1 p2 p3 D H2 (KD.refl d cs H2) hd2 fun v' H3 x' k3 => q v' H3 x' (k2.trans k3)⟩
  exact h
theorem dds_lst {i : Nat} (h : DdA d cs tr σ H0 R) (hz : ∀ xs, R xs → xs.length ≤ 1000) (k : ∀ L vs xs H2, KD d cs H0 H2 → L ≠ d → L ≠ cs → H2 L = some (.lst vs) → DtA H2 vs xs → R xs → DdS d cs u (σ.set i (some (.ref L))) H2 P) : DdS d cs (tSeq (tAsg (tLst tr) (gName i)) u) σ H0 P := fun D H1 k1 hd1 q => by
  have g := h H1 k1 hd1 (fun vs H2 => vs.length ≤ sizeLine ∧ ∀ p, H2 p = none → u D (σ.set i (some (.ref p))) (L2.upd H2 p (.lst vs))) fun vs H2 xs k2 hd2 hds r => ⟨sz_of (by
    rw [hds.length]
    have := hz xs r
    omega), fun L hL => by
    have e3 : Ex H2 (L2.upd H2 L (.lst vs)) := Ex.new hL
    have hne := hd2.ne hL
    exact k L vs xs _ ((k1.trans k2).trans (KD.ex e3)) hne.1 hne.2 upd_same (hds.kt (KT.ex e3)) r D _ (KD.refl d cs _) (hd2.ex e3) fun v' H3 x' k3 => q v' H3 x' ((k2.trans (KD.ex e3)).trans k3)⟩
  exact g
theorem dd_ofV {L : Addr} {vs : List V} {xs : List PyData} {n : Nat} (ha : ∀ H, Ev ta σ H (.ref d)) (hb : ∀ H, Ev tb σ H (.ref L)) (n1 : L ≠ d) (n2 : L ≠ cs) (hL : H0 L = some (.lst vs)) (hds : DtA H0 vs xs) (hP : AllP P n xs) (hn : 0 < n ∧ n ≤ 1000) : Dd d cs (tCall spOf [] E (tCons ta (tCons tb tNil))) σ H0 P := fun H1 k1 h1 Q q => ha H1 H1 (Ex.refl H1) _ fun H2 e2 => hb H2 H2 (Ex.refl H2) _ fun H3 e3 =>
  ⟨_, _, rfl, d, cs, L, vs, xs, rfl, rfl, (e2.trans e3) _ _ (k1.other L _ n1 n2 hL), (hds.kt k1.tups).kt (KT.ex (e2.trans e3)), fun e => by
    have := hP.1
    rw [e] at this
    simp at this
    omega, by rw [hP.1]; exact hn.2, n1, n2, h1.ex (e2.trans e3), fun y H4 x hx k4 h4 hd => q y H4 x ((KD.ex (e2.trans e3)).trans k4) h4 hd (hP.2 x hx)⟩
end
def InL (L : List Tx) (x : PyData) : Prop := ∃ a : Tx, x = tx a ∧ a ∈ L
theorem dd_in {d cs : Addr} {σ : L2.St} {H0 : Hp} {y : Str} {a : Tx} {L : List Tx} (h : (decide (y = SX.S a) && decide (a ∈ L)) = true) : Dd d cs (tC (.str y)) σ H0 (InL L) := by
  rw [Bool.and_eq_true, decide_eq_true_eq, decide_eq_true_eq] at h
  exact dd_s h.1 ⟨a, rfl, h.2⟩
theorem arg2 {n : Nat} {x : PyData} (h : ArgP (· = n) x) : ∃ l : List Opd, x = argsPy l ∧ l.length = n ∧ ∀ o ∈ l, OpdOk o := h
theorem two_of {l : List Opd} (h : l.length = 2) : ∃ a b, l = [a, b] := by
  match l, h with
  | [a, b], _ => exact ⟨a, b, rfl⟩
theorem three_of {l : List Opd} (h : l.length = 3) : ∃ a b c, l = [a, b, c] := by
  match l, h with
  | [a, b, c], _ => exact ⟨a, b, c, rfl⟩
theorem one_of1 {l : List Opd} (h : l.length = 1) : ∃ a, l = [a] := by
  match l, h with
  | [a], _ => exact ⟨a, rfl⟩
section
variable {P : Program} {w : World} {K : PySem.W.Frag} {mg : Str → Option Value} {base : Heap}
theorem ok__law_op (T : Txt w K mg) (c__law_any : C8.Cal P w K mg base 1 "_law_any" spAny []) (c__law_of : C8.Cal P w K mg base 2 "_law_of" spOf []) (c__law_names : C8.Cal P w K mg base 3 "_law_names" spNames []) (c__law_number : C8.Cal P w K mg base 3 "_law_number" (spDr Num64) []) (c__law_small : C8.Cal P w K mg base 3 "_law_small" (spDr Num64) [])
    (c__law_width : C8.Cal P w K mg base 3 "_law_width" (spDr WdP) []) (c__law_type : C8.Cal P w K mg base 3 "_law_type" (spDr TyP) []) (c__law_args : C8.Cal P w K mg base 5 "_law_args" spArgsD []) : C8.Cal P w K mg base 6 "_law_op" (spDr OpP) [] := by
  refine T.cal m_def__law_op m_glo__law_op sc__law_op bi__law_op len1 (fun cdv A outer s H vs Q E hr h => ?_)
  obtain ⟨v, rfl, d, cs, rfl, hd, q⟩ := h
  refine ⟨_, (pss_cons (ps_par3 (i := 1) (j := 2) (l := 3) (by rfl) sc__law_op.nd rfl rfl rfl (by decide) (by decide) (by decide) rfl rfl rfl (pa_cons (C8.pe_c c__law_small hr (by decide) (by rfl) (pa_cons (pv 0) pa_nil)) (pa_cons (C8.pe_c c__law_width hr (by decide) (by rfl) (pa_cons (pv 0) pa_nil)) (pa_cons (C8.pe_c c__law_any hr (by decide) (by rfl) (pa_cons (pv 0) (pa_cons pe_int pa_nil))) pa_nil))) (by rfl))
  (pss_cons (ps_if (pt_cmpR op_lt (pv 3) pe_int (nomark _)) (pss_cons (ps_set (i := 4) sc__law_op.nd rfl (Or.inl rfl) (pe_lst (pa_cons pe_str (pa_cons pe_str (pa_cons pe_str (pa_cons pe_str (pa_cons pe_str (pa_cons pe_str (pa_cons pe_str (pa_cons pe_str (pa_cons pe_str (pa_cons pe_str (pa_cons pe_str (pa_cons pe_str (pa_cons pe_str pa_nil)))))))))))))))
  (pss_one (ps_ret (pe_tup (pa_cons (pv 1) (pa_cons pe_str (pa_cons (pe_tup (pa_cons (C8.pe_c c__law_of hr (by decide) (by rfl) (pa_cons (pv 0) (pa_cons (pv 4) pa_nil))) (pa_cons (pv 2) pa_nil))) (pa_cons (C8.pe_c c__law_args hr (by decide) (by rfl) (pa_cons (pv 0) (pa_cons pe_int pa_nil))) pa_nil)))))))) pss_nil)
  (pss_cons (ps_if (pt_cmpR op_eq (pv 3) pe_int (nomark _)) (pss_one (ps_ret (pe_tup (pa_cons (pv 1) (pa_cons pe_str (pa_cons (pe_tup (pa_cons (C8.pe_c c__law_of hr (by decide) (by rfl) (pa_cons (pv 0) (pa_cons (pe_lst (pa_cons pe_str (pa_cons pe_str (pa_cons pe_str (pa_cons pe_str (pa_cons pe_str (pa_cons pe_str pa_nil))))))) pa_nil))) (pa_cons (pv 2) pa_nil))) (pa_cons (C8.pe_c c__law_args hr (by decide) (by rfl) (pa_cons (pv 0) (pa_cons pe_int pa_nil))) pa_nil))))))) pss_nil)
  (pss_cons (ps_if (pt_cmpR op_eq (pv 3) pe_int (nomark _)) (pss_one (ps_ret (pe_tup (pa_cons (pv 1) (pa_cons pe_str (pa_cons (pe_tup (pa_cons (C8.pe_c c__law_type hr (by decide) (by rfl) (pa_cons (pv 0) pa_nil)) pa_nil)) (pa_cons (C8.pe_c c__law_args hr (by decide) (by rfl) (pa_cons (pv 0) (pa_cons pe_int pa_nil))) pa_nil))))))) pss_nil)
  (pss_cons (ps_if (pt_cmpR op_eq (pv 3) pe_int (nomark _)) (pss_one (ps_ret (pe_tup (pa_cons (pv 1) (pa_cons pe_str (pa_cons (pe_tup (pa_cons (C8.pe_c c__law_of hr (by decide) (by rfl) (pa_cons (pv 0) (pa_cons (pe_lst (pa_cons pe_str (pa_cons pe_str (pa_cons pe_str pa_nil)))) pa_nil))) (pa_cons (pv 2) (pa_cons (C8.pe_c c__law_width hr (by decide) (by rfl) (pa_cons (pv 0) pa_nil)) pa_nil)))) (pa_cons (C8.pe_c c__law_args hr (by decide) (by rfl) (pa_cons (pv 0) (pa_cons pe_int pa_nil))) pa_nil))))))) pss_nil)
  (pss_cons (ps_if (pt_cmpR op_eq (pv 3) pe_int (nomark _)) (pss_one (ps_ret (pe_tup (pa_cons (pv 1) (pa_cons pe_str (pa_cons (pe_tup (pa_cons (pv 2) (pa_cons (C8.pe_c c__law_number hr (by decide) (by rfl) (pa_cons (pv 0) pa_nil)) pa_nil))) (pa_cons (pe_tup pa_nil) pa_nil))))))) pss_nil)
  (pss_cons (ps_if (pt_cmpR op_eq (pv 3) pe_int (nomark _)) (pss_one (ps_ret (pe_tup (pa_cons (pv 1) (pa_cons (C8.pe_c c__law_of hr (by decide) (by rfl) (pa_cons (pv 0) (pa_cons (pe_lst (pa_cons pe_str (pa_cons pe_str pa_nil))) pa_nil))) (pa_cons (pe_tup (pa_cons (pv 2) pa_nil)) (pa_cons (C8.pe_c c__law_args hr (by decide) (by rfl) (pa_cons (pv 0) (pa_cons pe_int pa_nil))) pa_nil))))))) pss_nil)
  (pss_cons (ps_if (pt_cmpR op_eq (pv 3) pe_int (nomark _)) (pss_one (ps_ret (pe_tup (pa_cons (pv 1) (pa_cons pe_str (pa_cons (pe_tup (pa_cons (pv 2) pa_nil)) (pa_cons (C8.pe_c c__law_args hr (by decide) (by rfl) (pa_cons (pv 0) (pa_cons pe_int pa_nil))) pa_nil))))))) pss_nil)
  (pss_cons (ps_if (pt_cmpR op_eq (pv 3) pe_int (nomark _)) (pss_one (ps_ret (pe_tup (pa_cons pe_non (pa_cons pe_str (pa_cons (pe_tup (pa_cons (pv 2) pa_nil)) (pa_cons (C8.pe_c c__law_args hr (by decide) (by rfl) (pa_cons (pv 0) (pa_cons pe_int pa_nil))) pa_nil))))))) pss_nil)
  (pss_cons (ps_if (pt_cmpR op_eq (pv 3) pe_int (nomark _)) (pss_one (ps_ret (pe_tup (pa_cons pe_non (pa_cons pe_str (pa_cons (pe_tup (pa_cons (pv 2) pa_nil)) (pa_cons (C8.pe_c c__law_args hr (by decide) (by rfl) (pa_cons (pv 0) (pa_cons pe_int pa_nil))) pa_nil))))))) pss_nil)
  (pss_cons (ps_if (pt_cmpR op_eq (pv 3) pe_int (nomark _)) (pss_one (ps_ret (pe_tup (pa_cons (pv 1) (pa_cons pe_str (pa_cons (pe_tup (pa_cons (pv 2) pa_nil)) (pa_cons (pe_tup pa_nil) pa_nil))))))) pss_nil)
  (pss_one (ps_ret (pe_tup (pa_cons (C8.pe_c c__law_of hr (by decide) (by rfl) (pa_cons (pv 0) (pa_cons (pe_lst (pa_cons pe_non (pa_cons (pv 1) pa_nil))) pa_nil))) (pa_cons pe_str (pa_cons (pe_tup (pa_cons (pe_ix ix_list (C8.pe_c c__law_names hr (by decide) (by rfl) (pa_cons (pv 0) (pa_cons pe_int (pa_cons (pe_lst pa_nil) pa_nil)))) pe_int (fun _ _ => rfl)) pa_nil)) (pa_cons (C8.pe_c c__law_args hr (by decide) (by rfl) (pa_cons (pv 0) (pa_cons (C8.pe_c c__law_any hr (by decide) (by rfl) (pa_cons (pv 0) (pa_cons pe_int pa_nil))) pa_nil))) pa_nil)))))))))))))))))), ?_⟩
  refine (dds_par3 (P1 := Num64) (P2 := WdP) (P3 := IntLt 13) (dd_dr fun _ => ev_var rfl) (dd_dr fun _ => ev_var rfl) (dd_anyC (bnd := 13) (fun _ => ev_var rfl) (by decide) (by decide)) fun v1 v2 v3 x1 x2 x3 H2 k2 e1 e2 e3 ⟨x, p1, hx⟩ ⟨wd, p2, hw⟩ ⟨n, p3, hn⟩ => ?_) _ H (KD.refl d cs H) hd q
  subst p1 p2 p3
  obtain rfl := e1.intE
  obtain rfl := e2.intE
  obtain rfl := e3.intE
  have mk : ∀ H', Dt H' (.int (x : Int)) (nt x) := fun _ => .int _
  have made : ∀ H', Dd d cs (tVar 1) [some (.ref d), some (.int (x : Int)), some (.int (wd : Int)), some (.int (n : Int)), none] H' (fun y => y = nt x) := fun H' => dd_var rfl (.int _) rfl
  have wid : ∀ H', Dd d cs (tVar 2) [some (.ref d), some (.int (x : Int)), some (.int (wd : Int)), some (.int (n : Int)), none] H' (fun y => y = nt wd) := fun H' => dd_var rfl (.int _) rfl
  have kd : ∀ (a : Tx) (y : Str), y = SX.S a → ∀ σ H', Dd d cs (tC (.str y)) σ H' (fun z => z = tx a) := fun a y e σ H' => dd_s (a := a) e rfl
  have ar : ∀ (k : Nat), k ≤ 3 → ∀ {E : XK} H', Dd d cs (tCall spArgsD [] E (tCons (tVar 0) (tCons (tC (.int (k : Int))) tNil))) [some (.ref d), some (.int (x : Int)), some (.int (wd : Int)), some (.int (n : Int)), none] H' (ArgP (· = k)) := fun k hk E H' => dd_args (fun _ => ev_var rfl) (fun _ => ev_c) (by omega)
  refine dds_if fun H3 k3 h3 => ⟨_, et_ltI (ev_var rfl) ev_c, fun _ => ?_, fun _ => dds_if fun H3 k3 h3 => ⟨_, et_eqI (ev_var rfl) ev_c, fun _ => ?_, fun _ => dds_if fun H3 k3 h3 => ⟨_, et_eqI (ev_var rfl) ev_c, fun _ => ?_, fun _ => dds_if fun H3 k3 h3 => ⟨_, et_eqI (ev_var rfl) ev_c, fun _ => ?_, fun _ => dds_if fun H3 k3 h3 => ⟨_, et_eqI (ev_var rfl) ev_c, fun _ => ?_, fun _ => dds_if fun H3 k3 h3 => ⟨_, et_eqI (ev_var rfl) ev_c, fun _ => ?_, fun _ =>
    dds_if fun H3 k3 h3 => ⟨_, et_eqI (ev_var rfl) ev_c, fun _ => ?_, fun _ => dds_if fun H3 k3 h3 => ⟨_, et_eqI (ev_var rfl) ev_c, fun _ => ?_, fun _ => dds_if fun H3 k3 h3 => ⟨_, et_eqI (ev_var rfl) ev_c, fun _ => ?_, fun _ => dds_if fun H3 k3 h3 => ⟨_, et_eqI (ev_var rfl) ev_c, fun _ => ?_, fun _ => ?_⟩⟩⟩⟩⟩⟩⟩⟩⟩⟩
  · refine dds_lst (R := AllP (InL opsL) 13) (dda1 (dd_in (a := opsL[0]) (by decide +kernel)) (dda1 (dd_in (a := opsL[1]) (by decide +kernel)) (dda1 (dd_in (a := opsL[2]) (by decide +kernel)) (dda1 (dd_in (a := opsL[3]) (by decide +kernel)) (dda1 (dd_in (a := opsL[4]) (by decide +kernel)) (dda1 (dd_in (a := opsL[5]) (by decide +kernel)) (dda1 (dd_in (a := opsL[6]) (by decide +kernel)) (dda1 (dd_in (a := opsL[7]) (by decide +kernel)) (dda1 (dd_in (a := opsL[8]) (by decide +kernel)) (dda1 (dd_in (a := opsL[9]) (by decide +kernel)) (dda1 (dd_in (a := opsL[10]) (by decide +kernel)) (dda1 (dd_in (a := opsL[11]) (by decide +kernel)) (dda1 (dd_in (a := opsL[12]) (by decide +kernel)) dda0))))))))))))) (fun xs h => by rw [h.1]; decide) fun L vs xs H4 k4 n1 n2 hL hds hP => ?_
    refine dds_ret (dd_tup4 (P1 := fun y => y = nt x) (P2 := fun z => z = tx kBin) (P3 := fun z => ∃ a, z = .tuple [tx a, nt wd] ∧ a ∈ opsL) (P4 := ArgP (· = 2)) (dd_var rfl (.int _) rfl) (kd kBin _ lit _ _) (dd_tup2 (P1 := InL opsL) (P2 := fun y => y = nt wd) (dd_ofV (fun _ => ev_var rfl) (fun _ => ev_var rfl) n1 n2 hL hds hP (by decide)) (dd_var rfl (.int _) rfl) fun y1 y2 ⟨a, e, ha⟩ e2 => ⟨a, by rw [e, e2], ha⟩) (dd_args (n := 2) (fun _ => ev_var rfl) (fun _ => ev_c) (by decide)) fun y1 y2 y3 y4 q1 q2 ⟨a, q3, ha⟩ ⟨l, q4, hl, ho⟩ => ?_)
    obtain ⟨o1, o2, rfl⟩ := two_of hl
    exact ⟨.bin x a wd o1 o2, by rw [q1, q2, q3, q4]; rfl, hx, ha, hw, ho o1 (by simp), ho o2 (by simp)⟩
  · refine dds_ret (dd_tup4 (P3 := fun z => ∃ a, z = .tuple [tx a, nt wd] ∧ a ∈ predL) (made _) (kd kCmp _ lit _ _) (dd_tup2 (P1 := InL predL) (dd_ofA (n := 6) (fun _ => ev_var rfl) (dda1 (dd_in (a := predL[0]) (by decide +kernel)) (dda1 (dd_in (a := predL[1]) (by decide +kernel)) (dda1 (dd_in (a := predL[2]) (by decide +kernel)) (dda1 (dd_in (a := predL[3]) (by decide +kernel)) (dda1 (dd_in (a := predL[4]) (by decide +kernel)) (dda1 (dd_in (a := predL[5]) (by decide +kernel)) dda0)))))) (by decide)) (wid _) fun y1 y2 ⟨a, e, ha⟩ e2 => ⟨a, by rw [e, e2], ha⟩) (ar 2 (by decide) _) fun y1 y2 y3 y4 q1 q2 ⟨a, q3, ha⟩ ⟨l, q4, hl, ho⟩ => ?_)
    obtain ⟨o1, o2, rfl⟩ := two_of hl
    exact ⟨.cmp x a wd o1 o2, by rw [q1, q2, q3, q4]; rfl, hx, ha, hw, ho o1 (by simp), ho o2 (by simp)⟩
  · refine dds_ret (dd_tup4 (P3 := fun z => ∃ t : Ty, z = .tuple [t.py] ∧ TyOk t) (made _) (kd kSel _ lit _ _) (dd_tup1 (P1 := TyP) (dd_dr fun _ => ev_var rfl) fun y1 ⟨t, e, ht⟩ => ⟨t, by rw [e], ht⟩) (ar 3 (by decide) _) fun y1 y2 y3 y4 q1 q2 ⟨t, q3, ht⟩ ⟨l, q4, hl, ho⟩ => ?_)
    obtain ⟨o1, o2, o3, rfl⟩ := three_of hl
    exact ⟨.sel x t o1 o2 o3, by rw [q1, q2, q3, q4]; rfl, hx, ht, ho o1 (by simp), ho o2 (by simp), ho o3 (by simp)⟩
  · refine dds_ret (dd_tup4 (P3 := fun z => ∃ a v, z = .tuple [tx a, nt wd, nt v] ∧ a ∈ castL ∧ WdOk v) (made _) (kd kCast _ lit _ _) (dd_tup3 (P1 := InL castL) (P3 := WdP) (dd_ofA (n := 3) (fun _ => ev_var rfl) (dda1 (dd_in (a := castL[0]) (by decide +kernel)) (dda1 (dd_in (a := castL[1]) (by decide +kernel)) (dda1 (dd_in (a := castL[2]) (by decide +kernel)) dda0))) (by decide)) (wid _) (dd_dr fun _ => ev_var rfl) fun y1 y2 y3 ⟨a, e, ha⟩ e2 ⟨v, e3, hv⟩ => ⟨a, v, by rw [e, e2, e3], ha, hv⟩) (ar 1 (by decide) _) fun y1 y2 y3 y4 q1 q2 ⟨a, v, q3, ha, hv⟩ ⟨l, q4, hl, ho⟩ => ?_)
    obtain ⟨o1, rfl⟩ := one_of1 hl
    exact ⟨.cast x a wd v o1, by rw [q1, q2, q3, q4]; rfl, hx, ha, hw, hv, ho o1 (by simp)⟩
  · refine dds_ret (dd_tup4 (P3 := fun z => ∃ n, z = .tuple [nt wd, nt n] ∧ n < 2 ^ 64) (P4 := fun z => z = .tuple []) (made _) (kd kAlloca _ lit _ _) (dd_tup2 (P2 := Num64) (wid _) (dd_dr fun _ => ev_var rfl) fun y1 y2 e ⟨n, e2, hn⟩ => ⟨n, by rw [e, e2], hn⟩) (dd_tup0 rfl) fun y1 y2 y3 y4 q1 q2 ⟨n, q3, hn⟩ q4 => ?_)
    exact ⟨.alloca x wd n, by rw [q1, q2, q3, q4]; rfl, hx, hw, hn⟩
  · refine dds_ret (dd_tup4 (P2 := fun z => z = tx kAt) (P3 := fun z => z = .tuple [nt wd]) (made _) (dd_ofA (n := 2) (fun _ => ev_var rfl) (dda1 (dd_s (a := kAt) lit rfl) (dda1 (dd_s (a := kAt) lit rfl) dda0)) (by decide)) (dd_tup1 (wid _) fun y1 e => by rw [e]) (ar 2 (by decide) _) fun y1 y2 y3 y4 q1 q2 q3 ⟨l, q4, hl, ho⟩ => ?_)
    exact ⟨.mem (some x) kAt wd l, by rw [q1, q2, q3, q4]; rfl, hx, (by show (kAt, true, l.length) ∈ memL; rw [hl]; decide), hw, ho⟩
  · refine dds_ret (dd_tup4 (P3 := fun z => z = .tuple [nt wd]) (made _) (kd kLoad _ lit _ _) (dd_tup1 (wid _) fun y1 e => by rw [e]) (ar 1 (by decide) _) fun y1 y2 y3 y4 q1 q2 q3 ⟨l, q4, hl, ho⟩ => ?_)
    exact ⟨.mem (some x) kLoad wd l, by rw [q1, q2, q3, q4]; rfl, hx, (by show (kLoad, true, l.length) ∈ memL; rw [hl]; decide), hw, ho⟩
  · refine dds_ret (dd_tup4 (P1 := fun z => z = .none) (P3 := fun z => z = .tuple [nt wd]) (dd_non rfl) (kd kStore _ lit _ _) (dd_tup1 (wid _) fun y1 e => by rw [e]) (ar 2 (by decide) _) fun y1 y2 y3 y4 q1 q2 q3 ⟨l, q4, hl, ho⟩ => ?_)
    exact ⟨.mem none kStore wd l, by rw [q1, q2, q3, q4]; rfl, trivial, (by show (kStore, false, l.length) ∈ memL; rw [hl]; decide), hw, ho⟩
  · refine dds_ret (dd_tup4 (P1 := fun z => z = .none) (P3 := fun z => z = .tuple [nt wd]) (dd_non rfl) (kd kPrint _ lit _ _) (dd_tup1 (wid _) fun y1 e => by rw [e]) (ar 1 (by decide) _) fun y1 y2 y3 y4 q1 q2 q3 ⟨l, q4, hl, ho⟩ => ?_)
    exact ⟨.mem none kPrint wd l, by rw [q1, q2, q3, q4]; rfl, trivial, (by show (kPrint, false, l.length) ∈ memL; rw [hl]; decide), hw, ho⟩
  · refine dds_ret (dd_tup4 (P3 := fun z => z = .tuple [nt wd]) (P4 := fun z => z = .tuple []) (made _) (kd kInput _ lit _ _) (dd_tup1 (wid _) fun y1 e => by rw [e]) (dd_tup0 rfl) fun y1 y2 y3 y4 q1 q2 q3 q4 => ?_)
    exact ⟨.mem (some x) kInput wd [], by rw [q1, q2, q3, q4]; rfl, hx, (by show (kInput, true, 0) ∈ memL; decide), hw, fun o h => by cases h⟩
  · refine dds_ret (dd_tup4 (P1 := fun z => ∃ mo, z = optPy mo ∧ OptOk mo) (P3 := fun z => ∃ a, z = .tuple [tx a] ∧ NameOk a) (dd_ofA (n := 2) (fun _ => ev_var rfl) (dda1 (dd_non ⟨none, rfl, trivial⟩) (dda1 (dd_var rfl (.int _) ⟨some x, rfl, hx⟩) dda0)) (by decide)) (kd kCall _ lit _ _) (dd_tup1 (P1 := NmP) (dd_name0 fun _ => ev_var rfl) fun y1 ⟨a, e, ha⟩ => ⟨a, by rw [e], ha⟩) (dd_argsAny (b := 4) (fun _ => ev_var rfl) (fun _ => ev_var rfl) (by decide) (by decide)) fun y1 y2 y3 y4 ⟨mo, q1, hm⟩ q2 ⟨a, q3, ha⟩ ⟨l, q4, hl, ho⟩ => ?_)
    exact ⟨.call mo a l, by rw [q1, q2, q3, q4]; rfl, hm, ha, Nat.le_of_lt_succ hl, ho⟩
theorem ok__law_ending (T : Txt w K mg) (c__law_any : C8.Cal P w K mg base 1 "_law_any" spAny []) (c__law_operand : C8.Cal P w K mg base 4 "_law_operand" (spDr OpdP) []) (c__law_target : C8.Cal P w K mg base 6 "_law_target" (spDr TgtP) []) : C8.Cal P w K mg base 7 "_law_ending" (spDr EndP) [] := by
  refine T.cal m_def__law_ending m_glo__law_ending sc__law_ending bi__law_ending len1 (fun cdv A outer s H vs Q E hr h => ?_)
  obtain ⟨v, rfl, d, cs, rfl, hd, q⟩ := h
  refine ⟨_, (pss_cons (ps_set (i := 1) sc__law_ending.nd rfl (Or.inl rfl) (C8.pe_c c__law_any hr (by decide) (by rfl) (pa_cons (pv 0) (pa_cons pe_int pa_nil))))
  (pss_cons (ps_if (pt_cmpR op_eq (pv 1) pe_int (nomark _)) (pss_one (ps_ret (pe_tup (pa_cons pe_str pa_nil)))) pss_nil)
  (pss_cons (ps_if (pt_cmpR op_eq (pv 1) pe_int (nomark _)) (pss_one (ps_ret (pe_tup (pa_cons pe_str (pa_cons (C8.pe_c c__law_target hr (by decide) (by rfl) (pa_cons (pv 0) pa_nil)) pa_nil))))) pss_nil)
  (pss_cons (ps_if (pt_cmpR op_eq (pv 1) pe_int (nomark _)) (pss_one (ps_ret (pe_tup (pa_cons pe_str (pa_cons (C8.pe_c c__law_operand hr (by decide) (by rfl) (pa_cons (pv 0) pa_nil)) (pa_cons (C8.pe_c c__law_target hr (by decide) (by rfl) (pa_cons (pv 0) pa_nil)) (pa_cons (C8.pe_c c__law_target hr (by decide) (by rfl) (pa_cons (pv 0) pa_nil)) pa_nil))))))) pss_nil)
  (pss_one (ps_ret (pe_tup (pa_cons pe_str (pa_cons (pe_ifExp (pt_cmpR op_eq (pv 1) pe_int (nomark _)) pe_non (C8.pe_c c__law_operand hr (by decide) (by rfl) (pa_cons (pv 0) pa_nil))) pa_nil))))))))), ?_⟩
  refine (dds_asg (P1 := IntLt 5) (dd_anyC (bnd := 5) (fun _ => ev_var rfl) (by decide) (by decide)) fun v1 H1 x1 k1 hd1 ⟨n, ex, hn⟩ => ?_) _ H (KD.refl d cs H) hd q
  subst ex
  obtain rfl := hd1.intE
  refine dds_if fun H3 k3 h3 => ⟨_, et_eqI (ev_var rfl) ev_c, fun _ => ?_, fun _ => dds_if fun H3 k3 h3 => ⟨_, et_eqI (ev_var rfl) ev_c, fun _ => ?_, fun _ => dds_if fun H3 k3 h3 => ⟨_, et_eqI (ev_var rfl) ev_c, fun _ => ?_, fun _ => ?_⟩⟩⟩
  · exact dds_ret (dd_tup1 (P1 := fun z => z = tx kStop) (dd_s (a := kStop) lit rfl) fun y1 e => ⟨.stop, by rw [e]; rfl, trivial⟩)
  · exact dds_ret (dd_tup2 (P1 := fun z => z = tx kJump) (P2 := TgtP) (dd_s (a := kJump) lit rfl) (dd_dr fun _ => ev_var rfl) fun y1 y2 e ⟨t, e2, ht⟩ => ⟨.jump t, by rw [e, e2]; rfl, ht⟩)
  · exact dds_ret (dd_tup4 (P1 := fun z => z = tx kBranch) (P2 := OpdP) (P3 := TgtP) (P4 := TgtP) (dd_s (a := kBranch) lit rfl) (dd_dr fun _ => ev_var rfl) (dd_dr fun _ => ev_var rfl) (dd_dr fun _ => ev_var rfl) fun y1 y2 y3 y4 e ⟨o, e2, ho⟩ ⟨t, e3, ht⟩ ⟨t', e4, ht'⟩ => ⟨.branch o t t', by rw [e, e2, e3, e4]; rfl, ho, ht, ht'⟩)
  · exact dds_ret (dd_tup2 (P1 := fun z => z = tx kRet) (P2 := fun z => z = .none ∨ OpdP z) (dd_s (a := kRet) lit rfl) (dd_if fun H4 k4 h4 => ⟨_, et_eqI (ev_var rfl) ev_c, fun _ => dd_non (.inl rfl), fun _ => (dd_dr (P := OpdP) fun _ => ev_var rfl).imp fun x h => .inr h⟩) fun y1 y2 e h => by
      rcases h with e2 | ⟨o, e2, ho⟩
      · exact ⟨.ret none, by rw [e, e2]; rfl, trivial⟩
      · exact ⟨.ret (some o), by rw [e, e2]; rfl, ho⟩)
end
end K6
/-! K6X6: the law's draws: functions. -/
namespace K6
open PySem PySem.Spec PyProof.Rows L2 Evl
theorem pars_of : ∀ {xs : List PyData}, (∀ x ∈ xs, ∃ p : Nat × Ty, x = parPy p ∧ NumOk p.1 ∧ TyOk p.2) → ∃ l : List (Nat × Ty), xs = l.map parPy ∧ ∀ p ∈ l, NumOk p.1 ∧ TyOk p.2
  | [], _ => ⟨[], rfl, fun o h => by cases h⟩
  | x :: xs, h => by
    obtain ⟨o, rfl, ho⟩ := h x List.mem_cons_self
    obtain ⟨l, rfl, hl⟩ := pars_of fun y hy => h y (List.mem_cons_of_mem _ hy)
    exact ⟨o :: l, rfl, fun p hp => by
      rcases List.mem_cons.mp hp with rfl | hp
      · exact ho
      · exact hl p hp⟩
/-- data of which each is such: the list of them -/
theorem data_of {α : Type} {py : α → PyData} {ok : α → Prop} : ∀ {xs : List PyData}, (∀ x ∈ xs, ∃ a : α, x = py a ∧ ok a) → ∃ l : List α, xs = l.map py ∧ ∀ a ∈ l, ok a
  | [], _ => ⟨[], rfl, fun o h => by cases h⟩
  | x :: xs, h => by
    obtain ⟨o, rfl, ho⟩ := h x List.mem_cons_self
    obtain ⟨l, rfl, hl⟩ := data_of fun y hy => h y (List.mem_cons_of_mem _ hy)
    exact ⟨o :: l, rfl, fun p hp => by
      rcases List.mem_cons.mp hp with rfl | hp
      · exact ho
      · exact hl p hp⟩
def LstP {α : Type} (py : α → PyData) (ok : α → Prop) (N : Nat → Prop) (x : PyData) : Prop := ∃ l : List α, x = .tuple (l.map py) ∧ N l.length ∧ ∀ a ∈ l, ok a
section
variable {K : PySem.W.Frag} {d cs : Addr} {σ : L2.St} {H H0 : Hp} {ta te : TE} {tr : TA} {P : PyData → Prop} {E : XK}
/-- tuple([e for _ in range(_law_any(deal, b))]) -/
theorem dd_tupR {α : Type} {py : α → PyData} {ok : α → Prop} {j b : Nat} {vs : List Nat} (ha : ∀ H, Ev ta σ H (.ref d)) (h0 : 0 < b) (hb : b ≤ 1000) (hw : ∀ x, wipe ((wipe σ vs).set j (some x)) vs = wipe σ vs) (he : ∀ y, Dd d cs te ((wipe σ vs).set j (some y)) H0 fun x => ∃ a : α, x = py a ∧ ok a) :
    Dd d cs (tCB (fun xs H Q => ∃ p ys, xs = [V.ref p] ∧ ((SqL K H p ys ∧ ∀ l, H l = none → Q (.ref l) (upd H l (.tup ys))) ∨ (SqT K H p ys ∧ Q (.ref p) H))) (tCons (tLc (iRng1 (tCons (tCall spAny [] E (tCons ta (tCons (tC (.int ((b : Nat) : Int))) tNil))) tNil)) (gName j) tYes te vs) tNil)) σ H0 (LstP py ok (· < b)) :=
  dd_tupleL (dl_lcR (N := (· < b)) (fun n h => by omega) (dda_cons (dd_anyC (bnd := b) ha h0 (by omega)) (dda_nil (R := fun ds => ds = []) rfl) fun x xs ⟨n, e, hn⟩ e2 => ⟨n, by rw [e, e2], hn⟩) hw he) fun xs ⟨n, hn, hl, hP⟩ => by
    obtain ⟨l, rfl, ho⟩ := data_of hP
    rw [List.length_map] at hl
    exact ⟨l, rfl, by rw [hl]; exact hn, ho⟩
/-- L.append(what is drawn) -/
theorem s_appX {L : Addr} {es : List V} {D : Ends} (hL : H L = some (.lst es)) (nL : L ≠ d ∧ L ≠ cs) (hz : es.length ≤ 1000) (ha : Ev ta σ H (.ref L)) (hd : Deal H d cs) (h : Dd d cs te σ H P)
    (k : ∀ v H2 x, KD d cs H H2 → Deal H2 d cs → H2 L = some (.lst es) → Dt H2 v x → P x → D.nx σ (upd H2 L (.lst (es ++ [v])))) : tDrop (tBM K "list" rAppend ta (tCons te tNil)) D σ H :=
  ha H (Ex.refl H) _ fun H1 e1 => ⟨Or.inl ⟨rfl, es, sq_of (e1 L _ hL)⟩, h H1 (KD.ex e1) (hd.ex e1) _ fun v H2 x k2 h2 hdv p => by
    have hL2 := k2.other L _ nL.1 nL.2 (e1 _ _ hL)
    exact ⟨L, es, v, rfl, rfl, hL2, sz_lt (by omega), k v H2 x ((KD.ex e1).trans k2) h2 hL2 hdv p⟩⟩
end
section
variable {d cs : Addr} {σ : L2.St} {H : Hp} {te : TE} {tu tz : TS} {D : Ends}
/-- for _ in range(what is drawn) -/
theorem q_forRD {j : Nat} {N : Nat → Prop} (hN : ∀ n, N n → n ≤ 1000) (hd : Deal H d cs) (h : Dd d cs te σ H fun x => ∃ n : Nat, x = nt n ∧ N n) (Pv : Nat → L2.St → Hp → Prop) (h0 : ∀ H1, KD d cs H H1 → Deal H1 d cs → Pv 0 σ H1)
    (hs : ∀ n i σ' H', N n → i < n → Pv i σ' H' → tu { D with nx := Pv (i + 1), ct := Pv (i + 1), bk := tz D } (σ'.set j (some (.int (i : Int)))) H') (hz : ∀ n σ' H', N n → Pv n σ' H' → tz D σ' H') : tSeq (tFor (iRng1 (tCons te tNil)) (gName j) tu) tz D σ H := by
  refine h H (KD.refl d cs H) hd _ fun v H2 x k2 h2 hdv ⟨n, ex, hn⟩ => ?_
  subst ex
  obtain rfl := hdv.intE
  have h1 := hN n hn
  exact ⟨(n : Int), rfl, by omega, by omega, for_range (lo := 0) (n := (n : Int).toNat) Pv (h0 H2 k2 h2) (fun i σ' H' hi p => by
    have e0 : (0 : Int) + (i : Int) = (i : Int) := Int.zero_add _
    have := hs n i σ' H' hn (by omega) p
    rw [← e0] at this
    exact this) fun σ' H' p => hz n σ' H' hn (by rw [Int.toNat_natCast] at p; exact p)⟩
theorem q_asgD {i : Nat} {P : PyData → Prop} (hd : Deal H d cs) (h : Dd d cs te σ H P) (k : ∀ v H2 x, KD d cs H H2 → Deal H2 d cs → Dt H2 v x → P x → tz D (σ.set i (some v)) H2) : tSeq (tAsg te (gName i)) tz D σ H := by
  have g := h H (KD.refl d cs H) hd (fun v H2 => tz D (σ.set i (some v)) H2) k
  exact g
end
def BlkP (x : PyData) : Prop := ∃ b : Blk, x = b.py ∧ BlkOk' b
section
variable {P : Program} {w : World} {K : PySem.W.Frag} {mg : Str → Option Value} {base : Heap}
def spFnD : Sp := Pr2 fun v m H Q => ∃ d cs nm, v = .ref d ∧ m = vS nm ∧ NameOk nm ∧ Deal H d cs ∧ ∀ y H2 x, KD d cs H H2 → Deal H2 d cs → Dt H2 y x → (∃ f : Fn, x = f.py ∧ FnOk' f ∧ f.name = nm) → Q y H2
theorem ok__law_function (T : Txt w K mg) (c__law_any : C8.Cal P w K mg base 1 "_law_any" spAny []) (c__law_of : C8.Cal P w K mg base 2 "_law_of" spOf []) (c__law_small : C8.Cal P w K mg base 3 "_law_small" (spDr Num64) [])
    (c__law_type : C8.Cal P w K mg base 3 "_law_type" (spDr TyP) []) (c__law_op : C8.Cal P w K mg base 6 "_law_op" (spDr OpP) []) (c__law_ending : C8.Cal P w K mg base 7 "_law_ending" (spDr EndP) []) : C8.Cal P w K mg base 8 "_law_function" spFnD [] := by
  refine T.cal m_def__law_function m_glo__law_function sc__law_function bi__law_function len2 (fun cdv A outer s H vs Q E hr h => ?_)
  obtain ⟨v, v2, rfl, d, cs, nm, rfl, rfl, hnm, hd, q⟩ := h
  refine ⟨_, (pss_cons (ps_set (i := 2) sc__law_function.nd rfl (Or.inl rfl) (pe_lst pa_nil))
  (pss_cons (ps_for PassesOwn.never rfl (pi_range1 rfl (T.free m_free_range) (pa_cons (pe_op op_add pe_int (C8.pe_c c__law_any hr (by decide) (by rfl) (pa_cons (pv 0) (pa_cons pe_int pa_nil)))) pa_nil)) (pg_name (i := 3) sc__law_function.nd rfl (Or.inl rfl)) (pss_cons (ps_set (i := 4) sc__law_function.nd rfl (Or.inl rfl) (pe_callTy call_tuple_of (by rfl) (T.free m_free_tuple) (by decide +kernel) (pa_cons (pe_lc (own := [("_law_one", 5)]) (g := gName 5) rfl sc__law_function.nd (pi_range1 rfl (T.free m_free_range) (pa_cons (C8.pe_c c__law_any hr (by decide) (by rfl) (pa_cons (pv 0) (pa_cons pe_int pa_nil))) pa_nil)) (blkOk_by (N := n__law_function) (sc := defScope s__law_function) (by decide +kernel)) (fun _ _ _ _ _ => (pg_name (i := 5) sc__law_function.nd rfl (Or.inl rfl))) (fun _ _ _ _ _ => pts_nil) (fun _ _ _ _ _ => (pe_tup (pa_cons (C8.pe_c c__law_small hr (by decide) (by rfl) (pa_cons (pv 0) pa_nil)) (pa_cons (C8.pe_c c__law_type hr (by decide) (by rfl) (pa_cons (pv 0) pa_nil)) pa_nil))))) pa_nil)))
  (pss_cons (ps_set (i := 6) sc__law_function.nd rfl (Or.inl rfl) (pe_callTy call_tuple_of (by rfl) (T.free m_free_tuple) (by decide +kernel) (pa_cons (pe_lc (own := [("_law_one", 5)]) (g := gName 5) rfl sc__law_function.nd (pi_range1 rfl (T.free m_free_range) (pa_cons (C8.pe_c c__law_any hr (by decide) (by rfl) (pa_cons (pv 0) (pa_cons pe_int pa_nil))) pa_nil)) (blkOk_by (N := n__law_function) (sc := defScope s__law_function) (by decide +kernel)) (fun _ _ _ _ _ => (pg_name (i := 5) sc__law_function.nd rfl (Or.inl rfl))) (fun _ _ _ _ _ => pts_nil) (fun _ _ _ _ _ => (C8.pe_c c__law_op hr (by decide) (by rfl) (pa_cons (pv 0) pa_nil)))) pa_nil)))
  (pss_one (ps_expr (pe_bm PySem.F.plainAttrs_list PySem.F.slot_list_append PySem.F.type_list_append mt_append (pv 2) (pa_cons (pe_tup (pa_cons (C8.pe_c c__law_small hr (by decide) (by rfl) (pa_cons (pv 0) pa_nil)) (pa_cons (pv 4) (pa_cons (pv 6) (pa_cons (C8.pe_c c__law_ending hr (by decide) (by rfl) (pa_cons (pv 0) pa_nil)) pa_nil))))) pa_nil)))))))
  (pss_cons (ps_set (i := 4) sc__law_function.nd rfl (Or.inl rfl) (pe_callTy call_tuple_of (by rfl) (T.free m_free_tuple) (by decide +kernel) (pa_cons (pe_lc (own := [("_law_turn", 3)]) (g := gName 3) rfl sc__law_function.nd (pi_range1 rfl (T.free m_free_range) (pa_cons (C8.pe_c c__law_any hr (by decide) (by rfl) (pa_cons (pv 0) (pa_cons pe_int pa_nil))) pa_nil)) (blkOk_by (N := n__law_function) (sc := defScope s__law_function) (by decide +kernel)) (fun _ _ _ _ _ => (pg_name (i := 3) sc__law_function.nd rfl (Or.inl rfl))) (fun _ _ _ _ _ => pts_nil) (fun _ _ _ _ _ => (C8.pe_c c__law_type hr (by decide) (by rfl) (pa_cons (pv 0) pa_nil)))) pa_nil)))
  (pss_one (ps_ret (pe_tup (pa_cons (pv 1) (pa_cons (pv 4) (pa_cons (C8.pe_c c__law_of hr (by decide) (by rfl) (pa_cons (pv 0) (pa_cons (pe_lst (pa_cons pe_non (pa_cons pe_int (pa_cons pe_int (pa_cons pe_int (pa_cons pe_int pa_nil)))))) pa_nil))) (pa_cons (pe_callTy call_tuple_of (by rfl) (T.free m_free_tuple) (by decide +kernel) (pa_cons (pv 2) pa_nil)) pa_nil)))))))))), ?_⟩
  refine q_asgL (el_lst ea_nil (Nat.zero_le _)) fun L H1 hL0 e1 hL1 => ?_
  have nL := hd.ne hL0
  refine q_forRD (d := d) (cs := cs) (N := fun n => 1 ≤ n ∧ n ≤ 3) (fun n h => by omega) (hd.ex e1) (fun H2 k2 h2 Q2 q2 => dd_anyC (d := d) (cs := cs) (bnd := 3) (fun _ => ev_var rfl) (by decide) (by decide) H2 k2 h2 _ fun y H3 x k3 h3 hdy ⟨n, ex, hn⟩ => ?_)
    (fun i σ' H' => ∃ es bl y3 y4 y5 y6, KD d cs H H' ∧ Deal H' d cs ∧ H' L = some (.lst es) ∧ DtA H' es (bl.map Blk.py) ∧ (∀ b ∈ bl, BlkOk' b) ∧ bl.length = i ∧ σ' = [some (.ref d), some (vS nm), some (.ref L), y3, y4, y5, y6])
    (fun H2 k2 h2 => ⟨[], [], none, none, none, none, (KD.ex e1).trans k2, h2, k2.other L _ nL.1 nL.2 hL1, .nil, (fun b h => by cases h), rfl, rfl⟩) (fun n i σ' H' hn hi ⟨es, bl, y3, y4, y5, y6, k, hdl, hL, hes, hb, hl, eσ⟩ => ?_) fun n σ' H' hn ⟨es, bl, y3, y4, y5, y6, k, hdl, hL, hes, hb, hl, eσ⟩ => ?_
  · subst ex
    obtain rfl := hdy.intE
    exact ⟨1, (n : Int), rfl, rfl, q2 _ H3 (.int (1 + (n : Int))) k3 h3 (.int _) ⟨1 + n, congrArg PyData.int (by omega), by omega, by omega⟩⟩
  · subst eσ
    have hel := hes.length
    rw [List.length_map] at hel
    refine q_asgD hdl (dd_tupR (py := parPy) (ok := fun p => NumOk p.1 ∧ TyOk p.2) (b := 3) (ta := tVar 0) (fun _ => ev_var rfl) (by decide) (by decide) (fun _ => rfl) (fun y => dd_tup2 (P1 := Num64) (P2 := TyP) (dd_dr (ta := tVar 0) fun _ => ev_var rfl) (dd_dr (ta := tVar 0) fun _ => ev_var rfl) fun y1 y2 ⟨n, e, hn⟩ ⟨t, e2, ht⟩ => ⟨(n, t), by rw [e, e2]; rfl, hn, ht⟩)) fun vp H3 xp k3 h3 hdp ⟨pars, ep, hpl, hpo⟩ => ?_
    refine q_asgD h3 (dd_tupR (py := Op.py) (ok := OpOk) (b := 5) (ta := tVar 0) (fun _ => ev_var rfl) (by decide) (by decide) (fun _ => rfl) (fun y => dd_dr (ta := tVar 0) (P := OpP) fun _ => ev_var rfl)) fun vo H4 xo k4 h4 hdo ⟨ops, eo, hol, hoo⟩ => ?_
    have k34 := k3.trans k4
    refine s_appX (P := BlkP) (k34.other L _ nL.1 nL.2 hL) nL (by omega) (ev_var rfl) h4 (dd_tup4 (P1 := Num64) (P2 := fun z => z = xp) (P3 := fun z => z = xo) (P4 := EndP) (dd_dr fun _ => ev_var rfl) (dd_var rfl (hdp.kt k4.tups) rfl) (dd_var rfl hdo rfl) (dd_dr fun _ => ev_var rfl) fun y1 y2 y3 y4 ⟨n, q1, hn⟩ q2 q3 ⟨en, q4, hen⟩ => ⟨⟨n, pars, ops, en⟩, by rw [q1, q2, q3, q4, ep, eo]; rfl, hn, Nat.le_of_lt_succ hpl, hpo, Nat.le_of_lt_succ hol, hoo, hen⟩) fun v5 H5 x5 k5 h5 hL5 hd5 ⟨b, eb, hbo⟩ => ?_
    subst eb
    have k05 := k.trans (k34.trans k5)
    refine ⟨es ++ [v5], bl ++ [b], _, _, _, _, k05.mutL hL0 hL5, h5.updL nL, upd_same, ?_, fun c hc => ?_, by rw [List.length_append, hl]; rfl, rfl⟩
    · rw [List.map_append]
      exact DtA.app ((hes.kt (k34.trans k5).tups).kt (KT.updL hL5)) (.cons (hd5.kt (KT.updL hL5)) .nil)
    · rcases List.mem_append.mp hc with hc | hc
      · exact hb c hc
      · rw [List.mem_singleton.mp hc]
        exact hbo
  · subst eσ
    refine q_asgD hdl (dd_tupR (py := Ty.py) (ok := TyOk) (b := 3) (ta := tVar 0) (fun _ => ev_var rfl) (by decide) (by decide) (fun _ => rfl) (fun y => dd_dr (ta := tVar 0) (P := TyP) fun _ => ev_var rfl)) fun vp H3 xp k3 h3 hdp ⟨pars, ep, hpl, hpo⟩ => ?_
    refine dds_ret (P := fun x => ∃ f : Fn, x = f.py ∧ FnOk' f ∧ f.name = nm) (dd_tup4 (P1 := fun z => z = tx nm) (P2 := fun z => z = xp) (P3 := fun z => ∃ o, z = optPy o ∧ ResOk o) (P4 := fun z => z = .tuple (bl.map Blk.py)) (dd_var rfl (.str _) rfl) (dd_var rfl hdp rfl) (dd_ofA (n := 5) (fun _ => ev_var rfl) (dda1 (dd_non ⟨none, rfl, trivial⟩) (dda1 (dd_int (i := 1) ⟨some 1, rfl, by show 1 ∈ [1, 8, 16, 32, 64]; decide⟩) (dda1 (dd_int (i := 8) ⟨some 8, rfl, by show 8 ∈ [1, 8, 16, 32, 64]; decide⟩) (dda1 (dd_int (i := 32) ⟨some 32, rfl, by show 32 ∈ [1, 8, 16, 32, 64]; decide⟩) (dda1 (dd_int (i := 64) ⟨some 64, rfl, by show 64 ∈ [1, 8, 16, 32, 64]; decide⟩) dda0))))) (by decide))
      (fun H6 k6 h6 Q6 q6 => ev_tupleL (ev_var rfl) (k6.other L _ nL.1 nL.2 (k3.other L _ nL.1 nL.2 hL)) fun p H7 e7 hp => q6 _ H7 _ (KD.ex e7) (h6.ex e7) (.tup hp (((hes.kt k3.tups).kt k6.tups).kt (KT.ex e7))) rfl)
      fun y1 y2 y3 y4 q1 q2 ⟨o, q3, ho⟩ q4 => ⟨⟨nm, pars, o, bl⟩, by rw [q1, q2, q3, q4, ep]; rfl, ⟨hnm, Nat.le_of_lt_succ hpl, hpo, ho, fun e => ?_, by rw [hl]; exact hn.2, hb⟩, rfl⟩) _ H3 (KD.refl d cs H3) h3 fun v9 H9 x9 k9 h9 hd9 p9 => q v9 H9 x9 (k.trans (k3.trans k9)) h9 hd9 p9
    have e' : bl = [] := e
    rw [e'] at hl
    have := hn.1
    simp at hl
    omega
end
end K6
/-! K6X7: the law's draws: modules; the deal itself. -/
namespace K6
open PySem PySem.Spec PyProof.Rows L2 Evl
section
variable {K : PySem.W.Frag} {d cs : Addr} {σ : L2.St} {H H0 : Hp} {ta tc tl te t1 t2 : TE} {P1 P2 : PyData → Prop} {E E2 : XK} {u : TS} {D : Ends}
theorem names_call {b : Nat} {bs : List Tx} {Q : VK} (ha : ∀ H, Ev ta σ H (.ref d)) (hc : ∀ H, Ev tc σ H (.ref d)) (h0 : 0 < b) (hb : b ≤ 11) (hd : Deal H d cs) (hl : ∀ H1, KD d cs H H1 → EvL tl σ H1 (bs.map vS)) (hbl : bs.length ≤ 100)
    (k : ∀ p H2 ns, H p = none → KD d cs H H2 → Deal H2 d cs → H2 p = some (.lst (ns.map vS)) → Asc ns → (∀ x ∈ ns, NameOk x ∧ x ∉ bs) → ns.length < b → Q (.ref p) H2) :
    tCall spNames [] E (tCons ta (tCons (tCall spAny [] E2 (tCons tc (tCons (tC (.int ((b : Nat) : Int))) tNil))) (tCons tl tNil))) σ H Q := ha H H (Ex.refl H) _ fun H1 e1 =>
  dd_anyC (bnd := b) hc h0 (by omega) H1 (KD.ex e1) (hd.ex e1) _ fun y H2 x k2 h2 hdy ⟨n, ex, hn⟩ => by
    subst ex
    obtain rfl := hdy.intE
    have k02 := (KD.ex e1).trans k2
    refine hl H2 k02 H2 (Ex.refl H2) _ fun B H3 hB e3 hB3 => ?_
    have nB := h2.ne hB
    exact ⟨_, _, _, rfl, d, cs, n, B, bs, rfl, rfl, by omega, rfl, hB3, hbl, nB.1, nB.2, h2.ex e3, fun p H4 ns hp k4 h4 hp4 h5 h6 h7 _ => k p H4 ns (k02.new p (fresh_back e3 hp)) ((k02.trans (KD.ex e3)).trans k4) h4 hp4 h5 h6 (by omega)⟩
theorem q_asgNames {b i : Nat} {bs : List Tx} (ha : ∀ H, Ev ta σ H (.ref d)) (hc : ∀ H, Ev tc σ H (.ref d)) (h0 : 0 < b) (hb : b ≤ 11) (hd : Deal H d cs) (hl : ∀ H1, KD d cs H H1 → EvL tl σ H1 (bs.map vS)) (hbl : bs.length ≤ 100)
    (k : ∀ p H2 ns, H p = none → KD d cs H H2 → Deal H2 d cs → H2 p = some (.lst (ns.map vS)) → Asc ns → (∀ x ∈ ns, NameOk x ∧ x ∉ bs) → ns.length < b → u D (σ.set i (some (.ref p))) H2) :
    tSeq (tAsg (tCall spNames [] E (tCons ta (tCons (tCall spAny [] E2 (tCons tc (tCons (tC (.int ((b : Nat) : Int))) tNil))) (tCons tl tNil)))) (gName i)) u D σ H := by
  have g := names_call (E := E) (E2 := E2) (Q := fun v H2 => u D (σ.set i (some v)) H2) ha hc h0 hb hd hl hbl k
  exact g
theorem q_asgT2 {i j : Nat} (hd : Deal H d cs) (h1 : Dd d cs t1 σ H P1) (h2 : Dd d cs t2 σ H P2) (k : ∀ v1 v2 x1 x2 H2, KD d cs H H2 → Deal H2 d cs → Dt H2 v1 x1 → Dt H2 v2 x2 → P1 x1 → P2 x2 → u D ((σ.set i (some v1)).set j (some v2)) H2) :
    tSeq (tAsg (tTup (tCons t1 (tCons t2 tNil))) (gTup K 2 (gCons (gName i) (gCons (gName j) gNil)))) u D σ H := by
  have g := h1 H (KD.refl d cs H) hd (fun v1 H1 => tCons t2 tNil σ H1 fun vs H2 => (v1 :: vs).length ≤ sizeLine ∧ ∀ p, H2 p = none → gTup K 2 (gCons (gName i) (gCons (gName j) gNil)) (.ref p) σ (L2.upd H2 p (.tup (v1 :: vs))) (u D)) fun v1 H1 x1 k1 hd1 e1 p1 =>
    h2 H1 k1 hd1 _ fun v2 H2 x2 k2 hd2 e2 p2 => ⟨sz_of (by show 2 ≤ 100000; omega), fun p hp => ⟨p, [v1, v2], rfl, SqT.of upd_same, rfl, _, _, rfl, _, _, rfl, rfl, by
      have ex : Ex H2 (L2.upd H2 p (.tup [v1, v2])) := Ex.new hp
      exact k v1 v2 x1 x2 _ ((k1.trans k2).trans (KD.ex ex)) (hd2.ex ex) ((e1.kt k2.tups).kt (KT.ex ex)) (e2.kt (KT.ex ex)) p1 p2⟩⟩
  exact g
theorem dl_lcNames {j : Nat} {vs : List Nat} {p : Addr} {ns : List Tx} (hp : H0 p = some (.lst (ns.map vS))) (np : p ≠ d ∧ p ≠ cs) (hz : ns.length ≤ 1000) (hl : ∀ H, Ev tl σ H (.ref p)) (hw : ∀ x, wipe ((wipe σ vs).set j (some x)) vs = wipe σ vs) (he : ∀ nm ∈ ns, Dd d cs te ((wipe σ vs).set j (some (vS nm))) H0 fun x => ∃ f : Fn, x = f.py ∧ FnOk' f ∧ f.name = nm) :
    DdL d cs (tLc (iList K tl) (gName j) tYes te vs) σ H0 fun xs => ∃ fs : List Fn, xs = fs.map Fn.py ∧ (∀ f ∈ fs, FnOk' f) ∧ fs.map (·.name) = ns := fun H1 k1 h1 Q q => hl H1 H1 (Ex.refl H1) _ fun H2 e2 => by
  have k2 := k1.trans (KD.ex e2)
  have hp2 := k2.other p _ np.1 np.2 hp
  refine ⟨p, rfl, ⟨_, sq_of hp2⟩, fun Dl hD => ?_⟩
  have hne := (h1.ex e2).ne hD
  have nD : p ≠ Dl := fun e => by
    rw [← e, hp2] at hD
    cases hD
  refine lc_list (xs := ns.map vS) (fun i H' => ∃ ws fs, KD d cs H2 H' ∧ Deal H' d cs ∧ H' Dl = some (.lst ws) ∧ H' p = some (.lst (ns.map vS)) ∧ DtA H' ws (fs.map Fn.py) ∧ (∀ f ∈ fs, FnOk' f) ∧ fs.map (·.name) = ns.take i) ⟨[], [], KD.ex (Ex.new hD), (h1.ex e2).ex (Ex.new hD), upd_same, (Ex.new hD) _ _ hp2, .nil, (fun f h => by cases h), rfl⟩ (fun i H' _ ⟨ws, fs, g1, g2, g3, g4, g5⟩ => sq_of g4) (fun i x H' hi ⟨ws, fs, k3, h3, hD3, hp3, hds3, hf, hnm⟩ => ?_) fun H' ⟨ws, fs, k3, h3, hD3, hp3, hds3, hf, hnm⟩ => ?_
  · rw [List.getElem?_map] at hi
    obtain ⟨nm, hnm2, rfl⟩ := Option.map_eq_some_iff.mp hi
    refine ⟨hw _, ?_⟩
    simp only [tYes, if_true]
    refine he nm (List.mem_of_getElem? hnm2) H' (k2.trans k3) h3 _ fun y H4 x k4 h4 hdy ⟨f, ef, hfo, hfn⟩ => ?_
    subst ef
    have hD4 := k4.other Dl _ hne.1 hne.2 hD3
    have hwl : ws.length ≤ 1000 := by
      have a1 := hds3.length
      have a2 := congrArg List.length hnm
      rw [List.length_map] at a1 a2
      rw [List.length_take] at a2
      omega
    refine ⟨ws, hD4, sz_lt (by omega), ws ++ [y], fs ++ [f], (k3.trans k4).mutL hD hD4, h4.updL hne, upd_same, ?_, ?_, fun g hg => ?_, ?_⟩
    · rw [upd_ne nD]
      exact k4.other p _ np.1 np.2 hp3
    · rw [List.map_append]
      exact DtA.app ((hds3.kt k4.tups).kt (KT.updL hD4)) (.cons (hdy.kt (KT.updL hD4)) .nil)
    · rcases List.mem_append.mp hg with hg | hg
      · exact hf g hg
      · rw [List.mem_singleton.mp hg]
        exact hfo
    · rw [List.map_append, hnm, List.take_add_one, hnm2, ← hfn]
      rfl
  · rw [List.length_map, List.take_length] at hnm
    exact q Dl H' ws _ (fresh_back e2 hD) ((KD.ex e2).trans k3) h3 hD3 hds3 ⟨fs, rfl, hf, hnm⟩
end
section
variable {P : Program} {w : World} {K : PySem.W.Frag} {mg : Str → Option Value} {base : Heap}
abbrev spPow : Sp := Pr1 fun v H Q => ∃ n : Nat, v = .int (n : Int) ∧ n ≤ 64 ∧ RetV (.int ((2 ^ n : Nat) : Int)) H Q
def MdP (x : PyData) : Prop := ∃ m : Md, x = m.py ∧ MdOk m
theorem ok__law_module (T : Txt w K mg) (c__law_any : C8.Cal P w K mg base 1 "_law_any" spAny []) (c__law_of : C8.Cal P w K mg base 2 "_law_of" spOf []) (c__law_names : C8.Cal P w K mg base 3 "_law_names" spNames []) (c__law_power : C8.Cal P w K mg base 1 "_law_power" spPow [])
    (c__law_width : C8.Cal P w K mg base 3 "_law_width" (spDr WdP) []) (c__law_function : C8.Cal P w K mg base 8 "_law_function" spFnD []) : C8.Cal P w K mg base 9 "_law_module" (spDr MdP) [] := by
  refine T.cal m_def__law_module m_glo__law_module sc__law_module bi__law_module len1 (fun cdv A outer s H vs Q E hr h => ?_)
  obtain ⟨v, rfl, d, cs, rfl, hd, q⟩ := h
  refine ⟨_, (pss_cons (ps_set (i := 1) sc__law_module.nd rfl (Or.inl rfl) (pe_lst pa_nil))
  (pss_cons (ps_for PassesOwn.never rfl (pi_list (C8.pe_c c__law_names hr (by decide) (by rfl) (pa_cons (pv 0) (pa_cons (C8.pe_c c__law_any hr (by decide) (by rfl) (pa_cons (pv 0) (pa_cons pe_int pa_nil))) (pa_cons (pe_lst pa_nil) pa_nil))))) (pg_name (i := 2) sc__law_module.nd rfl (Or.inl rfl)) (pss_cons (ps_asg (pe_tup (pa_cons (C8.pe_c c__law_width hr (by decide) (by rfl) (pa_cons (pv 0) pa_nil)) (pa_cons (C8.pe_c c__law_any hr (by decide) (by rfl) (pa_cons (pv 0) (pa_cons pe_int pa_nil))) pa_nil))) (pg_tup rfl (pgs_cons (pg_name (i := 3) sc__law_module.nd rfl (Or.inr rfl)) (pgs_cons (pg_name (i := 4) sc__law_module.nd rfl (Or.inl rfl)) pgs_nil))))
  (pss_cons (ps_set (i := 5) sc__law_module.nd rfl (Or.inl rfl) (pe_callTy call_tuple_of (by rfl) (T.free m_free_tuple) (by decide +kernel) (pa_cons (pe_lc (own := [("_law_turn", 6)]) (g := gName 6) rfl sc__law_module.nd (pi_range1 rfl (T.free m_free_range) (pa_cons (pv 4) pa_nil)) (blkOk_by (N := n__law_module) (sc := defScope s__law_module) (by decide +kernel)) (fun _ _ _ _ _ => (pg_name (i := 6) sc__law_module.nd rfl (Or.inl rfl))) (fun _ _ _ _ _ => pts_nil) (fun _ _ _ _ _ => (C8.pe_c c__law_of hr (by decide) (by rfl) (pa_cons (pv 0) (pa_cons (pe_lst (pa_cons pe_int (pa_cons pe_int (pa_cons (pe_op op_sub (C8.pe_c c__law_power hr (by decide) (by rfl) (pa_cons (pv 3) pa_nil)) pe_int) (pa_cons (C8.pe_c c__law_any hr (by decide) (by rfl) (pa_cons (pv 0) (pa_cons (C8.pe_c c__law_power hr (by decide) (by rfl) (pa_cons (pv 3) pa_nil)) pa_nil))) pa_nil))))) pa_nil))))) pa_nil)))
  (pss_one (ps_expr (pe_bm PySem.F.plainAttrs_list PySem.F.slot_list_append PySem.F.type_list_append mt_append (pv 1) (pa_cons (pe_tup (pa_cons (pv 2) (pa_cons (pv 3) (pa_cons (pv 4) (pa_cons (pv 5) pa_nil))))) pa_nil)))))))
  (pss_cons (ps_set (i := 7) sc__law_module.nd rfl (Or.inl rfl) (C8.pe_c c__law_names hr (by decide) (by rfl) (pa_cons (pv 0) (pa_cons (C8.pe_c c__law_any hr (by decide) (by rfl) (pa_cons (pv 0) (pa_cons pe_int pa_nil))) (pa_cons (pe_lc (own := [("_law_one", 8)]) (g := gName 8) rfl sc__law_module.nd (pi_list (pv 1)) (blkOk_by (N := n__law_module) (sc := defScope s__law_module) (by decide +kernel)) (fun _ _ _ _ _ => (pg_name (i := 8) sc__law_module.nd rfl (Or.inl rfl))) (fun _ _ _ _ _ => pts_nil) (fun _ _ _ _ _ => (pe_ix (r := rIxT K) ix_tup (pv 8) pe_int (fun _ _ => rfl)))) pa_nil)))))
  (pss_one (ps_ret (pe_tup (pa_cons (pe_callTy call_tuple_of (by rfl) (T.free m_free_tuple) (by decide +kernel) (pa_cons (pv 1) pa_nil)) (pa_cons (pe_callTy call_tuple_of (by rfl) (T.free m_free_tuple) (by decide +kernel) (pa_cons (pe_lc (own := [("_law_name", 2)]) (g := gName 2) rfl sc__law_module.nd (pi_list (pv 7)) (blkOk_by (N := n__law_module) (sc := defScope s__law_module) (by decide +kernel)) (fun _ _ _ _ _ => (pg_name (i := 2) sc__law_module.nd rfl (Or.inl rfl))) (fun _ _ _ _ _ => pts_nil) (fun _ _ _ _ _ => (C8.pe_c c__law_function hr (by decide) (by rfl) (pa_cons (pv 0) (pa_cons (pv 2) pa_nil))))) pa_nil)) pa_nil)))))))), ?_⟩
  refine q_asgL (el_lst ea_nil (Nat.zero_le _)) fun L H1 hL0 e1 hL1 => ?_
  have nL := hd.ne hL0
  have hpow : ∀ (n : Nat) (σ : L2.St) (H' : Hp), σ[3]? = some (some (.int (n : Int))) → n ≤ 64 → Ev (tCall spPow [] C8.E0 (tCons (tVar 3) tNil)) σ H' (.int ((2 ^ n : Nat) : Int)) := fun n σ H' h hn => ev_call (ea_cons (ev_var h) ea_nil) fun H2 e2 Q' q' E' => ⟨_, rfl, n, rfl, hn, q'⟩
  refine names_call (d := d) (cs := cs) (b := 3) (bs := []) (fun _ => ev_var rfl) (fun _ => ev_var rfl) (by decide) (by decide) (hd.ex e1) (fun H2 k2 => el_lst ea_nil (Nat.zero_le _)) (by decide) fun p H2 ns hp k2 h2 hp2 hasc hns hlen => ⟨p, rfl, ⟨_, sq_of hp2⟩, ?_⟩
  have np := (hd.ex e1).ne hp
  have npL : p ≠ L := fun e => by
    rw [e, hL1] at hp
    cases hp
  refine for_list (fun i σ' H' => ∃ es gs y2 y3 y4 y5, KD d cs H H' ∧ Deal H' d cs ∧ H' L = some (.lst es) ∧ H' p = some (.lst (ns.map vS)) ∧ DtA H' es (gs.map Gb.py) ∧ (∀ g ∈ gs, GbOk g) ∧ gs.map (·.name) = ns.take i ∧ σ' = [some (.ref d), some (.ref L), y2, y3, y4, y5, none, none, none])
    ⟨[], [], none, none, none, none, (KD.ex e1).trans k2, h2, k2.other L _ nL.1 nL.2 hL1, hp2, .nil, (fun g h => by cases h), rfl, rfl⟩ (fun i σ' H' _ ⟨es, gs, y2, y3, y4, y5, g1, g2, g3, g4, g5⟩ => sq_of g4) (fun i x σ' H' hi ⟨es, gs, y2, y3, y4, y5, k, hdl, hL, hp3, hes, hgs, hnm, eσ⟩ => ?_) fun σ' H' ⟨es, gs, y2, y3, y4, y5, k, hdl, hL, hp3, hes, hgs, hnm, eσ⟩ => ?_
  · subst eσ
    rw [List.getElem?_map] at hi
    obtain ⟨nm, hnm2, rfl⟩ := Option.map_eq_some_iff.mp hi
    have hnmo := (hns nm (List.mem_of_getElem? hnm2)).1
    have hel := hes.length
    have hel2 := congrArg List.length hnm
    rw [List.length_map] at hel hel2
    rw [List.length_take] at hel2
    refine q_asgT2 (P1 := WdP) (P2 := IntLt 4) hdl (dd_dr fun _ => ev_var rfl) (dd_anyC (bnd := 4) (fun _ => ev_var rfl) (by decide) (by decide)) fun v1 v2 x1 x2 H3 k3 h3 e1 e2 ⟨wd, q1, hwd⟩ ⟨n, q2, hn⟩ => ?_
    subst q1 q2
    obtain rfl := e1.intE
    obtain rfl := e2.intE
    have hw64 : wd ≤ 64 := by
      have h' : wd = 1 ∨ wd = 8 ∨ wd = 16 ∨ wd = 32 ∨ wd = 64 := by simpa [WdOk] using hwd
      omega
    have hpos : 0 < 2 ^ wd := Nat.two_pow_pos wd
    have hone : 1 < 2 ^ wd := Nat.one_lt_two_pow (by
      have h' : wd = 1 ∨ wd = 8 ∨ wd = 16 ∨ wd = 32 ∨ wd = 64 := by simpa [WdOk] using hwd
      omega)
    have hple : 2 ^ wd ≤ 2 ^ 64 := Nat.pow_le_pow_right (by decide) hw64
    refine q_asgD h3 (dd_tupleL (P := LstP nt (fun c => c < 2 ^ wd) (· = n)) (dl_lcR (N := (· = n)) (P := IntLt (2 ^ wd)) (fun m e => by omega) (fun H4 k4 h4 Q4 q4 => ⟨_, rfl, q4 _ H4 [nt n] (KD.refl d cs H4) h4 (.cons (.int _) .nil) ⟨n, rfl, rfl⟩⟩) (fun _ => rfl) fun y => dd_ofA (n := 4) (ta := tVar 0) (fun _ => ev_var rfl) (dda1 (dd_int (i := 0) ⟨0, rfl, hpos⟩) (dda1 (dd_int (i := 1) ⟨1, rfl, hone⟩) (dda1 (dd_ev (v := .int (((2 ^ wd : Nat) : Int) - 1)) (fun H4 _ _ => ev_op (hpow wd _ _ rfl hw64) ev_c rv_I0) (.int _) ⟨2 ^ wd - 1, congrArg PyData.int (by omega), by omega⟩) (dda1 (dd_any (ta := tVar 0) (bnd := 2 ^ wd) (fun _ => ev_var rfl) (fun H4 _ _ => hpow wd _ _ rfl hw64) hpos hple) dda0)))) (by decide)) fun xs ⟨m, hm, hl, hP⟩ => by
      obtain ⟨l, rfl, ho⟩ := data_of (py := nt) (ok := fun c => c < 2 ^ wd) hP
      rw [List.length_map] at hl
      exact ⟨l, rfl, hl.trans hm, ho⟩) fun v5 H5 x5 k5 h5 hd5 ⟨cells, q5, hcl, hco⟩ => ?_
    have k35 := k3.trans k5
    refine s_appX (P := fun z => z = (⟨nm, wd, cells⟩ : Gb).py) (k35.other L _ nL.1 nL.2 hL) nL (by omega) (ev_var rfl) h5 (dd_tup4 (P1 := fun z => z = tx nm) (P2 := fun z => z = nt wd) (P3 := fun z => z = nt n) (P4 := fun z => z = x5) (dd_var rfl (.str _) rfl) (dd_var rfl (.int _) rfl) (dd_var rfl (.int _) rfl) (dd_var rfl hd5 rfl) fun z1 z2 z3 z4 r1 r2 r3 r4 => by
      rw [r1, r2, r3, r4, q5, ← hcl]
      rfl) fun v6 H6 x6 k6 h6 hL6 hd6 q6 => ?_
    subst q6
    have k06 := k.trans (k35.trans k6)
    refine ⟨es ++ [v6], gs ++ [⟨nm, wd, cells⟩], _, _, _, _, k06.mutL hL0 hL6, h6.updL nL, upd_same, ?_, ?_, fun g hg => ?_, ?_, rfl⟩
    · rw [upd_ne npL]
      exact (k35.trans k6).other p _ np.1 np.2 hp3
    · rw [List.map_append]
      exact DtA.app ((hes.kt (k35.trans k6).tups).kt (KT.updL hL6)) (.cons (hd6.kt (KT.updL hL6)) .nil)
    · rcases List.mem_append.mp hg with hg | hg
      · exact hgs g hg
      · rw [List.mem_singleton.mp hg]
        exact ⟨hnmo, hwd, by show cells.length ≤ 3; omega, hco⟩
    · rw [List.map_append, hnm, List.take_add_one, hnm2]
      rfl
  · subst eσ
    rw [List.length_map, List.take_length] at hnm
    have hel := hes.length
    have hel2 := congrArg List.length hnm
    rw [List.length_map] at hel hel2
    dsimp only
    refine q_asgNames (d := d) (cs := cs) (b := 4) (bs := gs.map (·.name)) (fun _ => ev_var rfl) (fun _ => ev_var rfl) (by decide) (by decide) hdl (fun H3 k3 => ?_) (by rw [hnm]; omega) fun p2 H3 ns2 hp2 k3 h3 hp3 hasc2 hns2 hlen2 => ?_
    · refine el_lcLD (σ := [some (.ref d), some (.ref L), y2, y3, y4, y5, none, none, none]) (j := 8) (vs := [8]) (tl := tVar 1) (ys := (gs.map (·.name)).map vS) (ev_var rfl) (k3.other L _ nL.1 nL.2 hL) (by rw [List.length_map, List.length_map, hel]) (by omega) (fun _ => rfl) fun i x y H5 e5 hi hy => ?_
      obtain ⟨gb, hg, hdg⟩ := hes.mapGet hi
      obtain ⟨pg, y1, y2, y3, y4, rfl, hpg, d1, d2, d3, d4⟩ := hdg.e4
      obtain rfl := d1.strE
      rw [List.map_map, List.getElem?_map, hg] at hy
      obtain rfl := Option.some.inj hy
      exact ev_at (i := 0) (ev_var rfl) (e5 _ _ (k3.tups _ _ hpg)) rfl
    · have np2 := hdl.ne hp2
      refine dds_ret (P := MdP) (dd_tup2 (P1 := fun z => z = .tuple (gs.map Gb.py)) (P2 := fun z => ∃ fs : List Fn, z = .tuple (fs.map Fn.py) ∧ (∀ f ∈ fs, FnOk' f) ∧ fs.map (·.name) = ns2) (fun H6 k6 h6 Q6 q6 => ev_tupleL (ev_var rfl) (k6.other L _ nL.1 nL.2 (k3.other L _ nL.1 nL.2 hL)) fun p H7 e7 hp => q6 _ H7 _ (KD.ex e7) (h6.ex e7) (.tup hp (((hes.kt k3.tups).kt k6.tups).kt (KT.ex e7))) rfl)
        (dd_tupleL (dl_lcNames hp3 np2 (by omega) (fun _ => ev_var rfl) (fun _ => rfl) fun nm hnm => fun H6 k6 h6 Q6 q6 => ⟨_, rfl, _, rfl, _, _, rfl, d, cs, nm, rfl, rfl, (hns2 nm hnm).1, h6, q6⟩) fun xs ⟨fs, e, h1, h2⟩ => ⟨fs, by rw [e], h1, h2⟩)
        fun z1 z2 q1 ⟨fs, q2, hfs, hfn⟩ => ⟨⟨gs, fs⟩, by rw [q1, q2]; rfl, ?_⟩) _ H3 (KD.refl d cs H3) h3 fun v9 H9 x9 k9 h9 hd9 p9 => q v9 H9 x9 (k.trans (k3.trans k9)) h9 hd9 p9
      have hfl := congrArg List.length hfn
      rw [List.length_map] at hfl
      refine ⟨by show gs.length ≤ 2; omega, hgs, by show fs.length ≤ 3; omega, hfs, by show Asc (gs.map (·.name)); rw [hnm]; exact hasc, by show Asc (fs.map (·.name)); rw [hfn]; exact hasc2, fun f hf g hg e => ?_⟩
      exact (hns2 f.name (by rw [← hfn]; exact List.mem_map.mpr ⟨f, hf, rfl⟩)).2 (List.mem_map.mpr ⟨g, hg, e.symm⟩)
end
end K6
/-! K6X8: the law's draws: the deal at the start. -/
namespace K6
open PySem PySem.Spec PyProof.Rows L2 Evl
section
variable {P : Program} {w : World} {K : PySem.W.Frag} {mg : Str → Option Value} {base : Heap}
theorem given_nat (n : Nat) (f : Nat → Bool) (g : Nat → Nat) : given n f (fun i => nV (g i)) = (((List.range n).filter f).map g).map nV := by
  show ((List.range n).filter f).map (fun i => nV (g i)) = _
  rw [List.map_map]
  rfl
theorem given_len (n : Nat) (f : Nat → Bool) (g : Nat → Nat) : (((List.range n).filter f).map g).length ≤ n := by
  rw [List.length_map]
  exact Nat.le_trans (List.length_filter_le _ _) (by rw [List.length_range]; exact Nat.le_refl n)
theorem el_revL {σ : L2.St} {H : Hp} {te : TE} {xs : List V} (h : EvL te σ H xs) : EvL (tRevL K te) σ H xs.reverse := fun H1 e Q q => h H1 e _ fun r H2 hr e2 h2 => ⟨r, xs, rfl, sq_of h2, fun p hp => q p _ (fresh_back e2 hp) (e2.trans (Ex.new hp)) upd_same⟩
theorem s_retDeal {σ : L2.St} {H : Hp} {D : Ends} {te tb : TE} {xs : List V} {y : V} (h : EvL te σ H xs) (hb : Ev tb σ H y) (k : ∀ d cs H2, H d = none → H cs = none → d ≠ cs → Ex H H2 → H2 d = some (.lst [.ref cs, y]) → H2 cs = some (.lst xs) → D.rt (.ref d) H2) : tRet (tLst (tCons te (tCons tb tNil))) D σ H := by
  refine h H (Ex.refl H) _ fun cs H1 hcs e1 h1 => (hb H1 e1 _ fun H2 e2 => ?_ : tb σ H1 _)
  refine ⟨sz_of (by show 2 ≤ 100000; omega), fun d hd => k d cs _ (fresh_back (e1.trans e2) hd) hcs (fun e => ?_) ((e1.trans e2).trans (Ex.new hd)) upd_same ((Ex.new hd) _ _ (e2 _ _ h1))⟩
  rw [e, e2 _ _ h1] at hd
  cases hd
def spDraw : Sp := Pr2 fun v z H Q => ∃ (a : Addr) (xs : List Int) (m : Int), v = .ref a ∧ z = .int m ∧ SqL K H a (xs.map V.int) ∧ xs.length ≤ 63 ∧ ∀ d cs H2, H d = none → H cs = none → Ex H H2 → Deal H2 d cs → Q (.ref d) H2
theorem ok__law_draw (T : Txt w K mg) : C8.Cal P w K mg base 1 "_law_draw" (spDraw (K := K)) [] := by
  refine T.cal m_def__law_draw m_glo__law_draw sc__law_draw bi__law_draw len2 (fun cdv A outer s H vs Q E hr h => ?_)
  obtain ⟨v, v2, rfl, a, xs, m, rfl, rfl, ha, hlen, q⟩ := h
  refine ⟨_, (pss_cons (ps_setLc (i := 2) (own := [("_law_cell", 3)]) (g := gName 3) rfl sc__law_draw.nd rfl rfl (sw_true rfl rfl rfl (by decide +kernel)) (pi_list (pe_slice sl_list (pv 0) po_none (po_some pe_int))) (blkOk_by (N := n__law_draw) (sc := defScope s__law_draw) (by decide +kernel)) (fun _ _ _ _ _ => (pg_name (i := 3) sc__law_draw.nd rfl (Or.inl rfl))) (fun _ _ _ _ _ => pts_nil) (fun _ _ _ _ _ => (pe_callB call_abs (by rfl) (T.free m_free_abs) (by decide +kernel) (pa_cons (pe_callTy call_int1 (by rfl) (T.free m_free_int) (by decide +kernel) (pa_cons (pv 3) pa_nil)) pa_nil))))
  (pss_cons (ps_set (i := 4) sc__law_draw.nd rfl (Or.inl rfl) (pe_op op_add pe_int (pe_op op_mul pe_int (pv 1))))
  (pss_cons (ps_for PassesOwn.never rfl (pi_list (pv 2)) (pg_name (i := 3) sc__law_draw.nd rfl (Or.inl rfl)) (pss_one (ps_set (i := 4) sc__law_draw.nd rfl (Or.inl rfl) (pe_op op_mod (pe_callTy call_int1 (by rfl) (T.free m_free_int) (by decide +kernel) (pa_cons (pe_op op_add (pe_op op_add (pe_op op_mul (pv 4) pe_int) (pe_op op_mod (pv 3) pe_int)) pe_int) pa_nil)) pe_int))))
  (pss_one (ps_ret (pe_lst (pa_cons (pe_revL (pe_lc (own := [("_law_cell", 3)]) (g := gName 3) rfl sc__law_draw.nd (pi_list (pv 2)) (blkOk_by (N := n__law_draw) (sc := defScope s__law_draw) (by decide +kernel)) (fun _ _ _ _ _ => (pg_name (i := 3) sc__law_draw.nd rfl (Or.inl rfl))) (fun _ _ _ _ _ => (pts_one (pt_cmpR op_ge (pv 3) (pe_op op_pow pe_int pe_int) (nomark _)))) (fun _ _ _ _ _ => (pv 3)))) (pa_cons (pv 4) pa_nil)))))))), ?_⟩
  have hcut : ∃ ys : List Int, cutV (xs.map V.int) none (some 48) = ys.map V.int ∧ ys.length ≤ 63 := by
    refine ⟨(xs.drop (HT.sIx (xs.map V.int).length 0 none)).take (HT.sIx (xs.map V.int).length (xs.map V.int).length (some 48) - HT.sIx (xs.map V.int).length 0 none), ?_, ?_⟩
    · unfold cutV
      rw [List.map_take, List.map_drop]
    · rw [List.length_take, List.length_drop]
      omega
  obtain ⟨ys, hys, hyl⟩ := hcut
  have c1 : EvL (tSl (rSlL K) (tVar 0) tNoPart (tPart (tC (.int 48)))) [some (.ref a), some (.int m), none, none, none] H (ys.map V.int) := hys ▸ el_sl (ev_var rfl) eo_none (eo_some ev_c) ha
  refine q_asgL (el_lcNL (fun _ => true) (fun i => nV (ys.getD i 0).natAbs) c1 (by rw [List.length_map]; omega) (fun _ => rfl) (fun i x H1 e hx => fun H2 e2 Q' q' => q' H2 (Ex.refl H2)) fun i x H1 e hx _ => ?_) fun p H1 hp e1 hp1 => ?_
  · rw [List.getElem?_map] at hx
    obtain ⟨y, hy, rfl⟩ := Option.map_eq_some_iff.mp hx
    refine ev_is (ev_cb (ea_cons (ev_int1 (ev_var rfl)) ea_nil) fun H3 e3 Q' q' => ⟨_, rfl, q' H3 (Ex.refl H3)⟩) (congrArg V.int ?_)
    rw [List.getD_eq_getElem?_getD, hy]
    show (if y < 0 then -y else y) = ((y.natAbs : Nat) : Int)
    omega
  rw [given_nat, List.length_map] at hp1
  have hnl := given_len ys.length (fun _ => true) fun i => (ys.getD i 0).natAbs
  generalize hns : ((List.range ys.length).filter fun _ => true).map (fun i => (ys.getD i 0).natAbs) = ns at hp1 hnl
  refine q_asg (v := .int (7919 + 104729 * m)) (ev_op ev_c (ev_op ev_c (ev_var rfl) (rv_I (.inl (by decide)))) rv_I0) fun H2 e2 => ?_
  refine q_forLn (ev_var rfl) (sq_of (e2 _ _ hp1)) (fun i σ' H' => Ex H2 H' ∧ ∃ (b : Int) (y3 : Option V), σ' = [some (.ref a), some (.int m), some (.ref p), y3, some (.int b)]) (fun H3 e3 => ⟨e3, _, _, rfl⟩) (fun i σ' H' _ ⟨e3, _⟩ => sq_of (e3 _ _ (e2 _ _ hp1))) (fun i x σ' H' hx ⟨e3, b, y3, eσ⟩ => ?_) fun σ' H' ⟨e3, b, y3, eσ⟩ => ?_
  · subst eσ
    rw [List.getElem?_map] at hx
    obtain ⟨n, hn, rfl⟩ := Option.map_eq_some_iff.mp hx
    exact s_asg (ev_op (ev_int1 (ev_op (ev_op (ev_op (ev_var rfl) ev_c (rv_I (.inr (by decide)))) (ev_op (ev_var rfl) ev_c (rv_I (by decide))) rv_I0) ev_c rv_I0)) ev_c (rv_I (by decide))) fun H4 e4 => ⟨e3.trans e4, _, _, rfl⟩
  · subst eσ
    have eA := e1.trans (e2.trans e3)
    have hp4 := e3 _ _ (e2 _ _ hp1)
    have hge : ∀ (i : Nat) (x : V) H5, Ex H' H5 → (ns.map nV)[i]? = some x → x = nV (ns.getD i 0) := fun i x H5 e5 hx => by
      rw [List.getElem?_map] at hx
      obtain ⟨n, hn, rfl⟩ := Option.map_eq_some_iff.mp hx
      rw [List.getD_eq_getElem?_getD, hn]
      rfl
    have hl := given_nat ns.length (fun i => decide ((10 ^ 18 : Int) ≤ ((ns.getD i 0 : Nat) : Int))) fun i => ns.getD i 0
    have hzl := given_len ns.length (fun i => decide ((10 ^ 18 : Int) ≤ ((ns.getD i 0 : Nat) : Int))) fun i => ns.getD i 0
    refine s_retDeal (el_revL (el_lcL (σ := [some (.ref a), some (.int m), some (.ref p), y3, some (.int b)]) (j := 3) (vs := [3]) (tl := tVar 2) (fun i => decide ((10 ^ 18 : Int) ≤ ((ns.getD i 0 : Nat) : Int))) (fun i => nV (ns.getD i 0)) (ev_var rfl) (sq_of hp4) (by rw [List.length_map]; omega) (fun _ => rfl) (fun i x H5 e5 hx => ?_) fun i x H5 e5 hx _ => ?_)) (ev_var rfl) fun d cs H5 hd hcs hne e5 h5 h6 => ?_
    · rw [hge i x H5 e5 hx]
      exact et_test (ev_op (ev_var rfl) (ev_op ev_c ev_c (rv_I ⟨by omega, by omega, by decide⟩)) rv_I0)
    · rw [hge i x H5 e5 hx]
      exact ev_var rfl
    rw [List.length_map, hl, ← List.map_reverse] at h6
    refine q d cs _ (fresh_back eA hd) (fresh_back eA hcs) (eA.trans e5) ⟨b, _, hne, h5, h6, ?_⟩
    rw [List.length_reverse]
    omega
end
end K6
/-! K6Y1: a for over the signs of a written text, each set apart by blanks. -/
namespace K6
open PySem PySem.Spec PyProof.Rows L2
section
variable {X : Cx} {pins : List (Addr × Obj)} {σ : L2.St} {H : Hp} {s : Shared}
/-- a plain local name, stored by hand -/
theorem inv_put {j : Nat} {x : Str} (I : Inv X pins σ H s) (nd : X.N.Nodup) (hj : X.N[j]? = some x) (hk : X.env.scope.names.lookup x = some .local) :
    ∃ m, s.heap.Ns X.env.locals m ∧ ∀ (v : V) (u : Value) (h2 : Heap) (t2 : Nat), RelV v u → h2.Ns X.env.locals (fun y => if y = x then some u else m y) → Heap.SameBut X.env.locals s.heap h2 → Inv X pins (σ.set j (some v)) H { s with heap := h2, toks := t2 } := by
  obtain ⟨m, hm, hlook⟩ := id I.loc
  refine ⟨m, hm, fun v u h2 t2 hr hm2 hsame => ?_⟩
  have old : ∀ {b : Addr} {o : Obj}, X.s_0.heap.get? b = some o → h2.get? b = s.heap.get? b := fun {b o} e => hsame.2 b fun z => absurd (Nat.lt_of_lt_of_le (Heap.lt_size e) (z ▸ I.ok.above)) (Nat.lt_irrefl _)
  have hlt : j < σ.length := by
    rw [I.len]
    exact (List.getElem?_eq_some_iff.mp hj).1
  have hcne := I.cne
  constructor
  · exact I.ok
  · exact I.os
  · exact I.bare
  · constructor
    · exact fun b o e n hb hx => (old e).trans (I.base.keep b o e n hb hx)
    · exact fun b o e n hb hx => (I.base.slot b o e n hb hx).imp fun sl q => (old e).trans q
    · exact I.base.free
    · exact fun b o e hx => (I.base.there b o e hx).imp fun o2 q => (old e).trans q
    · exact I.base.tups
    · exact I.base.frzs
    · exact I.base.tbls
  · refine ⟨_, hm2, fun i y w e1 e2 e3 => ?_⟩
    rcases Nat.decEq i j with hij | hij
    · rw [List.getElem?_set_ne fun z => hij z.symm] at e2
      obtain ⟨u2, r2, l2⟩ := hlook i y w e1 e2 e3
      have hyx : y ≠ x := fun z => hij (nodup_ix nd (z ▸ e1) hj)
      refine ⟨u2, r2, l2.imp (fun ⟨k1, k2⟩ => ⟨k1, (if_neg hyx).trans k2⟩) fun ⟨k1, c, k2, k3⟩ => ⟨k1, c, k2, k3.sameBut hsame (hcne y c k2)⟩⟩
    · rw [hij] at e1 e2
      rw [List.getElem?_set_self hlt] at e2
      obtain rfl := Option.some.inj (Option.some.inj e2)
      obtain rfl : x = y := Option.some.inj (hj.symm.trans e1)
      exact ⟨u, hr, .inl ⟨hk, if_pos rfl⟩⟩
  · exact fun y c e => (I.cell y c e).imp fun w q => q.sameBut hsame (hcne y c e)
  · exact I.free
  · exact I.freeC
  · exact fun p hp => let ⟨p1, p2, p3, p4, p5⟩ := I.pin p hp; ⟨(hsame.2 p.1 p3).trans p1, p2, p3, p4, p5⟩
  · refine fun b ob e => (I.hok b ob e).stay (fun c w2 hc q => (hsame.2 c fun z => ?_).trans q) (fun _ q => q) fun _ _ q => q
    have hf := I.free
    rw [← z] at hf
    rcases hc with hc | hc
    · rw [hc, e] at hf
      cases hf
    · rw [hf] at hc
      cases hc
  · rw [List.length_set]
    exact I.len
/-- each sign of l set apart -/
def apart1 (x : Str) (c : Nat) : Str := Txt.replace x ⟨#[c]⟩ ⟨#[32, c, 32]⟩
def apart (l : List Nat) (x : Str) : Str := l.foldl apart1 x
def tApart (i j : Nat) (l : List Nat) : TS := fun D σ H => ∃ x : Str, σ[i]? = some (some (.str x)) ∧ (∀ k, k < l.length → (apart (l.take k) x).length * 4 + 3 ≤ 16777216) ∧ ∀ y, D.nx ((σ.set i (some (.str (apart l x)))).set j y) H
theorem set_self {σ : L2.St} {i : Nat} {v : Option V} (h : σ[i]? = some v) : σ.set i v = σ := by
  apply List.ext_getElem?
  intro k
  rcases Nat.decEq k i with hk | hk
  · rw [List.getElem?_set_ne fun z => hk z.symm]
  · rw [hk, List.getElem?_set_self (List.getElem?_eq_some_iff.mp h).1, h]
theorem set_four {σ : L2.St} {i j : Nat} {a b v y : Option V} (hij : j ≠ i) : (((σ.set i a).set j y).set j v).set i b = (σ.set i b).set j v := by
  rw [List.set_set, List.set_comm _ _ hij, List.set_set]
theorem ps_apart {i j : Nat} {tx sg : Str} {lit : Str} {p0 c0 p1 p2 apos p3 c1 p4 b1 c2 b2 cpos p5 fpos : Pos} {k0 k1 k2 : Nat} (hp : PassesOwn (model X.prog X.w) X.A X.env X.xe) (hc : X.calm = true) (nd : X.N.Nodup) (hi : X.N[i]? = some tx) (hj : X.N[j]? = some sg) (hij : j ≠ i)
    (hki : X.env.scope.names.lookup tx = some .local) (hkj : X.env.scope.names.lookup sg = some .local) (h128 : lit.cps.all (· < 128) = true)
    (hst : starEach [.Name sg p3, .BinOp (.BinOp (.Constant (.str ⟨#[32]⟩) k1 c1) .Add (.Name sg p4) b1) .Add (.Constant (.str ⟨#[32]⟩) k2 c2) b2] X.env = [(false, eval (.Name sg p3) X.env), (false, eval (.BinOp (.BinOp (.Constant (.str ⟨#[32]⟩) k1 c1) .Add (.Name sg p4) b1) .Add (.Constant (.str ⟨#[32]⟩) k2 c2) b2) X.env)] := by rfl)
    (hbase : attributeBase (.Name tx p2) "replace" X.env (eval (.Name tx p2) X.env) = eval (.Name tx p2) X.env := by rfl) (hline : (apos.endLine == cpos.line) = true := by rfl)
    (hsw : swapsWith (.Call (.Attribute (.Name tx p2) "replace" apos) [.Name sg p3, .BinOp (.BinOp (.Constant (.str ⟨#[32]⟩) k1 c1) .Add (.Name sg p4) b1) .Add (.Constant (.str ⟨#[32]⟩) k2 c2) b2] [] cpos) (some (.Name tx p1)) p5.line X.env = pure false := by rfl)
    (hdt : (tx == ("__debug__" : Str)) = false := by decide) (hds : (sg == ("__debug__" : Str)) = false := by decide) (hct : (tx == ("__classdict__" : Str)) = false := by decide) :
    PS X (.For (.Name sg p0) (.Constant (.str lit) k0 c0) [.Assign [.Name tx p1] (.Call (.Attribute (.Name tx p2) "replace" apos) [.Name sg p3, .BinOp (.BinOp (.Constant (.str ⟨#[32]⟩) k1 c1) .Add (.Name sg p4) b1) .Add (.Constant (.str ⟨#[32]⟩) k2 c2) b2] [] cpos) p5] [] fpos) (tApart i j lit.cps.toList) := by
  refine ⟨fun pins s σ H D I h => ?_⟩
  obtain ⟨x, hx, hz, q⟩ := h
  refine wpAny_For (wpAny_Constant_str (wpAny_pyIter_ascii h128 ?_))
  have fp := I.fpOk (b := s.heap.objs.size) (H' := H) (Nat.le_refl _) (I.hok.fresh (Nat.le_refl _))
  obtain ⟨y0, hy0⟩ : ∃ y0, σ[j]? = some y0 := ⟨σ[j]'(by rw [I.len]; exact (List.getElem?_eq_some_iff.mp hj).1), List.getElem?_eq_getElem _⟩
  refine codeAny_forLoop_any (fun n s' => ∃ m y, n = lit.cps.size - m ∧ m ≤ lit.cps.size ∧ Inv X pins ((σ.set i (some (.str (apart (lit.cps.toList.take m) x)))).set j y) H s' ∧ s'.heap.IsStrIter s.heap.objs.size "str_ascii_iterator" lit s.toks m ∧ 1 ≤ s'.toks) ?_ lit.cps.size
    ⟨0, y0, rfl, Nat.zero_le _, ?_, ⟨_, Heap.get?_push_size _ rfl, rfl, rfl⟩, by show 1 ≤ s.toks + 1; omega⟩
  · rintro n s1 ⟨m, y, rfl, hm, I1, st, ht⟩
    obtain ⟨f0, f1, f2, f3, f4, f5⟩ := fp
    by_cases hlt : m < lit.cps.size
    · refine wpAny_passesOwn hp (wpAny_pyNext_ascii_item st (c := lit.cps[m]) (by simp [hlt]) fun h2 st2 hs2 => ?_)
      obtain ⟨oi, ei, ci, di⟩ := id st2
      have I2 : Inv X pins _ H { s1 with heap := h2, toks := s1.toks + 1 } := I1.turned (fun b o hb e => (hs2.2 b hb).trans e) f0 f1 f3 f4 f5
      refine wpAny_passesOwn hp (go_of (s := { s1 with heap := h2, toks := s1.toks + 1 }) ei ci di (by decide) ?_)
      obtain ⟨mm, hmm, put⟩ := inv_put I2 nd hj hkj
      have hcls : (X.env.scope.kind == .class || (X.env.scope.kind == .module && X.env.locals != X.env.globals)) = false := by
        rw [I.ok.kind]
        rfl
      refine wpAny_passesOwn hp (wpAny_assign_Name (wpAny_storeName_local hkj hmm (fun h3_ hn3 hs3 => ?_) hcls))
      have I3 := put (.str ⟨#[lit.cps[m]]⟩) _ h3_ (s1.toks + 1 + 1) ⟨_, rfl⟩ hn3 hs3
      refine wpAny_passesOwn hp (wpAny_with_toks (n := 1) (by show 1 ≤ s1.toks + 1 + 1; omega) ?_)
      refine wpAny_execs_cons (wpAny_Assign_Name (PySem.Call_method2 hbase hst hline (raw_name hi (.inl hki) I3 (v := .str (apart (lit.cps.toList.take m) x)) ?_ (fun v r => ?_) hdt hct)) hsw)
      · rw [List.getElem?_set_ne hij, List.getElem?_set_ne hij, List.getElem?_set_self (List.getElem?_eq_some_iff.mp hx).1]
      obtain ⟨tk, rfl⟩ := r
      have rd : ∀ (t : Nat) (Q E : Value → Shared → Prop) (pp : Pos), Q (.str ⟨#[lit.cps[m]]⟩ s1.toks) { s1 with heap := h3_, toks := t } → wpAny (model X.prog X.w) X.A (eval (.Name sg pp) X.env) Q E { s1 with heap := h3_, toks := t } := fun t Q E pp hQ =>
        wpAny_Name (wpAny_loadName_local I.ok.kind hkj hn3 (if_pos rfl) hQ) hds
      refine ⟨"str", _, F.plainAttrs_str, F.slot_str_replace, F.type_str_replace, typeIs_str _ _ _, (fun _ e => nomatch e),
        Calls.callWith_builtin rfl (Calls.evalArgs_plain (Calls.spliced_cons (rd _ _ _ _ ?_)))⟩
      have l2 : ((⟨#[32]⟩ : Str) ++ ⟨#[lit.cps[m]]⟩).length ≤ sizeLine := Nat.le_trans (show 2 ≤ 100 by decide) (by decide)
      have l3 : ((⟨#[32]⟩ : Str) ++ ⟨#[lit.cps[m]]⟩ ++ ⟨#[32]⟩).length ≤ sizeLine := Nat.le_trans (show 3 ≤ 100 by decide) (by decide)
      refine Calls.spliced_cons (wpAny_BinOp (wpAny_BinOp (wpAny_Constant_str (rd _ _ _ _ (PySem.P.add_str ⟨l2, wpAny_Constant_str (PySem.P.add_str ⟨l3, ?_⟩)⟩)))))
      refine Calls.spliced_nil ?_
      have hml : m < lit.cps.toList.length := by
        rw [Array.length_toList]
        exact hlt
      have hz' := hz m hml
      have hne : ((⟨#[lit.cps[m]]⟩ : Str) == (⟨#[32]⟩ ++ ⟨#[lit.cps[m]]⟩ ++ ⟨#[32]⟩)) = false := beq_eq_false_iff_ne.mpr fun z => absurd (congrArg Str.length z) (show (1 : Nat) ≠ 3 by decide)
      have h3 : ((⟨#[32]⟩ : Str) ++ ⟨#[lit.cps[m]]⟩ ++ ⟨#[32]⟩).length = 3 := rfl
      refine PySem.SC.replace (by show s1.toks ≠ 0; omega) (by show s1.toks + 1 + 1 + 1 + 1 + 1 ≠ 0; omega) (by show s1.toks ≠ s1.toks + 1 + 1 + 1 + 1 + 1; omega) hne (by rw [h3]; omega) fun t4 k4 => ?_
      have I4 : Inv X pins _ H { s1 with heap := h3_, toks := k4 } := I3.tok k4
      obtain ⟨m4, hm4, put4⟩ := inv_put I4 nd hi hki
      refine wpAny_storeName_local hki hm4 (fun h5 hn5 hs5 => ?_) hcls
      have I5 := put4 (.str (apart (lit.cps.toList.take (m + 1)) x)) _ h5 (k4 + 1) ?_ hn5 hs5
      · refine wpAny_execs_nil fun hto => ?_
        refine ⟨lit.cps.size - (m + 1), by omega, m + 1, some (.str ⟨#[lit.cps[m]]⟩), rfl, hlt, ?_, ⟨oi, (hs5.2 _ f1).trans ((hs3.2 _ f1).trans ei), ci, di⟩, hto⟩
        rw [set_four hij] at I5
        exact I5
      · have e : lit.cps.toList.take (m + 1) = lit.cps.toList.take m ++ [lit.cps[m]] := by
          rw [List.take_add_one, List.getElem?_eq_getElem hml]
          rfl
        refine ⟨t4, ?_⟩
        rw [e]
        unfold apart
        rw [List.foldl_append]
        rfl
    · have em : m = lit.cps.size := by omega
      refine wpAny_passesOwn hp (wpAny_pyNext_ascii_end (I.ok.hd hc) st (Array.getElem?_eq_none (by omega)) fun h2 hb => ?_)
      have I2 : Inv X pins _ H { s1 with heap := h2, toks := s1.toks } := I1.turned (fun b o hb2 e => hb b o hb2 e) f0 f1 f3 f4 f5
      rw [em, List.take_of_length_le (by rw [Array.length_toList]; exact Nat.le_refl _)] at I2
      exact wpAny_execs_nil ⟨_, H, I2, q y⟩
  · have e0 : (σ.set i (some (.str (apart (lit.cps.toList.take 0) x)))).set j y0 = σ := by
      rw [List.take_zero]
      show (σ.set i (some (.str x))).set j y0 = σ
      rw [set_self hx, set_self hy0]
    rw [e0]
    exact I.kept fun b u e => Heap.get?_push_of_some _ e
end
end K6
/-! K6Y2: the words of a text whose signs are set apart are its tokens. -/
namespace K6
open PySem PySem.Spec PyProof.Rows L2
/-- one sign for all -/
def sepOf (l : List Nat) (a : Nat) : Tx := if a ∈ l then [32, a, 32] else [a]
theorem repl_one (c : Nat) (z : Tx) : ∀ l : Tx, StrLaws.replL [c] z l = l.flatMap fun a => if a = c then z else [a]
  | [] => StrLaws.replL_nil
  | a :: r => by
    by_cases h : a = c
    · rw [StrLaws.replL_hit (by simp) (by rw [h]; rfl), List.flatMap_cons, if_pos h]
      show z ++ StrLaws.replL [c] z r = _
      rw [repl_one c z r]
    · rw [StrLaws.replL_miss (fun e => h (by
        have := List.cons.inj (show a :: _ = c :: [] from e)
        exact this.1)), List.flatMap_cons, if_neg h, repl_one c z r]
      rfl
theorem apart1_S (x : Tx) (c : Nat) : apart1 (SX.S x) c = SX.S (x.flatMap (sepOf [c])) := by
  refine TL.ext_tl ?_
  show (Txt.replace (SX.S x) ⟨#[c]⟩ ⟨#[32, c, 32]⟩).cps.toList = x.flatMap (sepOf [c])
  rw [StrLaws.replace_list (by show 1 ≤ 1; omega)]
  show StrLaws.replL [c] [32, c, 32] x = _
  rw [repl_one]
  refine congrArg (fun f => List.flatMap f x) (funext fun a => ?_)
  unfold sepOf
  by_cases h : a = c
  · rw [if_pos h, if_pos (by rw [h]; exact List.mem_cons_self), h]
  · rw [if_neg h, if_neg (by simpa using h)]
theorem apart_S : ∀ (l : List Nat) (x : Tx), l.Nodup → 32 ∉ l → apart l (SX.S x) = SX.S (x.flatMap (sepOf l))
  | [], x, _, _ => by
    have e : x.flatMap (sepOf []) = x := by
      induction x with
      | nil => rfl
      | cons a r ih =>
        rw [List.flatMap_cons, ih]
        rfl
    rw [e]
    rfl
  | c :: l, x, hn, hb => by
    obtain ⟨hc, hn2⟩ := List.nodup_cons.mp hn
    have hb2 : 32 ∉ l := fun z => hb (List.mem_cons_of_mem _ z)
    have hbc : (32 : Nat) ≠ c := fun z => hb (by rw [z]; exact List.mem_cons_self)
    show apart l (apart1 (SX.S x) c) = _
    rw [apart1_S, apart_S l _ hn2 hb2, List.flatMap_assoc]
    refine congrArg (fun f => SX.S (List.flatMap f x)) (funext fun a => ?_)
    by_cases h : a = c
    · subst h
      have e1 : sepOf [a] a = [32, a, 32] := if_pos List.mem_cons_self
      have e2 : sepOf l 32 = [32] := if_neg hb2
      have e3 : sepOf l a = [a] := if_neg hc
      have e4 : sepOf (a :: l) a = [32, a, 32] := if_pos List.mem_cons_self
      rw [e1, e4, List.flatMap_cons, List.flatMap_cons, List.flatMap_cons, e2, e3]
      rfl
    · have e1 : sepOf [c] a = [a] := if_neg (by simpa using h)
      rw [e1, List.flatMap_cons]
      unfold sepOf
      rw [List.flatMap_nil, List.append_nil]
      by_cases h2 : a ∈ l
      · rw [if_pos h2, if_pos (List.mem_cons_of_mem _ h2)]
      · rw [if_neg h2, if_neg fun z => (List.mem_cons.mp z).elim h h2]
/-! ### the scan -/
theorem sp_bl {c : Nat} (h : isBl c = true) : Unicode.isSpace c = true := by
  rcases bl_cases h with e | e <;> (rw [e]; decide +kernel)
theorem sp_wd {c : Nat} (h : isWd c = true) : Unicode.isSpace c = false := by
  have h2 := wd_all (P := fun c => !Unicode.isSpace c) (by decide +kernel) h
  simpa using h2
theorem sg_all {P : Nat → Bool} (h : sgnL.all P = true) {c : Nat} (hc : isSg c = true) : P c = true := List.all_eq_true.mp h c (by
  unfold isSg at hc
  simpa using hc)
theorem sp_sg {c : Nat} (h : isSg c = true) : Unicode.isSpace c = false := by
  have h2 := sg_all (P := fun c => !Unicode.isSpace c) (by decide +kernel) h
  simpa using h2
theorem sp_mk {c : Nat} (h : c ∈ [36, 64]) : Unicode.isSpace c = false := by
  have h' : c = 36 ∨ c = 64 := by simpa using h
  rcases h' with e | e <;> (rw [e]; decide +kernel)
/-- the words so far, the word under way: what is told at the end -/
def told2 (a : List Tx) (cur : Tx) : List Tx := if cur = [] then a else a ++ [cur]
def stp (q : List Tx × Tx) (c : Nat) : List Tx × Tx := if Unicode.isSpace c = true then (told2 q.1 q.2, []) else (q.1, q.2 ++ [c])
def relS (q : List Tx × Tx) : KWd.St := (q.1.map SX.S, SX.S q.2)
theorem stp_rel (q : List Tx × Tx) (c : Nat) : KWd.step (relS q) c = relS (stp q c) := by
  obtain ⟨a, cur⟩ := q
  unfold KWd.step stp
  by_cases h : Unicode.isSpace c = true
  · rw [if_pos h, if_pos h]
    have hl : (relS (a, cur)).2.length = cur.length := SX.S_len cur
    rw [hl]
    unfold told2
    by_cases hz : cur = []
    · subst hz
      rfl
    · rw [if_neg (fun z => hz (List.eq_nil_of_length_eq_zero z)), if_neg hz]
      show (a.map SX.S ++ [SX.S cur], Str.empty) = ((a ++ [cur]).map SX.S, SX.S [])
      rw [List.map_append]
      rfl
  · rw [if_neg h, if_neg h]
    show (a.map SX.S, SX.S cur ++ ⟨#[c]⟩) = (a.map SX.S, SX.S (cur ++ [c]))
    rw [← SX.S_cat] <;> rfl
theorem fold_rel : ∀ (l : Tx) (q : List Tx × Tx), l.foldl KWd.step (relS q) = relS (l.foldl stp q)
  | [], _ => rfl
  | c :: l, q => by
    rw [List.foldl_cons, List.foldl_cons, stp_rel, fold_rel l]
def endT (q : List Tx × Tx) : List Tx := told2 q.1 q.2
theorem words_S (x : Tx) : Txt.words (SX.S x) = (endT (x.foldl stp ([], []))).map SX.S := by
  rw [KWd.words_scan]
  have h : KWd.scan (SX.S x) = relS (x.foldl stp ([], [])) := fold_rel x ([], [])
  rw [h]
  generalize x.foldl stp ([], []) = q
  obtain ⟨a, cur⟩ := q
  unfold KWd.fin endT told2
  have hl : (relS (a, cur)).2.length = cur.length := SX.S_len cur
  rw [hl]
  by_cases hz : cur = []
  · subst hz
    rfl
  · rw [if_neg (fun z => hz (List.eq_nil_of_length_eq_zero z)), if_neg hz]
    show a.map SX.S ++ [SX.S cur] = (a ++ [cur]).map SX.S
    rw [List.map_append]
    rfl
theorem fold_bls : ∀ (s : Tx) (q : List Tx × Tx), Bls s → s ≠ [] → s.foldl stp q = (endT q, [])
  | [c], q, h, _ => by
    show stp q c = _
    unfold stp
    rw [if_pos (sp_bl (h c List.mem_cons_self))]
    rfl
  | c :: d :: s, q, h, _ => by
    rw [List.foldl_cons, fold_bls (d :: s) _ (fun e he => h e (List.mem_cons_of_mem _ he)) (by simp)]
    unfold stp
    rw [if_pos (sp_bl (h c List.mem_cons_self))]
    rfl
theorem fold_no : ∀ (t : Tx) (q : List Tx × Tx), (∀ c ∈ t, Unicode.isSpace c = false) → t.foldl stp q = (q.1, q.2 ++ t)
  | [], q, _ => by
    show q = (q.1, q.2 ++ [])
    rw [List.append_nil]
  | c :: t, q, h => by
    rw [List.foldl_cons, fold_no t _ fun d hd => h d (List.mem_cons_of_mem _ hd)]
    unfold stp
    rw [if_neg (by rw [h c List.mem_cons_self]; decide)]
    show (q.1, q.2 ++ [c] ++ t) = _
    rw [List.append_assoc]
    rfl
abbrev expd (x : Tx) : Tx := x.flatMap (sepOf sgnL)
theorem exp_no {x : Tx} (h : ∀ c ∈ x, isSg c = false) : expd x = x := by
  induction x with
  | nil => rfl
  | cons a r ih =>
    show List.flatMap _ (a :: r) = _
    rw [List.flatMap_cons]
    have e : sepOf sgnL a = [a] := if_neg fun z => by
      have := h a List.mem_cons_self
      unfold isSg at this
      simp [z] at this
    have ih' : List.flatMap (sepOf sgnL) r = r := ih fun c hc => h c (List.mem_cons_of_mem _ hc)
    rw [e, ih']
    rfl
theorem bl_not_sg {c : Nat} (h : isBl c = true) : isSg c = false := by
  rcases bl_cases h with e | e <;> (rw [e]; decide)
theorem mk_not_sg {c : Nat} (h : c ∈ [36, 64]) : isSg c = false := by
  have h' : c = 36 ∨ c = 64 := by simpa using h
  rcases h' with e | e <;> (rw [e]; decide)
theorem scan_lay : ∀ {ts : List Tx} {g : Bool} {x : Tx} (q : List Tx × Tx), LayS g ts x → (q.2 ≠ [] → g = false) → endT ((expd x).foldl stp q) = endT q ++ ts
  | [], g, x, q, h, hq => by
    cases h with
    | nil hs =>
      rw [exp_no fun c hc => bl_not_sg (hs c hc), List.append_nil]
      by_cases hx : x = []
      · rw [hx]
        rfl
      · rw [fold_bls x q hs hx]
        rfl
  | t :: ts, g, x, q, h, hq => by
    cases h with
    | @cons _ s _ r _ _ hs hn ht hr e =>
      subst e
      have e1 : expd (s ++ (t ++ r)) = s ++ (expd t ++ expd r) := by
        show List.flatMap _ _ = _
        rw [List.flatMap_append, List.flatMap_append]
        have := exp_no fun c hc => bl_not_sg (hs c hc)
        rw [show List.flatMap (sepOf sgnL) s = s from this]
      rw [e1, List.foldl_append, List.foldl_append]
      have hs1 : ∃ q1, s.foldl stp q = q1 ∧ endT q1 = endT q ∧ (q1.2 = [] ∨ sgT t = true) := by
        by_cases hz : s = []
        · refine ⟨q, by rw [hz]; rfl, rfl, ?_⟩
          by_cases hq2 : q.2 = []
          · exact .inl hq2
          · rcases hn hz with z | z
            · rw [hq hq2] at z
              cases z
            · exact .inr z
        · exact ⟨_, fold_bls s q hs hz, rfl, .inl rfl⟩
      obtain ⟨q1, e2, e3, e4⟩ := hs1
      rw [e2, ← e3]
      -- behind the token
      have wordy : ∀ t : Tx, t ≠ [] → (∀ c ∈ t, isSg c = false ∧ Unicode.isSpace c = false) → sgT t = false → q1.2 = [] → LayS (sgT t) ts r → endT ((expd r).foldl stp ((expd t).foldl stp q1)) = endT q1 ++ t :: ts := fun t hne hc hg h0 hr => by
        rw [exp_no fun c h => (hc c h).1, fold_no t q1 fun c h => (hc c h).2, scan_lay _ hr fun _ => hg, h0]
        have e5 : endT (q1.1, [] ++ t) = q1.1 ++ [t] := if_neg hne
        have e6 : endT q1 = q1.1 := by
          unfold endT told2
          rw [if_pos h0]
        rw [e5, e6, List.append_assoc]
        rfl
      cases ht with
      | @sg c hc =>
        have e5 : expd [c] = [32, c, 32] := by
          show List.flatMap _ _ = _
          rw [List.flatMap_cons, List.flatMap_nil, List.append_nil]
          exact if_pos (by
            unfold isSg at hc
            simpa using hc)
        rw [e5]
        have e6 : [32, c, 32].foldl stp q1 = (endT q1 ++ [[c]], []) := by
          rw [List.foldl_cons, List.foldl_cons, List.foldl_cons, List.foldl_nil]
          have f1 : stp q1 32 = (endT q1, []) := if_pos (by decide +kernel)
          have f2 : stp (endT q1, []) c = (endT q1, [c]) := if_neg (by rw [sp_sg hc]; decide)
          rw [f1, f2]
          exact if_pos (by decide +kernel)
        rw [e6, scan_lay _ hr fun z => absurd rfl z]
        show (endT q1 ++ [[c]]) ++ ts = _
        rw [List.append_assoc]
        rfl
      | @wd c r' hc hr' =>
        have hg : sgT (c :: r') = false := by
          cases r' with
          | nil => exact wd_not_sg hc
          | cons d r2 => rfl
        refine wordy _ (by simp) (fun d hd => ?_) hg (e4.resolve_right (by rw [hg]; decide)) hr
        rcases List.mem_cons.mp hd with e | hd
        · rw [e]
          exact ⟨wd_not_sg hc, sp_wd hc⟩
        · exact ⟨wd_not_sg (hr' d hd), sp_wd (hr' d hd)⟩
      | @mk m c r' hm hc hr' =>
        refine wordy _ (by simp) (fun d hd => ?_) rfl (e4.resolve_right (by show ¬ false = true; decide)) hr
        rcases List.mem_cons.mp hd with e | hd
        · rw [e]
          exact ⟨mk_not_sg hm, sp_mk hm⟩
        rcases List.mem_cons.mp hd with e | hd
        · rw [e]
          exact ⟨wd_not_sg hc, sp_wd hc⟩
        · exact ⟨wd_not_sg (hr' d hd), sp_wd (hr' d hd)⟩
theorem words_lay {ts : List Tx} {g : Bool} {x : Tx} (h : LayS g ts x) : Txt.words (apart sgnL (SX.S x)) = ts.map SX.S := by
  rw [apart_S sgnL x (by decide) (by decide), words_S]
  have e := scan_lay ([], []) h fun z => absurd rfl z
  have e' : endT (([], []) : List Tx × Tx) = [] := rfl
  rw [e', List.nil_append] at e
  exact congrArg (List.map SX.S) e
theorem exp_len (l : List Nat) (x : Tx) : (x.flatMap (sepOf l)).length ≤ 3 * x.length := by
  induction x with
  | nil => exact Nat.zero_le _
  | cons a r ih =>
    rw [List.flatMap_cons, List.length_append, List.length_cons]
    have : (sepOf l a).length ≤ 3 := by
      unfold sepOf
      split
      · exact Nat.le_refl 3
      · show 1 ≤ 3
        omega
    omega
theorem apart_len {l : List Nat} {x : Tx} (hn : l.Nodup) (hb : 32 ∉ l) : (apart l (SX.S x)).length ≤ 3 * x.length := by
  rw [apart_S l x hn hb, SX.S_len]
  exact exp_len l x
end K6
/-! K6Y3: the law's words. -/
namespace K6
open PySem PySem.Spec PyProof.Rows L2 Evl
section
variable {P : Program} {w : World} {K : PySem.W.Frag} {mg : Str → Option Value} {base : Heap}
def spWords : Sp := Pr1 fun v H Q => ∃ (a : Tx) (g : Bool) (ts : List Tx), v = vS a ∧ LayS g ts a ∧ a.length ≤ 60000 ∧ ∀ p H2, H p = none → Ex H H2 → H2 p = some (.lst (ts.map vS)) → Q (.ref p) H2
theorem ok__law_words (T : Txt w K mg) : C8.Cal P w K mg base 1 "_law_words" spWords [] := by
  refine T.cal m_def__law_words m_glo__law_words sc__law_words bi__law_words len1 (fun cdv A outer s H vs Q E hr h => ?_)
  obtain ⟨v, rfl, a, g, ts, rfl, hl, hz, q⟩ := h
  refine ⟨_, (pss_cons (ps_apart (i := 0) (j := 1) PassesOwn.never rfl sc__law_words.nd rfl rfl (by decide) rfl rfl (by decide +kernel)) (pss_one (ps_ret (pe_words (pv 0))))), ?_⟩
  have el : (Str.ofString "()[]{},:=").cps.toList = sgnL := by decide +kernel
  refine ⟨SX.S a, rfl, fun k hk => ?_, fun y => ?_⟩
  · rw [el] at hk ⊢
    have hn : (sgnL.take k).Nodup := List.Nodup.sublist (List.take_sublist _ _) (by decide)
    have hb : 32 ∉ sgnL.take k := fun z => absurd (List.mem_of_mem_take z) (by decide)
    have := apart_len (x := a) hn hb
    omega
  · rw [el]
    have := apart_len (l := sgnL) (x := a) (by decide) (by decide)
    refine ⟨.str (apart sgnL (SX.S a)), rfl, ⟨_, rfl⟩, _, rfl, rfl, Nat.le_trans (show _ ≤ 200000 by omega) (by rw [sizeLine_eq]; decide), fun p hp => ?_⟩
    rw [words_lay hl]
    refine q p _ hp (Ex.new hp) ?_
    rw [upd_same]
    exact congrArg (fun l => some (HO.lst l)) (vmap ts).symm
end
end K6
/-! K6Y4: the law spreads a text: blanks drawn between its tokens. -/
namespace K6
open PySem PySem.Spec PyProof.Rows L2 Evl
/-! ### a text that grows by tokens -/
def Pre (ts : List Tx) (b : Tx) : Prop := ∀ us y, LayF (gOf true ts) us y → LayF true (ts ++ us) (b ++ y)
theorem pre_nil {s : Tx} (h : Bls s) : Pre [] s := fun us y hl => Lay.blanks h hl
theorem Pre.tok {ts : List Tx} {b s t : Tx} (h : Pre ts b) (hs : Bls s) (hn : s = [] → gOf true ts = true ∨ frT t = true) (ht : TkOk t) : Pre (ts ++ [t]) (b ++ s ++ t) := fun us y hl => by
  rw [gOf_app] at hl
  have h1 := h (t :: us) (s ++ (t ++ y)) (.cons hs hn ht hl rfl)
  rw [List.append_assoc, List.append_assoc, List.append_assoc]
  exact h1
theorem Pre.fin {ts : List Tx} {b s : Tx} (h : Pre ts b) (hs : Bls s) : LayF true ts (b ++ s) := by
  have := h [] s (.nil hs)
  rw [List.append_nil] at this
  exact this
def inT (L t : Tx) : Bool := !(Builtin.Str.occurrences (SX.S L) (SX.S t) 0 (SX.S L).length 1).isEmpty
theorem in_all {L t : Tx} (h : inT L t = true) : ∀ c ∈ t, c ∈ L := by
  obtain ⟨i, h1, h2⟩ := (StrLaws.found_iff (SX.S L) (SX.S t)).mp h
  rw [StrLaws.subAt_eq] at h2
  have h3 : (L.drop i).take (SX.S t).length = t := by simpa using h2
  intro c hc
  rw [← h3] at hc
  exact List.mem_of_mem_drop (List.mem_of_mem_take hc)
theorem sg_of {t : Tx} (ht : TkOk t) (h : ∀ c ∈ t, c ∈ sgnL) : sgT t = true := by
  cases ht with
  | sg hc => exact hc
  | @wd c r hc _ =>
    have h1 := wd_not_sg hc
    have h2 : isSg c = true := decide_eq_true (h c List.mem_cons_self)
    rw [h1] at h2
    cases h2
  | @mk m c r hm _ _ =>
    have h1 := mk_not_sg hm
    have h2 : isSg m = true := decide_eq_true (h m List.mem_cons_self)
    rw [h1] at h2
    cases h2
theorem fr_of {c : Nat} {r : Tx} (h : c ∈ sgnL ++ [36, 64]) : frT (c :: r) = true := by
  show (isSg c || decide (c ∈ [36, 64])) = true
  rcases List.mem_append.mp h with h | h
  · rw [show isSg c = true from decide_eq_true h, Bool.true_or]
  · rw [decide_eq_true h, Bool.or_true]
theorem gOf_last : ∀ (ts : List Tx) (g : Bool) (t : Tx), gOf g (ts ++ [t]) = sgT t := fun ts g t => by
  rw [gOf_app]
  rfl
theorem lay_sum : ∀ {ts : List Tx} {near : Tx → Bool} {g : Bool} {x : Tx}, Lay near g ts x → (ts.map List.length).sum ≤ x.length ∧ ts.length ≤ x.length
  | [], _, _, _, h => ⟨Nat.zero_le _, Nat.zero_le _⟩
  | t :: ts, _, _, x, h => by
    cases h with
    | @cons _ s _ r _ _ hs hn ht hr e =>
      subst e
      have ih := lay_sum hr
      have h1 : t.length ≠ 0 := fun z => ht.ne (List.eq_nil_of_length_eq_zero z)
      rw [List.map_cons, List.sum_cons, List.length_append, List.length_append, List.length_cons]
      omega
theorem take_sum (l : List Nat) (i : Nat) : (l.take i).sum ≤ l.sum := by
  have h := congrArg List.sum (List.take_append_drop i l)
  rw [List.sum_append] at h
  omega
end K6
/-! K6Y5: the law spreads a text: the walk. -/
namespace K6
open PySem PySem.Spec PyProof.Rows L2 Evl
theorem bls_all {s : Tx} (h : s.all isBl = true) : Bls s := fun c hc => List.all_eq_true.mp h c hc
def GapP (near : Bool) (x : PyData) : Prop := ∃ s : Tx, x = tx s ∧ Bls s ∧ s.length ≤ 3 ∧ (near = false → s ≠ [])
theorem gap_of {near : Bool} {s : Tx} (h : s.all isBl = true) (hl : s.length ≤ 3) (hn : near = true ∨ s ≠ []) : GapP near (tx s) := ⟨s, rfl, bls_all h, hl, fun e => hn.resolve_left (by rw [e]; decide)⟩
theorem mem_sum {ts : List Tx} {t : Tx} (h : t ∈ ts) : t.length ≤ (ts.map List.length).sum := by
  induction ts with
  | nil => cases h
  | cons a r ih =>
    rw [List.map_cons, List.sum_cons]
    rcases List.mem_cons.mp h with h | h
    · rw [h]
      omega
    · have := ih h
      omega
section
variable {d cs : Addr} {σ : L2.St} {H H0 : Hp} {ta te t1 t2 : TE} {tt : TT} {tr1 tr2 : TA} {P : PyData → Prop} {E : XK} {u : TS} {D : Ends} {K : PySem.W.Frag}
theorem dd_ofIf {n1 n2 : Nat} {b : Bool} (ha : ∀ H, Ev ta σ H (.ref d)) (ht : ∀ H, EvT tt σ H b) (h1 : b = true → DdA d cs tr1 σ H0 (AllP P n1)) (h2 : b = false → DdA d cs tr2 σ H0 (AllP P n2)) (hn : 0 < n1 ∧ n1 ≤ 1000 ∧ 0 < n2 ∧ n2 ≤ 1000) :
    Dd d cs (tCall spOf [] E (tCons ta (tCons (tIf tt (tLst tr1) (tLst tr2)) tNil))) σ H0 P := fun H1 k1 hd1 Q q => by
  refine ha H1 H1 (Ex.refl H1) _ fun H2 e2 => ?_
  refine ht H2 H2 (Ex.refl H2) _ fun H3 e3 => ?_
  have fin : ∀ (tr : TA) (n : Nat), 0 < n → n ≤ 1000 → DdA d cs tr σ H0 (AllP P n) → tLst tr σ H3 (fun v H' => spOf [.ref d, v] H' Q E) := fun tr n h0 hz h => by
    refine h H3 (k1.trans (KD.ex (e2.trans e3))) (hd1.ex (e2.trans e3)) _ fun vs H4 ds k4 h4 hds ⟨p1, p2⟩ => ⟨sz_of (by
      rw [hds.length]
      omega), fun L hL => ?_⟩
    have hne := h4.ne hL
    have e4 : Ex H4 (upd H4 L (.lst vs)) := Ex.new hL
    refine ⟨_, _, rfl, d, cs, L, vs, ds, rfl, rfl, upd_same, hds.kt (KT.ex e4), (fun z => ?_), by omega, hne.1, hne.2, h4.ex e4, fun y H5 x hx k5 h5 hd => q y H5 x ((KD.ex (e2.trans e3)).trans (k4.trans ((KD.ex e4).trans k5))) h5 hd (p2 x hx)⟩
    rw [z] at p1
    simp at p1
    omega
  cases b with
  | true => exact fin tr1 n1 hn.1 hn.2.1 (h1 rfl)
  | false => exact fin tr2 n2 hn.2.2.1 hn.2.2.2 (h2 rfl)
theorem q_asgCat {i : Nat} {b : Tx} {near : Bool} (hi : σ[i]? = some (some (vS b))) (hb : b.length ≤ 59990) (hd : Deal H d cs) (h : Dd d cs te σ H (GapP near)) (k : ∀ s H2, Bls s → s.length ≤ 3 → (near = false → s ≠ []) → KD d cs H H2 → Deal H2 d cs → u D (σ.set i (some (vS (b ++ s)))) H2) :
    tSeq (tAsg (tOp rCatS (tVar i) te) (gName i)) u D σ H := by
  refine ⟨_, hi, h H (KD.refl d cs H) hd _ fun v H2 x k2 h2 hdv ⟨s, ex, h3, h4, h5⟩ => ?_⟩
  subst ex
  obtain rfl := hdv.strE
  refine ⟨_, _, rfl, rfl, ?_, ?_⟩
  · rw [len_S, len_S, sizeLine_eq]
    omega
  · rw [SX.S_cat]
    exact k s H2 h3 h4 h5 k2 h2
end
section
variable {P : Program} {w : World} {K : PySem.W.Frag} {mg : Str → Option Value} {base : Heap}
def spSpread : Sp := Pr2 fun v l H Q => ∃ (d cs p : Addr) (ts : List Tx), v = .ref d ∧ l = .ref p ∧ Deal H d cs ∧ H p = some (.lst (ts.map vS)) ∧ p ≠ d ∧ p ≠ cs ∧ (∀ t ∈ ts, TkOk t) ∧ (ts.map List.length).sum ≤ 14000 ∧ ts.length ≤ 14000 ∧
  ∀ r pl b H2, KD d cs H H2 → Deal H2 d cs → H2 r = some (.tup [vS b, pl]) → LayF true ts b → b.length ≤ 60000 → Q (.ref r) H2
theorem ok__law_spread (T : Txt w K mg) (c__law_of : C8.Cal P w K mg base 2 "_law_of" spOf []) : C8.Cal P w K mg base 3 "_law_spread" spSpread [] := by
  refine T.cal m_def__law_spread m_glo__law_spread sc__law_spread bi__law_spread len2 (fun cdv A outer s H vs Q E hr h => ?_)
  obtain ⟨v, v2, rfl, d, cs, p, ts, rfl, rfl, hd, hp, np1, np2, hok, hsum, hlen, q⟩ := h
  refine ⟨_, (pss_cons (ps_par (i := 2) (j := 3) (by rfl) sc__law_spread.nd rfl rfl (by decide) rfl rfl (pa_cons (C8.pe_c c__law_of hr (by decide) (by rfl) (pa_cons (pv 0) (pa_cons (pe_lst (pa_cons pe_str (pa_cons pe_str (pa_cons pe_str (pa_cons pe_str pa_nil))))) pa_nil))) (pa_cons (pe_lst pa_nil) pa_nil)) (by rfl))
  (pss_cons (ps_for PassesOwn.never rfl (pi_enum (by rfl) (T.free m_free_enumerate) (pa_cons (pv 1) pa_nil)) (pg_tup rfl (pgs_cons (pg_name (i := 4) sc__law_spread.nd rfl (Or.inl rfl)) (pgs_cons (pg_name (i := 5) sc__law_spread.nd rfl (Or.inl rfl)) pgs_nil))) (pss_cons (ps_set (i := 6) sc__law_spread.nd rfl (Or.inl rfl) (pe_or (pe_cmpR op_eq (pv 4) pe_int (nomark _)) (pe_or (pe_cmpR op_inS (pe_ix ix_str (pv 5) pe_int (fun _ _ => rfl)) pe_str (by rfl)) (pe_one (pe_cmpR op_in_str (pe_ix ix_list (pv 1) (pe_op op_sub (pv 4) pe_int) (fun _ _ => rfl)) pe_str (by rfl))))))
  (pss_cons (ps_set (i := 2) sc__law_spread.nd rfl (Or.inl rfl) (pe_op op_cats (pv 2) (C8.pe_c c__law_of hr (by decide) (by rfl) (pa_cons (pv 0) (pa_cons (pe_ifExp (pt_val (pv 6)) (pe_lst (pa_cons pe_str (pa_cons pe_str (pa_cons pe_str (pa_cons pe_str (pa_cons pe_str pa_nil)))))) (pe_lst (pa_cons pe_str (pa_cons pe_str (pa_cons pe_str (pa_cons pe_str pa_nil)))))) pa_nil)))))
  (pss_cons (ps_expr (pe_bm PySem.F.plainAttrs_list PySem.F.slot_list_append PySem.F.type_list_append mt_append (pv 3) (pa_cons (pe_callB call_len_str (by rfl) (T.free m_free_len) PySem.boot_len (pa_cons (pv 2) pa_nil)) pa_nil)))
  (pss_one (ps_set (i := 2) sc__law_spread.nd rfl (Or.inl rfl) (pe_op op_cats (pv 2) (pv 5))))))))
  (pss_one (ps_ret (pe_tup (pa_cons (pe_op op_cats (pv 2) (C8.pe_c c__law_of hr (by decide) (by rfl) (pa_cons (pv 0) (pa_cons (pe_lst (pa_cons pe_str (pa_cons pe_str (pa_cons pe_str (pa_cons pe_str pa_nil))))) pa_nil)))) (pa_cons (pv 3) pa_nil))))))), ?_⟩
  have e0 : (Str.ofString "") = SX.S [] := by decide +kernel
  have e1 : (Str.ofString " ") = SX.S [32] := by decide +kernel
  have e2 : (Str.ofString "\n") = SX.S [10] := by decide +kernel
  have e3 : (Str.ofString "  ") = SX.S [32, 32] := by decide +kernel
  have e4 : (Str.ofString " \n ") = SX.S [32, 10, 32] := by decide +kernel
  have eS : (Str.ofString "()[]{},:=") = SX.S sgnL := by decide +kernel
  have eF : (Str.ofString "()[]{},:=$@") = SX.S (sgnL ++ [36, 64]) := by decide +kernel
  refine (dd_ofA (d := d) (cs := cs) (n := 4) (P := GapP true) (fun _ => ev_var rfl) (dda1 (dd_s e0 (gap_of rfl (by decide) (.inl rfl))) (dda1 (dd_s e0 (gap_of rfl (by decide) (.inl rfl))) (dda1 (dd_s e1 (gap_of rfl (by decide) (.inl rfl))) (dda1 (dd_s e2 (gap_of rfl (by decide) (.inl rfl))) dda0)))) (by decide)) H (KD.refl d cs H) hd _ fun v1 H1 x1 k1 h1 hd1 ⟨b0, ex, hb0, hl0, _⟩ => ?_
  subst ex
  obtain rfl := hd1.strE
  refine ⟨sz_of (Nat.zero_le _), fun L hL => ⟨_, _, rfl, ?_⟩⟩
  have nL := h1.ne hL
  have hp1 := k1.other p _ np1 np2 hp
  have npL : p ≠ L := fun e => by
    rw [← e, hp1] at hL
    cases hL
  have eL : Ex H1 (upd H1 L (.lst [])) := Ex.new hL
  refine ⟨_, rfl, p, ts.map vS, rfl, sq_of (eL _ _ hp1), for_it walk_enum (fun i σ' H' => ∃ b pl y4 y5 y6, KD d cs H H' ∧ Deal H' d cs ∧ H' p = some (.lst (ts.map vS)) ∧ H' L = some (.lst pl) ∧ pl.length = i ∧ Pre (ts.take i) b ∧ b.length ≤ ((ts.map List.length).take i).sum + 3 * i + 3 ∧ σ' = [some (.ref d), some (.ref p), some (vS b), some (.ref L), y4, y5, y6])
    ⟨b0, [], none, none, none, k1.trans (KD.ex eL), h1.ex eL, eL _ _ hp1, upd_same, rfl, pre_nil hb0, by rw [List.take_zero]; show b0.length ≤ 0 + 0 + 3; omega, rfl⟩
    (fun i σ' H' _ ⟨b, pl, y4, y5, y6, g1, g2, g3, g4⟩ => sq_of g3) (fun i x σ' H' H2 hi ⟨b, pl, y4, y5, y6, k, h, hpp, hLL, hpl, hpre, hbl, eσ⟩ ⟨Tp, xi, xt, exx, hTp, eH2, exi, ext⟩ => ?_) fun σ' H' ⟨b, pl, y4, y5, y6, k, h, hpp, hLL, hpl, hpre, hbl, eσ⟩ => ?_⟩
  · subst eσ exx eH2
    obtain rfl := Option.some.inj exi
    have ext' : (ts.map vS)[i]? = some xt := ext
    rw [List.getElem?_map] at ext'
    obtain ⟨t, ht, rfl⟩ := Option.map_eq_some_iff.mp ext'
    rw [List.length_map] at hi
    have htk := hok t (List.mem_of_getElem? ht)
    have htl := mem_sum (List.mem_of_getElem? ht)
    obtain ⟨c, tr, etk⟩ : ∃ c tr, t = c :: tr := by
      cases ht2 : t with
      | nil => exact (htk.ne ht2).elim
      | cons c tr => exact ⟨c, tr, rfl⟩
    have eT : Ex H' (upd H' Tp (.tup [.int (i : Int), vS t])) := Ex.new hTp
    have etake : ts.take (i + 1) = ts.take i ++ [t] := by
      rw [List.take_add_one, ht]
      rfl
    have esum : ((ts.map List.length).take (i + 1)).sum = ((ts.map List.length).take i).sum + t.length := by
      rw [List.take_add_one, List.getElem?_map, ht, List.sum_append]
      show _ + (t.length + 0) = _
      omega
    have htot := take_sum (ts.map List.length) (i + 1)
    refine ⟨Tp, _, rfl, SqT.of upd_same, rfl, _, _, rfl, _, _, rfl, rfl, ?_⟩
    have hnear : ∃ near : Bool, (near = true → gOf true (ts.take i) = true ∨ frT t = true) ∧ Ev (tOrV (tOp rEq (tVar 4) (tC (.int 0))) (tOrV (tOp rInS (tOp rIxS (tVar 5) (tC (.int 0))) (tC (.str (Str.ofString "()[]{},:=$@")))) (tOp (fun x y H Q => ∃ i j, x = V.str i ∧ y = V.str j ∧ Q (.bl (!(Builtin.Str.occurrences j i 0 j.length 1).isEmpty)) H) (tOp (rIxL K) (tVar 1) (tOp (rI0 fun i j => .int (i - j)) (tVar 4) (tC (.int 1)))) (tC (.str (Str.ofString "()[]{},:="))))))
        [some (.ref d), some (.ref p), some (vS b), some (.ref L), some (.int (i : Int)), some (vS t), y6] (upd H' Tp (.tup [.int (i : Int), vS t])) (.bl near) := by
      have two := ev_inC (L := sgnL ++ [36, 64]) (c := c) (ev_chr (σ := [some (.ref d), some (.ref p), some (vS b), some (.ref L), some (.int (i : Int)), some (vS t), y6]) (H := upd H' Tp (.tup [.int (i : Int), vS t])) (ta := tVar 5) (p := []) (i := 0) (ev_var rfl) (by omega) ev_c etk rfl) (ev_lit eF)
      have one : Ev (tOp rEq (tVar 4) (tC (.int 0))) [some (.ref d), some (.ref p), some (vS b), some (.ref L), some (.int (i : Int)), some (vS t), y6] (upd H' Tp (.tup [.int (i : Int), vS t])) (.bl (decide (i = 0))) :=
        ev_is (ev_op (ev_var rfl) ev_c (rv_eq rfl)) (congrArg V.bl (decide_eq_decide.mpr ⟨fun z => by
          have z' : (i : Int) = 0 := V.int.inj z
          omega, fun z => by rw [z]; rfl⟩))
      rcases Nat.eq_zero_or_pos i with hz | hz
      · exact ⟨true, fun _ => .inl (by rw [hz]; rfl), ev_is (ev_orV (b := true) (ev_is one (congrArg V.bl (decide_eq_true hz))) fun e => by cases e) rfl⟩
      · obtain ⟨tp, htp⟩ : ∃ tp, ts[i - 1]? = some tp := ⟨ts[i - 1]'(by omega), List.getElem?_eq_getElem _⟩
        have three : Ev (tOp (fun x y H Q => ∃ i j, x = V.str i ∧ y = V.str j ∧ Q (.bl (!(Builtin.Str.occurrences j i 0 j.length 1).isEmpty)) H) (tOp (rIxL K) (tVar 1) (tOp (rI0 fun i j => .int (i - j)) (tVar 4) (tC (.int 1)))) (tC (.str (Str.ofString "()[]{},:="))))
            [some (.ref d), some (.ref p), some (vS b), some (.ref L), some (.int (i : Int)), some (vS t), y6] (upd H' Tp (.tup [.int (i : Int), vS t])) (.bl (inT sgnL tp)) :=
          ev_op (ev_op (ev_var rfl) (ev_op (ev_var rfl) ev_c rv_I0) (rv_ixL (sq_of (eT _ _ hpp)) (i := (i : Int) - 1) (by
            rw [show (i : Int) - 1 = ((i - 1 : Nat) : Int) by omega]
            exact atI_nat (by rw [List.getElem?_map, htp]; rfl)))) (ev_lit eS) (rv_val fun H1 e Q q => ⟨_, _, rfl, rfl, q⟩)
        refine ⟨_, fun hn => ?_, ev_orV (a := false) (ev_is one (congrArg V.bl (decide_eq_false (by omega)))) fun _ => ev_orV two fun _ => three⟩
        rw [Bool.false_or, Bool.or_eq_true] at hn
        rcases hn with hn | hn
        · exact .inr (by rw [etk]; exact fr_of (of_decide_eq_true hn))
        · refine .inl ?_
          have e : ts.take i = ts.take (i - 1) ++ [tp] := by
            have := List.take_add_one (l := ts) (i := i - 1)
            rw [show i - 1 + 1 = i by omega, htp] at this
            exact this
          rw [e, gOf_last]
          exact sg_of (hok tp (List.mem_of_getElem? htp)) (in_all hn)
    obtain ⟨near, hnr, hev⟩ := hnear
    refine q_asg hev fun G1 f1 => ?_
    have k1' := k.trans (KD.ex (eT.trans f1))
    have h1' := h.ex (eT.trans f1)
    have hLL1 := f1 _ _ (eT _ _ hLL)
    refine q_asgCat (near := near) rfl (by omega) h1' (dd_ofIf (b := near) (n1 := 5) (n2 := 4) (ta := tVar 0) (fun _ => ev_var rfl) (fun _ => et_B (ev_var rfl))
      (fun hb => dda1 (dd_s e0 (gap_of rfl (by decide) (.inl hb))) (dda1 (dd_s e1 (gap_of rfl (by decide) (.inl hb))) (dda1 (dd_s e0 (gap_of rfl (by decide) (.inl hb))) (dda1 (dd_s e3 (gap_of rfl (by decide) (.inl hb))) (dda1 (dd_s e2 (gap_of rfl (by decide) (.inl hb))) dda0)))))
      (fun hb => dda1 (dd_s e1 (gap_of rfl (by decide) (.inr (by decide)))) (dda1 (dd_s e1 (gap_of rfl (by decide) (.inr (by decide)))) (dda1 (dd_s e2 (gap_of rfl (by decide) (.inr (by decide)))) (dda1 (dd_s e4 (gap_of rfl (by decide) (.inr (by decide)))) dda0)))) (by decide)) fun s G2 hs1 hs2 hs3 k2 h2 => ?_
    have hLL2 := k2.other L _ nL.1 nL.2 hLL1
    have hbs : (b ++ s).length ≤ 60000 := by
      rw [List.length_append]
      omega
    refine q_app (l := L) hLL2 (ev_var rfl) (ev_lenS (ev_var rfl) hbs) (by omega) fun G3 f3 => ?_
    have k13 := (k1'.trans k2).trans (KD.ex f3)
    refine s_asg (evs_add (evs_of (a := b ++ s) (ev_var rfl)) (evs_of (a := t) (ev_var rfl)) (by rw [List.length_append, List.length_append]; omega)) fun G4 f4 => ?_
    have hLn : H L = none := k1.new _ hL
    refine ⟨b ++ s ++ t, pl ++ [.int ((b ++ s).length : Int)], _, _, _, (k13.mutL hLn (f3 _ _ hLL2)).trans (KD.ex f4), ((h2.ex f3).updL nL).ex f4, f4 _ _ (by
      rw [upd_ne npL]
      exact f3 _ _ (k2.other p _ np1 np2 (f1 _ _ (eT _ _ hpp)))), f4 _ _ upd_same, by rw [List.length_append, hpl]; rfl, ?_, ?_, rfl⟩
    · rw [etake]
      refine hpre.tok hs1 (fun z => hnr ?_) htk
      cases near with
      | true => rfl
      | false => exact (hs3 rfl z).elim
    · rw [esum, List.length_append, List.length_append]
      omega
  · subst eσ
    rw [List.length_map] at hpl hpre hbl
    rw [List.take_length] at hpre
    have htot := take_sum (ts.map List.length) ts.length
    refine ⟨_, rfl, (dd_ofA (d := d) (cs := cs) (n := 4) (P := GapP true) (ta := tVar 0) (fun _ => ev_var rfl) (dda1 (dd_s e0 (gap_of rfl (by decide) (.inl rfl))) (dda1 (dd_s e0 (gap_of rfl (by decide) (.inl rfl))) (dda1 (dd_s e2 (gap_of rfl (by decide) (.inl rfl))) (dda1 (dd_s e3 (gap_of rfl (by decide) (.inl rfl))) dda0)))) (by decide)) H' (KD.refl d cs H') h _ fun v9 H9 x9 k9 h9 hd9 ⟨s, ex, hs1, hs2, _⟩ => ?_⟩
    subst ex
    obtain rfl := hd9.strE
    have hz : (b ++ s).length ≤ 60000 := by
      rw [List.length_append]
      omega
    refine ⟨_, _, rfl, rfl, ?_, ?_⟩
    · rw [len_S, len_S, sizeLine_eq]
      omega
    · rw [SX.S_cat]
      refine ⟨_, rfl, sz_of (by show 2 ≤ 100000; omega), fun r hr => q r (.ref L) (b ++ s) _ ((k.trans k9).trans (KD.ex (Ex.new hr))) (h9.ex (Ex.new hr)) upd_same (hpre.fin hs1) hz⟩
end
end K6
/-! K6Y6: the law's refusal, of a lambda that does not raise. -/
namespace K6
open PySem PySem.Spec PyProof.Rows L2 Evl
/-- the lambda's value is dropped, None is given -/
def TTr : (XK → Hp → VK → Prop) → Hp → VK → Prop := fun tl H Q => tl (fun _ _ _ => False) H fun _ H' => Q .non H'
theorem refusal_gives {X : Cx} {Ng : List Str} {x a q : Str} {sg : Scope} {g : Addr} {cdg : Value} {j : Nat} {p1 p2 p3 p4 p5 p6 : Pos} {h0 : ExceptHandler} {hs : List ExceptHandler} (hst : ∀ f : Addr, (L2.start Ng [V.ref f])[0]? = some (some (V.ref f))) :
    LamX.GivesTo X Ng x sg g cdg [.Try [.Expr (.Call (.Name a p1) [] [] p2) p3] (h0 :: hs) [] [] p4, .Return (some (.Constant .none j p5)) p6] a q TTr := by
  intro f c' s H Q tl act hc h
  refine ⟨_, pss_cons (ps_try_thru0 (pss_one (ps_expr (act (fun _ _ _ _ => False) _ (fun _ _ => False) (fun _ _ _ => False) p1 p2 LamX.takes0 (fun _ _ _ _ z => z))))) (pss_one (ps_ret pe_non)), ?_⟩
  exact ⟨hst f, hc, h⟩
end K6
/-! K6Y7: how long a module's text is, closer. -/
namespace K6
open PySem PySem.Spec PyProof.Rows L2 Evl
def cst (l : List Tx) : Nat := (l.map List.length).sum + l.length
theorem cst_cons (x : Tx) (l : List Tx) : cst (x :: l) = x.length + 1 + cst l := by
  unfold cst
  rw [List.map_cons, List.sum_cons, List.length_cons]
  omega
theorem cst_app (l r : List Tx) : cst (l ++ r) = cst l + cst r := by
  unfold cst
  rw [List.map_append, List.sum_append, List.length_append]
  omega
theorem cst_flat {α : Type} {f : α → List Tx} {k : Nat} : ∀ {l : List α}, (∀ a ∈ l, cst (f a) ≤ k) → cst (l.flatMap f) ≤ k * l.length
  | [], _ => Nat.zero_le _
  | a :: l, h => by
    have h1 := h a List.mem_cons_self
    have h2 := cst_flat fun b hb => h b (List.mem_cons_of_mem _ hb)
    rw [List.flatMap_cons, cst_app, List.length_cons, Nat.mul_add]
    omega
theorem cst_map {α : Type} {f : α → Tx} {k : Nat} : ∀ {l : List α}, (∀ a ∈ l, (f a).length ≤ k) → cst (l.map f) ≤ (k + 1) * l.length
  | [], _ => Nat.zero_le _
  | a :: l, h => by
    have h1 := h a List.mem_cons_self
    have h2 := cst_map fun b hb => h b (List.mem_cons_of_mem _ hb)
    rw [List.map_cons, cst_cons, List.length_cons, Nat.mul_add]
    omega
theorem blk_cst {b : Blk} (h : BlkOk' b) : cst b.lines ≤ 1200 := by
  have h1 := h.olen
  have h2 := num_len h.lab
  have h3 := cj_le (tx := parTxt) (k := 25) (n := 2) (fun p hp => par_len (h.pars p hp)) h.plen
  have h4 := cst_map (f := fun o : Op => 32 :: 32 :: o.txt) (k := 182) (l := b.ops) fun o ho => by
    have := op_len (h.ops o ho)
    simp only [List.length_cons]
    omega
  have h5 := end_len h.en
  unfold Blk.lines
  rw [cst_app, cst_cons, cst_cons]
  have h6 : cst [] = 0 := rfl
  have h7 : 183 * b.ops.length ≤ 183 * 4 := Nat.mul_le_mul_left _ (by omega)
  rw [h6]
  simp only [List.length_append, List.length_cons, List.length_nil]
  omega
theorem fn_cst {f : Fn} (h : FnOk' f) : cst f.lines ≤ 3700 := by
  have h1 := fnHead_len h
  have h2 := cst_flat (f := Blk.lines) (k := 1200) (l := f.blks) fun b hb => blk_cst (h.blks b hb)
  have h3 := h.blen
  have h4 : 1200 * f.blks.length ≤ 1200 * 3 := Nat.mul_le_mul_left _ (by omega)
  have e : f.lines = fnHead f :: f.blks.flatMap Blk.lines ++ [[125]] := rfl
  rw [e, cst_app, cst_cons, cst_cons]
  have h6 : cst [] = 0 := rfl
  rw [h6]
  simp only [List.length_cons, List.length_nil]
  omega
theorem md_len2 {m : Md} (h : MdOk m) : m.txt.length ≤ 14000 := by
  have h1 : (TL.joinL [10] m.lines).length ≤ (m.lines.map List.length).sum + 1 * m.lines.length := joinL_len [10] m.lines
  have h2 := cst_map (f := Gb.txt) (k := 150) (l := m.gs) fun g hg => gb_len (h.gs g hg)
  have h3 := cst_flat (f := Fn.lines) (k := 3700) (l := m.fs) fun f hf => fn_cst (h.fs f hf)
  have h4 := h.glen
  have h5 := h.flen
  have h6 : 151 * m.gs.length ≤ 151 * 2 := Nat.mul_le_mul_left _ (by omega)
  have h7 : 3700 * m.fs.length ≤ 3700 * 3 := Nat.mul_le_mul_left _ (by omega)
  have e : cst m.lines = cst (m.gs.map Gb.txt) + cst (m.fs.flatMap Fn.lines) := cst_app _ _
  unfold cst at e h2 h3
  show (TL.joinL [10] m.lines).length ≤ _
  omega
end K6
/-! K6Z1: the tokens of a module are read in one way only. -/
namespace K6
open PySem PySem.Spec L2
def Rd {α : Type} (tk : α → List Tx) (ok : α → Prop) : Prop := ∀ (a b : α) (r r' : List Tx), ok a → ok b → tk a ++ r = tk b ++ r' → a = b ∧ r = r'
section
variable {α : Type} {f : α → List Tx} {ok : α → Prop} {op cl : Tx}
theorem rd_one {g : α → Tx} (h : ∀ a b, ok a → ok b → g a = g b → a = b) : Rd (fun a => [g a]) ok := fun a b r r' ha hb e => ⟨h a b ha hb (List.cons.inj e).1, (List.cons.inj e).2⟩
theorem rd_tail (h : Rd f ok) (hc : cl ≠ [44]) : ∀ (l m : List α) (r r' : List Tx), (∀ a ∈ l, ok a) → (∀ a ∈ m, ok a) → tail f cl l ++ r = tail f cl m ++ r' → l = m ∧ r = r'
  | [], [], _, _, _, _, e => ⟨rfl, (List.cons.inj e).2⟩
  | [], b :: m, _, _, _, _, e => absurd (List.cons.inj e).1 hc
  | a :: l, [], _, _, _, _, e => absurd (List.cons.inj e).1.symm hc
  | a :: l, b :: m, r, r', ha, hb, e => by
    have e1 : f a ++ tail f cl l ++ r = f b ++ tail f cl m ++ r' := (List.cons.inj e).2
    rw [List.append_assoc, List.append_assoc] at e1
    obtain ⟨e2, e3⟩ := h a b _ _ (ha a List.mem_cons_self) (hb b List.mem_cons_self) e1
    obtain ⟨e4, e5⟩ := rd_tail h hc l m r r' (fun x hx => ha x (List.mem_cons_of_mem _ hx)) (fun x hx => hb x (List.mem_cons_of_mem _ hx)) e3
    exact ⟨by rw [e2, e4], e5⟩
theorem rd_lst (h : Rd f ok) (hc : cl ≠ [44]) (hf : ∀ a, ok a → ∃ t ts, f a = t :: ts ∧ t ≠ cl) : Rd (lst f op cl) fun l => ∀ a ∈ l, ok a
  | [], [], _, _, _, _, e => ⟨rfl, (List.cons.inj (List.cons.inj e).2).2⟩
  | [], b :: m, r, r', _, hb, e => by
    obtain ⟨t, ts, ht, hn⟩ := hf b (hb b List.mem_cons_self)
    have e1 : cl :: r = f b ++ tail f cl m ++ r' := (List.cons.inj e).2
    rw [ht] at e1
    exact absurd (List.cons.inj e1).1.symm hn
  | a :: l, [], r, r', ha, _, e => by
    obtain ⟨t, ts, ht, hn⟩ := hf a (ha a List.mem_cons_self)
    have e1 : f a ++ tail f cl l ++ r = cl :: r' := (List.cons.inj e).2
    rw [ht] at e1
    exact absurd (List.cons.inj e1).1 hn
  | a :: l, b :: m, r, r', ha, hb, e => by
    have e1 : f a ++ tail f cl l ++ r = f b ++ tail f cl m ++ r' := (List.cons.inj e).2
    rw [List.append_assoc, List.append_assoc] at e1
    obtain ⟨e2, e3⟩ := h a b _ _ (ha a List.mem_cons_self) (hb b List.mem_cons_self) e1
    obtain ⟨e4, e5⟩ := rd_tail h hc l m r r' (fun x hx => ha x (List.mem_cons_of_mem _ hx)) (fun x hx => hb x (List.mem_cons_of_mem _ hx)) e3
    exact ⟨by rw [e2, e4], e5⟩
end
theorem num_inj {m n : Nat} (h : num m = num n) : m = n := TL.numL_inj h
theorem ty_inj {s t : Ty} (h : s.txt = t.txt) : s = t := by
  cases s <;> cases t
  · rw [num_inj (List.cons.inj h).2]
  · exact absurd (List.cons.inj h).1 (by decide)
  · exact absurd (List.cons.inj h).1 (by decide)
  · rfl
theorem num_h1 {n : Nat} {c : Nat} {r : Tx} (h : num n = c :: r) : 48 ≤ c ∧ c ≤ 57 := by
  obtain ⟨d, x, e, h1, h2⟩ := num_fst (n := n)
  rw [e] at h
  rw [← (List.cons.inj h).1]
  exact ⟨h1, h2⟩
theorem opd_inj {a b : Opd} (h : a.txt = b.txt) : a = b := by
  cases a with
  | v i => cases b with
    | v j => rw [num_inj (List.cons.inj h).2]
    | n j => exact absurd (num_h1 (show num j = 36 :: num i from h.symm)).1 (by decide)
    | g x => exact absurd (List.cons.inj h).1 (by decide)
  | n i => cases b with
    | v j => exact absurd (num_h1 (show num i = 36 :: num j from h)).1 (by decide)
    | n j => rw [num_inj (show num i = num j from h)]
    | g x => exact absurd (num_h1 (show num i = 64 :: x from h)).2 (by decide)
  | g x => cases b with
    | v j => exact absurd (List.cons.inj h).1 (by decide)
    | n j => exact absurd (num_h1 (show num j = 64 :: x from h.symm)).2 (by decide)
    | g y => rw [(List.cons.inj h).2]
theorem opd_h1 {a : Opd} {c : Nat} (h : a.txt = [c]) : (48 ≤ c ∧ c ≤ 57) ∨ (c = 36 ∨ c = 64) := by
  cases a with
  | v i => exact .inr (.inl (List.cons.inj h).1.symm)
  | n i => exact .inl (num_h1 h)
  | g x => exact .inr (.inr (List.cons.inj h).1.symm)
theorem rd_args : Rd argsTk fun _ => True := fun l m r r' _ _ e => rd_lst (f := fun o : Opd => [o.tk]) (ok := fun _ => True) (op := [40]) (cl := [41]) (rd_one fun a b _ _ h => opd_inj h) (by decide) (fun a _ => ⟨_, _, rfl, fun z => by
  rcases opd_h1 (a := a) z with ⟨h, _⟩ | h | h <;> omega⟩) l m r r' (fun _ _ => trivial) (fun _ _ => trivial) e
theorem rd_tgt : Rd Tgt.tks fun _ => True := fun a b r r' _ _ e => by
  cases a with
  | mk la aa => cases b with
    | mk lb ab =>
      have e1 : labTk la = labTk lb := (List.cons.inj e).1
      obtain ⟨e2, e3⟩ := rd_args aa ab r r' trivial trivial (List.cons.inj e).2
      exact ⟨by rw [e2, num_inj (List.cons.inj e1).2], e3⟩
theorem rd_comT : ∀ (l m : List Opd) (r r' : List Tx), l.length = m.length → (l.flatMap fun b => [[44], b.tk]) ++ r = (m.flatMap fun b => [[44], b.tk]) ++ r' → l = m ∧ r = r'
  | [], [], _, _, _, e => ⟨rfl, e⟩
  | [], _ :: _, _, _, h, _ => by cases h
  | _ :: _, [], _, _, h, _ => by cases h
  | a :: l, b :: m, r, r', h, e => by
    have e1 := (List.cons.inj (List.cons.inj e).2)
    obtain ⟨e2, e3⟩ := rd_comT l m r r' (Nat.succ.inj h) e1.2
    exact ⟨by rw [opd_inj e1.1, e2], e3⟩
theorem rd_com : ∀ (l m : List Opd) (r r' : List Tx), l.length = m.length → com l ++ r = com m ++ r' → l = m ∧ r = r'
  | [], [], _, _, _, e => ⟨rfl, e⟩
  | [], _ :: _, _, _, h, _ => by cases h
  | _ :: _, [], _, _, h, _ => by cases h
  | a :: l, b :: m, r, r', h, e => by
    have e1 := List.cons.inj e
    obtain ⟨e2, e3⟩ := rd_comT l m r r' (Nat.succ.inj h) e1.2
    exact ⟨by rw [opd_inj e1.1, e2], e3⟩
end K6
/-! K6Z2: ops, endings, blocks, functions, modules are read in one way only. -/
namespace K6
open PySem PySem.Spec L2
def clsT (t : Tx) : Nat := if t ∈ opsL then 0 else if t = kCmp then 1 else if t = kSel then 2 else if t ∈ castL then 3 else if t = kAlloca then 4 else if t ∈ [kAt, kLoad, kStore, kPrint, kInput] then 5 else if t = kCall then 6 else if t = kJump then 7 else if t = kBranch then 8 else if t = kRet then 9 else if t = kStop then 10 else 11
def Op.ix : Op → Nat
  | .bin _ _ _ _ _ => 0
  | .cmp _ _ _ _ _ => 1
  | .sel _ _ _ _ _ => 2
  | .cast _ _ _ _ _ => 3
  | .alloca _ _ _ => 4
  | .mem _ _ _ _ => 5
  | .call _ _ _ => 6
theorem ix_le (o : Op) : o.ix ≤ 6 := by
  cases o <;> simp [Op.ix]
theorem deed_cls {o : Op} (h : OpOk o) : ∃ t ts, deedTks o = t :: ts ∧ clsT t = o.ix := by
  cases o with
  | bin x op w a b => exact ⟨_, _, rfl, (show ∀ t ∈ opsL, clsT t = 0 by decide) op h.2.1⟩
  | cmp x pr w a b => exact ⟨_, _, rfl, (show clsT kCmp = 1 by decide)⟩
  | sel x t c a b => exact ⟨_, _, rfl, (show clsT kSel = 2 by decide)⟩
  | cast x kd v w a => exact ⟨_, _, rfl, (show ∀ t ∈ castL, clsT t = 3 by decide) kd h.2.1⟩
  | alloca x w size => exact ⟨_, _, rfl, (show clsT kAlloca = 4 by decide)⟩
  | mem x kd w args => exact ⟨_, _, rfl, (show ∀ p ∈ memL, clsT p.1 = 5 by decide) _ h.2.1⟩
  | call x name args => exact ⟨_, _, rfl, (show clsT kCall = 6 by decide)⟩
theorem val_cls (n : Nat) : clsT (valTk n) = 11 := by
  have hne : ∀ (t : Tx), t.headD 0 ≠ 36 → valTk n ≠ t := fun t h e => h (by rw [← e]; rfl)
  have hnm : ∀ (l : List Tx), (∀ t ∈ l, t.headD 0 ≠ 36) → valTk n ∉ l := fun l h z => h _ z rfl
  unfold clsT
  rw [if_neg (hnm _ (by decide)), if_neg (hne _ (by decide)), if_neg (hne _ (by decide)), if_neg (hnm _ (by decide)), if_neg (hne _ (by decide)), if_neg (hnm _ (by decide)), if_neg (hne _ (by decide)), if_neg (hne _ (by decide)), if_neg (hne _ (by decide)), if_neg (hne _ (by decide)), if_neg (hne _ (by decide))]
theorem op_cls {o : Op} (h : OpOk o) : ∃ t ts, o.tks = t :: ts ∧ (clsT t ≤ 6 ∨ clsT t = 11 ∧ ∃ x, o.made = some x ∧ t = valTk x) := by
  unfold Op.tks
  cases hm : o.made with
  | none =>
    obtain ⟨t, ts, e, hc⟩ := deed_cls h
    refine ⟨t, ts, e, .inl ?_⟩
    rw [hc]
    exact ix_le o
  | some x => exact ⟨_, _, rfl, .inr ⟨val_cls x, x, rfl, rfl⟩⟩
theorem end_cls (e : End) : ∃ t ts, e.tks = t :: ts ∧ 7 ≤ clsT t ∧ clsT t ≤ 10 := by
  cases e with
  | jump t => exact ⟨_, _, rfl, by decide, by decide⟩
  | branch c s t => exact ⟨_, _, rfl, by decide, by decide⟩
  | ret o => cases o <;> exact ⟨_, _, rfl, by decide, by decide⟩
  | stop => exact ⟨_, _, rfl, by decide, by decide⟩
theorem w_tk {v w : Nat} (h : Ty.tk (.w v) = Ty.tk (.w w)) : v = w := Ty.w.inj (ty_inj h)
theorem rd_deed {p q : Op} {r r' : List Tx} (ha : OpOk p) (hb : OpOk q) (hm : p.made = q.made) (e : deedTks p ++ r = deedTks q ++ r') : p = q ∧ r = r' := by
  have hix : p.ix = q.ix := by
    obtain ⟨t, ts, e1, h1⟩ := deed_cls ha
    obtain ⟨t', ts', e2, h2⟩ := deed_cls hb
    rw [e1, e2] at e
    rw [← h1, ← h2, (List.cons.inj e).1]
  cases p with
  | bin x op w a b => cases q <;> simp [Op.ix] at hix
                      rename_i x' op' w' a' b'
                      have e1 := List.cons.inj e
                      have e2 := List.cons.inj e1.2
                      obtain ⟨e3, e4⟩ := rd_com [a, b] [a', b'] r r' rfl e2.2
                      have e5 := List.cons.inj e3
                      have e6 := List.cons.inj e5.2
                      rw [Option.some.inj hm, e1.1, w_tk e2.1, e5.1, e6.1]
                      exact ⟨rfl, e4⟩
  | cmp x op w a b => cases q <;> simp [Op.ix] at hix
                      rename_i x' op' w' a' b'
                      have e0 := List.cons.inj e
                      have e1 := List.cons.inj e0.2
                      have e2 := List.cons.inj e1.2
                      obtain ⟨e3, e4⟩ := rd_com [a, b] [a', b'] r r' rfl e2.2
                      have e5 := List.cons.inj e3
                      have e6 := List.cons.inj e5.2
                      rw [Option.some.inj hm, e1.1, w_tk e2.1, e5.1, e6.1]
                      exact ⟨rfl, e4⟩
  | sel x t c a b => cases q <;> simp [Op.ix] at hix
                     rename_i x' t' c' a' b'
                     have e1 := List.cons.inj e
                     have e2 := List.cons.inj e1.2
                     obtain ⟨e3, e4⟩ := rd_com [c, a, b] [c', a', b'] r r' rfl e2.2
                     have e5 := List.cons.inj e3
                     have e6 := List.cons.inj e5.2
                     have e7 := List.cons.inj e6.2
                     rw [Option.some.inj hm, ty_inj e2.1, e5.1, e6.1, e7.1]
                     exact ⟨rfl, e4⟩
  | cast x kd v w a => cases q <;> simp [Op.ix] at hix
                       rename_i x' kd' v' w' a'
                       have e1 := List.cons.inj e
                       have e2 := List.cons.inj e1.2
                       have e3 := List.cons.inj e2.2
                       have e4 := List.cons.inj e3.2
                       have e5 := List.cons.inj e4.2
                       rw [Option.some.inj hm, e1.1, w_tk e2.1, opd_inj e3.1, w_tk e5.1]
                       exact ⟨rfl, e5.2⟩
  | alloca x w size => cases q <;> simp [Op.ix] at hix
                       rename_i x' w' size'
                       have e1 := List.cons.inj e
                       have e2 := List.cons.inj e1.2
                       have e3 := List.cons.inj e2.2
                       have e4 := List.cons.inj e3.2
                       rw [Option.some.inj hm, w_tk e2.1, num_inj e4.1]
                       exact ⟨rfl, e4.2⟩
  | mem x kd w args => cases q <;> simp [Op.ix] at hix
                       rename_i x' kd' w' args'
                       have e1 := List.cons.inj e
                       have e2 := List.cons.inj e1.2
                       have hl : args.length = args'.length := (show ∀ p ∈ memL, ∀ q ∈ memL, p.1 = q.1 → p.2.2 = q.2.2 by decide) _ ha.2.1 _ hb.2.1 e1.1
                       obtain ⟨e3, e4⟩ := rd_com args args' r r' hl e2.2
                       rw [show x = x' from hm, e1.1, w_tk e2.1, e3]
                       exact ⟨rfl, e4⟩
  | call x name args => cases q <;> simp [Op.ix] at hix
                        rename_i x' name' args'
                        have e1 := List.cons.inj e
                        have e2 := List.cons.inj e1.2
                        obtain ⟨e3, e4⟩ := rd_args args args' r r' trivial trivial e2.2
                        rw [show x = x' from hm, (List.cons.inj e2.1).2, e3]
                        exact ⟨rfl, e4⟩
theorem rd_op : Rd Op.tks OpOk := fun a b r r' ha hb e => by
  have hm : a.made = b.made := by
    obtain ⟨t, ts, e1, h1⟩ := op_cls ha
    obtain ⟨t', ts', e2, h2⟩ := op_cls hb
    cases hma : a.made with
    | none =>
      cases hmb : b.made with
      | none => rfl
      | some y =>
        obtain ⟨t3, ts3, e3, h3⟩ := deed_cls ha
        have ea : a.tks = t3 :: ts3 := by
          unfold Op.tks
          rw [hma]
          exact e3
        have eb : b.tks = valTk y :: [61] :: deedTks b := by
          unfold Op.tks
          rw [hmb]
        rw [ea, eb] at e
        rw [(List.cons.inj e).1, val_cls] at h3
        have := ix_le a
        omega
    | some x =>
      have ea : a.tks = valTk x :: [61] :: deedTks a := by
        unfold Op.tks
        rw [hma]
      cases hmb : b.made with
      | none =>
        obtain ⟨t3, ts3, e3, h3⟩ := deed_cls hb
        have eb : b.tks = t3 :: ts3 := by
          unfold Op.tks
          rw [hmb]
          exact e3
        rw [ea, eb] at e
        rw [← (List.cons.inj e).1, val_cls] at h3
        have := ix_le b
        omega
      | some y =>
        have eb : b.tks = valTk y :: [61] :: deedTks b := by
          unfold Op.tks
          rw [hmb]
        rw [ea, eb] at e
        rw [num_inj (List.cons.inj (List.cons.inj e).1).2]
  unfold Op.tks at e
  rw [hm] at e
  cases hmb : b.made with
  | none =>
    rw [hmb] at e
    exact rd_deed ha hb hm e
  | some y =>
    rw [hmb] at e
    exact rd_deed ha hb hm (List.cons.inj (List.cons.inj e).2).2
end K6
/-! K6Z3: endings, blocks, functions, modules. -/
namespace K6
open PySem PySem.Spec L2
def NoOpd (r : List Tx) : Prop := ∀ t ts, r = t :: ts → ∀ o : Opd, t ≠ o.tk
theorem noOpd_h {c : Nat} {x : Tx} {r : List Tx} (h : ¬ (48 ≤ c ∧ c ≤ 57)) (h1 : c ≠ 36) (h2 : c ≠ 64) : NoOpd ((c :: x) :: r) := fun t ts e o z => by
  have e1 : c :: x = o.txt := (List.cons.inj e).1.trans z
  cases o with
  | v i => exact h1 (List.cons.inj e1).1
  | n i => exact h (num_h1 (show num i = c :: x from e1.symm))
  | g y => exact h2 (List.cons.inj e1).1
theorem rd_end (a b : End) (r r' : List Tx) (hr : NoOpd r) (hr' : NoOpd r') (e : a.tks ++ r = b.tks ++ r') : a = b ∧ r = r' := by
  cases a with
  | jump t =>
    cases b with
    | jump s =>
      obtain ⟨e1, e2⟩ := rd_tgt t s r r' trivial trivial (List.cons.inj e).2
      exact ⟨by rw [e1], e2⟩
    | branch c s t => exact absurd (List.cons.inj e).1 (by decide)
    | ret o => cases o <;> exact absurd (List.cons.inj e).1 (by decide)
    | stop => exact absurd (List.cons.inj e).1 (by decide)
  | branch c s t =>
    cases b with
    | jump s => exact absurd (List.cons.inj e).1 (by decide)
    | branch c' s' t' =>
      have e1 := List.cons.inj (List.cons.inj e).2
      have e2 : s.tks ++ [44] :: t.tks ++ r = s'.tks ++ [44] :: t'.tks ++ r' := (List.cons.inj e1.2).2
      rw [List.append_assoc, List.append_assoc] at e2
      obtain ⟨e3, e4⟩ := rd_tgt s s' _ _ trivial trivial e2
      obtain ⟨e5, e6⟩ := rd_tgt t t' r r' trivial trivial (List.cons.inj e4).2
      exact ⟨by rw [opd_inj e1.1, e3, e5], e6⟩
    | ret o => cases o <;> exact absurd (List.cons.inj e).1 (by decide)
    | stop => exact absurd (List.cons.inj e).1 (by decide)
  | ret o =>
    cases b with
    | jump s => cases o <;> exact absurd (List.cons.inj e).1 (by decide)
    | branch c s t => cases o <;> exact absurd (List.cons.inj e).1 (by decide)
    | ret p =>
      cases o with
      | none => cases p with
        | none => exact ⟨rfl, (List.cons.inj e).2⟩
        | some p => exact absurd rfl (hr _ _ (List.cons.inj e).2 p)
      | some o => cases p with
        | none => exact absurd rfl (hr' _ _ (List.cons.inj e).2.symm o)
        | some p =>
          have e1 := List.cons.inj (List.cons.inj e).2
          exact ⟨by rw [opd_inj e1.1], e1.2⟩
    | stop => cases o <;> exact absurd (List.cons.inj e).1 (by decide)
  | stop =>
    cases b with
    | jump s => exact absurd (List.cons.inj e).1 (by decide)
    | branch c s t => exact absurd (List.cons.inj e).1 (by decide)
    | ret o => cases o <;> exact absurd (List.cons.inj e).1 (by decide)
    | stop => exact ⟨rfl, (List.cons.inj e).2⟩
theorem end_op {e : End} {o : Op} (h : OpOk o) {r r' : List Tx} (z : e.tks ++ r = o.tks ++ r') : False := by
  obtain ⟨t, ts, e1, h1, h2⟩ := end_cls e
  obtain ⟨t', ts', e2, h3⟩ := op_cls h
  rw [e1, e2] at z
  rw [(List.cons.inj z).1] at h1 h2
  rcases h3 with h3 | ⟨h3, _⟩ <;> omega
theorem rd_ops : ∀ (l m : List Op) (a b : End) (r r' : List Tx), (∀ o ∈ l, OpOk o) → (∀ o ∈ m, OpOk o) → NoOpd r → NoOpd r' → l.flatMap Op.tks ++ (a.tks ++ r) = m.flatMap Op.tks ++ (b.tks ++ r') → l = m ∧ a = b ∧ r = r'
  | [], [], a, b, r, r', _, _, hr, hr', e => by
    obtain ⟨e1, e2⟩ := rd_end a b r r' hr hr' e
    exact ⟨rfl, e1, e2⟩
  | [], o :: m, a, b, r, r', _, hm, _, _, e => by
    rw [List.flatMap_cons, List.append_assoc] at e
    exact (end_op (hm o List.mem_cons_self) (show a.tks ++ r = o.tks ++ _ from e)).elim
  | o :: l, [], a, b, r, r', hl, _, _, _, e => by
    rw [List.flatMap_cons, List.append_assoc] at e
    exact (end_op (hl o List.mem_cons_self) (show b.tks ++ r' = o.tks ++ _ from e.symm)).elim
  | o :: l, p :: m, a, b, r, r', hl, hm, hr, hr', e => by
    rw [List.flatMap_cons, List.flatMap_cons, List.append_assoc, List.append_assoc] at e
    obtain ⟨e1, e2⟩ := rd_op o p _ _ (hl o List.mem_cons_self) (hm p List.mem_cons_self) e
    obtain ⟨e3, e4, e5⟩ := rd_ops l m a b r r' (fun x hx => hl x (List.mem_cons_of_mem _ hx)) (fun x hx => hm x (List.mem_cons_of_mem _ hx)) hr hr' e2
    exact ⟨by rw [e1, e3], e4, e5⟩
theorem ty_ne (t : Ty) : t.tk ≠ [41] := by
  cases t with
  | w n => exact fun z => absurd (List.cons.inj z).1 (by decide)
  | ptr => decide
theorem rd_pars : Rd (lst parTks [40] [41]) fun _ => True := fun l m r r' _ _ e => rd_lst (f := parTks) (ok := fun _ => True) (fun a b r r' _ _ z => by
  have e1 := List.cons.inj z
  have e2 := List.cons.inj e1.2
  exact ⟨Prod.ext (num_inj (List.cons.inj e2.1).2) (ty_inj e1.1), e2.2⟩) (by decide) (fun a _ => ⟨_, _, rfl, ty_ne _⟩) l m r r' (fun _ _ => trivial) (fun _ _ => trivial) e
theorem rd_blk (a b : Blk) (r r' : List Tx) (ha : BlkOk' a) (hb : BlkOk' b) (hr : NoOpd r) (hr' : NoOpd r') (e : a.tks ++ r = b.tks ++ r') : a = b ∧ r = r' := by
  have e1 := List.cons.inj e
  have e2 : lst parTks [40] [41] a.pars ++ [58] :: (a.ops.flatMap Op.tks ++ a.en.tks) ++ r = lst parTks [40] [41] b.pars ++ [58] :: (b.ops.flatMap Op.tks ++ b.en.tks) ++ r' := e1.2
  rw [List.append_assoc, List.append_assoc] at e2
  obtain ⟨e3, e4⟩ := rd_pars a.pars b.pars _ _ trivial trivial e2
  have e5 : a.ops.flatMap Op.tks ++ a.en.tks ++ r = b.ops.flatMap Op.tks ++ b.en.tks ++ r' := (List.cons.inj e4).2
  rw [List.append_assoc, List.append_assoc] at e5
  obtain ⟨e6, e7, e8⟩ := rd_ops a.ops b.ops a.en b.en r r' ha.ops hb.ops hr hr' e5
  have e9 : a.lab = b.lab := num_inj (List.cons.inj e1.1).2
  refine ⟨?_, e8⟩
  cases a
  cases b
  dsimp only at e3 e6 e7 e9
  rw [e3, e6, e7, e9]
theorem no_blks (l : List Blk) (r : List Tx) : NoOpd (l.flatMap Blk.tks ++ [125] :: r) := by
  cases l with
  | nil => exact noOpd_h (by decide) (by decide) (by decide)
  | cons b l =>
    rw [List.flatMap_cons]
    exact noOpd_h (c := 98) (x := num b.lab) (by decide) (by decide) (by decide)
theorem rd_blks : ∀ (l m : List Blk) (r r' : List Tx), (∀ b ∈ l, BlkOk' b) → (∀ b ∈ m, BlkOk' b) → l.flatMap Blk.tks ++ [125] :: r = m.flatMap Blk.tks ++ [125] :: r' → l = m ∧ r = r'
  | [], [], _, _, _, _, e => ⟨rfl, (List.cons.inj e).2⟩
  | [], b :: m, r, r', _, _, e => by
    rw [List.flatMap_cons, List.append_assoc] at e
    have e1 : [125] = labTk b.lab := (List.cons.inj e).1
    exact absurd (List.cons.inj e1).1 (by decide)
  | a :: l, [], r, r', _, _, e => by
    rw [List.flatMap_cons, List.append_assoc] at e
    have e1 : labTk a.lab = [125] := (List.cons.inj e).1
    exact absurd (List.cons.inj e1).1 (by decide)
  | a :: l, b :: m, r, r', hl, hm, e => by
    rw [List.flatMap_cons, List.flatMap_cons, List.append_assoc, List.append_assoc] at e
    obtain ⟨e1, e2⟩ := rd_blk a b _ _ (hl a List.mem_cons_self) (hm b List.mem_cons_self) (no_blks l r) (no_blks m r') e
    obtain ⟨e3, e4⟩ := rd_blks l m r r' (fun x hx => hl x (List.mem_cons_of_mem _ hx)) (fun x hx => hm x (List.mem_cons_of_mem _ hx)) e2
    exact ⟨by rw [e1, e3], e4⟩
theorem res_inj {a b : Option Nat} (h : resTk a = resTk b) : a = b := by
  cases a with
  | none => cases b with
    | none => rfl
    | some n => exact absurd (List.cons.inj h).1 (by decide)
  | some m => cases b with
    | none => exact absurd (List.cons.inj h).1 (by decide)
    | some n => rw [w_tk h]
theorem rd_fn : Rd Fn.tks FnOk' := fun a b r r' ha hb e => by
  have e1 := List.cons.inj (List.cons.inj e).2
  have e2 := List.cons.inj e1.2
  have e3 : lst (fun t => [Ty.tk t]) [40] [41] a.pars ++ [123] :: (a.blks.flatMap Blk.tks ++ [[125]]) ++ r = lst (fun t => [Ty.tk t]) [40] [41] b.pars ++ [123] :: (b.blks.flatMap Blk.tks ++ [[125]]) ++ r' := e2.2
  rw [List.append_assoc, List.append_assoc] at e3
  obtain ⟨e4, e5⟩ := rd_lst (f := fun t => [Ty.tk t]) (ok := fun _ => True) (rd_one fun a b _ _ h => ty_inj h) (by decide) (fun a _ => ⟨_, _, rfl, ty_ne _⟩) a.pars b.pars _ _ (fun _ _ => trivial) (fun _ _ => trivial) e3
  have e6 : a.blks.flatMap Blk.tks ++ [[125]] ++ r = b.blks.flatMap Blk.tks ++ [[125]] ++ r' := (List.cons.inj e5).2
  rw [List.append_assoc, List.append_assoc] at e6
  obtain ⟨e7, e8⟩ := rd_blks a.blks b.blks r r' ha.blks hb.blks e6
  have e9 := res_inj e1.1
  have e10 : a.name = b.name := (List.cons.inj e2.1).2
  refine ⟨?_, e8⟩
  cases a
  cases b
  dsimp only at e4 e7 e9 e10
  rw [e4, e7, e9, e10]
theorem rd_gb : Rd Gb.tks fun _ => True := fun a b r r' _ _ e => by
  have e1 := List.cons.inj e
  have e2 := List.cons.inj (List.cons.inj (List.cons.inj e1.2).2).2
  obtain ⟨e3, e4⟩ := rd_lst (f := fun c => [num c]) (ok := fun _ => True) (rd_one fun a b _ _ h => num_inj h) (by decide) (fun a _ => ⟨_, _, rfl, fun z => absurd (num_h1 z).2 (by decide)⟩) a.cells b.cells r r' (fun _ _ => trivial) (fun _ _ => trivial) e2.2
  have e5 : a.name = b.name := (List.cons.inj e1.1).2
  have e6 := w_tk e2.1
  refine ⟨?_, e4⟩
  cases a
  cases b
  dsimp only at e3 e5 e6
  rw [e3, e5, e6]
theorem rd_fns : ∀ l m : List Fn, (∀ f ∈ l, FnOk' f) → (∀ f ∈ m, FnOk' f) → l.flatMap Fn.tks = m.flatMap Fn.tks → l = m
  | [], [], _, _, _ => rfl
  | [], f :: m, _, _, e => by
    rw [List.flatMap_cons] at e
    cases e
  | f :: l, [], _, _, e => by
    rw [List.flatMap_cons] at e
    cases e
  | f :: l, g :: m, hl, hm, e => by
    rw [List.flatMap_cons, List.flatMap_cons] at e
    obtain ⟨e1, e2⟩ := rd_fn f g _ _ (hl f List.mem_cons_self) (hm g List.mem_cons_self) e
    rw [e1, rd_fns l m (fun x hx => hl x (List.mem_cons_of_mem _ hx)) (fun x hx => hm x (List.mem_cons_of_mem _ hx)) e2]
theorem gb_fns (g : Gb) (l : List Fn) (r : List Tx) (e : g.tks ++ r = l.flatMap Fn.tks) : False := by
  cases l with
  | nil => cases e
  | cons f l =>
    rw [List.flatMap_cons] at e
    exact absurd (List.cons.inj (List.cons.inj e).1).1 (by decide)
theorem rd_gbs : ∀ (l m : List Gb) (u v : List Fn), l.flatMap Gb.tks ++ u.flatMap Fn.tks = m.flatMap Gb.tks ++ v.flatMap Fn.tks → l = m ∧ u.flatMap Fn.tks = v.flatMap Fn.tks
  | [], [], _, _, e => ⟨rfl, e⟩
  | [], g :: m, u, v, e => by
    rw [List.flatMap_cons, List.append_assoc] at e
    exact (gb_fns g u _ (show g.tks ++ _ = _ from e.symm)).elim
  | g :: l, [], u, v, e => by
    rw [List.flatMap_cons, List.append_assoc] at e
    exact (gb_fns g v _ (show g.tks ++ _ = _ from e)).elim
  | g :: l, h :: m, u, v, e => by
    rw [List.flatMap_cons, List.flatMap_cons, List.append_assoc, List.append_assoc] at e
    obtain ⟨e1, e2⟩ := rd_gb g h _ _ trivial trivial e
    obtain ⟨e3, e4⟩ := rd_gbs l m u v e2
    exact ⟨by rw [e1, e3], e4⟩
/-- the text tells the module -/
theorem md_inj {a b : Md} (ha : MdOk a) (hb : MdOk b) (h : a.txt = b.txt) : a = b := by
  have h1 := (lay_md ha).weak
  have h2 := (lay_md hb).weak
  rw [← h] at h2
  have e := Lay.one_row h1 h2
  obtain ⟨e1, e2⟩ := rd_gbs a.gs b.gs a.fs b.fs e
  have e3 := rd_fns a.fs b.fs ha.fs hb.fs e2
  cases a
  cases b
  dsimp only at e1 e3
  rw [e1, e3]
end K6
/-! K6Z4: modules that are equal to Python are the same. -/
namespace K6
open PySem PySem.Spec L2
theorem tup_eqv (xs ys : List PyData) : PyData.eqv (.tuple xs) (.tuple ys) = PyData.eqvAll xs ys := by rw [PyData.eqv]
theorem q_nt {m n : Nat} (h : PyData.eqv (nt m) (nt n) = true) : m = n := by
  rw [PyData.eqv] at h
  have := eq_of_beq h
  omega
theorem q_tx {a b : Tx} (h : PyData.eqv (tx a) (tx b) = true) : a = b := by
  rw [PyData.eqv] at h
  exact SX.S_inj (eq_of_beq h)
theorem q_cons {x y : PyData} {xs ys : List PyData} (h : PyData.eqvAll (x :: xs) (y :: ys) = true) : PyData.eqv x y = true ∧ PyData.eqvAll xs ys = true := by
  rw [PyData.eqvAll, Bool.and_eq_true] at h
  exact h
theorem q_map {α : Type} {f : α → PyData} {ok : α → Prop} (hf : ∀ a b, ok a → ok b → PyData.eqv (f a) (f b) = true → a = b) : ∀ l m : List α, (∀ a ∈ l, ok a) → (∀ a ∈ m, ok a) → PyData.eqvAll (l.map f) (m.map f) = true → l = m
  | [], [], _, _, _ => rfl
  | [], b :: m, _, _, h => by
    rw [List.map_cons, List.map_nil, PyData.eqvAll] at h
    cases h
  | a :: l, [], _, _, h => by
    rw [List.map_cons, List.map_nil, PyData.eqvAll] at h
    cases h
  | a :: l, b :: m, hl, hm, h => by
    rw [List.map_cons, List.map_cons] at h
    obtain ⟨h1, h2⟩ := q_cons h
    rw [hf a b (hl a List.mem_cons_self) (hm b List.mem_cons_self) h1, q_map hf l m (fun x hx => hl x (List.mem_cons_of_mem _ hx)) (fun x hx => hm x (List.mem_cons_of_mem _ hx)) h2]
theorem q_mapT {α : Type} {f : α → PyData} {ok : α → Prop} (hf : ∀ a b, ok a → ok b → PyData.eqv (f a) (f b) = true → a = b) {l m : List α} (hl : ∀ a ∈ l, ok a) (hm : ∀ a ∈ m, ok a) (h : PyData.eqv (.tuple (l.map f)) (.tuple (m.map f)) = true) : l = m := by
  rw [tup_eqv] at h
  exact q_map hf l m hl hm h
theorem q_ty {a b : Ty} (h : PyData.eqv a.py b.py = true) : a = b := by
  cases a <;> cases b
  · rw [q_nt h]
  · simp [Ty.py, PyData.eqv] at h
  · simp [Ty.py, PyData.eqv] at h
  · rfl
theorem q_opd {a b : Opd} (h : PyData.eqv a.py b.py = true) : a = b := by
  have key : ∀ (s t : Tx) (x y : PyData), PyData.eqv (.tuple [tx s, x]) (.tuple [tx t, y]) = true → s = t ∧ PyData.eqv x y = true := fun s t x y h => by
    rw [tup_eqv] at h
    obtain ⟨h1, h2⟩ := q_cons h
    exact ⟨q_tx h1, (q_cons h2).1⟩
  cases a <;> cases b <;> obtain ⟨h1, h2⟩ := key _ _ _ _ h
  · rw [q_nt h2]
  · exact absurd h1 (by decide)
  · exact absurd h1 (by decide)
  · exact absurd h1 (by decide)
  · rw [q_nt h2]
  · exact absurd h1 (by decide)
  · exact absurd h1 (by decide)
  · exact absurd h1 (by decide)
  · rw [q_tx h2]
theorem q_args {a b : List Opd} (h : PyData.eqv (argsPy a) (argsPy b) = true) : a = b := q_mapT (ok := fun _ => True) (fun _ _ _ _ h => q_opd h) (fun _ _ => trivial) (fun _ _ => trivial) h
theorem q_tgt {a b : Tgt} (h : PyData.eqv a.py b.py = true) : a = b := by
  have h' : PyData.eqv (.tuple [nt a.lab, argsPy a.args]) (.tuple [nt b.lab, argsPy b.args]) = true := h
  rw [tup_eqv] at h'
  obtain ⟨h1, h2⟩ := q_cons h'
  have e1 := q_nt h1
  have e2 := q_args (q_cons h2).1
  cases a
  cases b
  dsimp only at e1 e2
  rw [e1, e2]
theorem q_opt {a b : Option Nat} (h : PyData.eqv (optPy a) (optPy b) = true) : a = b := by
  cases a <;> cases b
  · rfl
  · simp [optPy, PyData.eqv] at h
  · simp [optPy, PyData.eqv] at h
  · rw [q_nt h]
def clsK (t : Tx) : Nat := if t = kBin then 0 else if t = kCmp then 1 else if t = kSel then 2 else if t = kCast then 3 else if t = kAlloca then 4 else if t = kCall then 6 else 5
theorem kind_cls {o : Op} (h : OpOk o) : clsK o.kind = o.ix := by
  cases o with
  | mem x kd w args => exact (show ∀ p ∈ memL, clsK p.1 = 5 by decide) _ h.2.1
  | bin x op w a b => exact (show clsK kBin = 0 by decide)
  | cmp x pr w a b => exact (show clsK kCmp = 1 by decide)
  | sel x t c a b => exact (show clsK kSel = 2 by decide)
  | cast x kd v w a => exact (show clsK kCast = 3 by decide)
  | alloca x w size => exact (show clsK kAlloca = 4 by decide)
  | call x name args => exact (show clsK kCall = 6 by decide)
theorem q_op {p q : Op} (hp : OpOk p) (hq : OpOk q) (h : PyData.eqv p.py q.py = true) : p = q := by
  have h' : PyData.eqv (.tuple [optPy p.made, tx p.kind, .tuple p.info, argsPy p.args]) (.tuple [optPy q.made, tx q.kind, .tuple q.info, argsPy q.args]) = true := h
  rw [tup_eqv] at h'
  obtain ⟨h1, h2⟩ := q_cons h'
  obtain ⟨h3, h4⟩ := q_cons h2
  obtain ⟨h5, h6⟩ := q_cons h4
  have hm := q_opt h1
  have hk := q_tx h3
  have ha := q_args (q_cons h6).1
  rw [tup_eqv] at h5
  have hix : p.ix = q.ix := by
    rw [← kind_cls hp, ← kind_cls hq, hk]
  cases p with
  | bin x op w a b => cases q <;> simp [Op.ix] at hix
                      obtain ⟨i1, i2⟩ := q_cons h5
                      have e1 := List.cons.inj ha
                      have e2 := List.cons.inj e1.2
                      rw [Option.some.inj hm, q_tx i1, q_nt (q_cons i2).1, e1.1, e2.1]
  | cmp x op w a b => cases q <;> simp [Op.ix] at hix
                      obtain ⟨i1, i2⟩ := q_cons h5
                      have e1 := List.cons.inj ha
                      have e2 := List.cons.inj e1.2
                      rw [Option.some.inj hm, q_tx i1, q_nt (q_cons i2).1, e1.1, e2.1]
  | sel x t c a b => cases q <;> simp [Op.ix] at hix
                     obtain ⟨i1, i2⟩ := q_cons h5
                     have e1 := List.cons.inj ha
                     have e2 := List.cons.inj e1.2
                     have e3 := List.cons.inj e2.2
                     rw [Option.some.inj hm, q_ty i1, e1.1, e2.1, e3.1]
  | cast x kd v w a => cases q <;> simp [Op.ix] at hix
                       obtain ⟨i1, i2⟩ := q_cons h5
                       obtain ⟨i3, i4⟩ := q_cons i2
                       have e1 := List.cons.inj ha
                       rw [Option.some.inj hm, q_tx i1, q_nt i3, q_nt (q_cons i4).1, e1.1]
  | alloca x w size => cases q <;> simp [Op.ix] at hix
                       obtain ⟨i1, i2⟩ := q_cons h5
                       rw [Option.some.inj hm, q_nt i1, q_nt (q_cons i2).1]
  | mem x kd w args => cases q <;> simp [Op.ix] at hix
                       rename_i x' kd' w' args'
                       obtain ⟨i1, i2⟩ := q_cons h5
                       rw [show x = x' from hm, show kd = kd' from hk, q_nt i1, show args = args' from ha]
  | call x name args => cases q <;> simp [Op.ix] at hix
                        rename_i x' name' args'
                        obtain ⟨i1, i2⟩ := q_cons h5
                        rw [show x = x' from hm, q_tx i1, show args = args' from ha]
def End.kd : End → Tx
  | .jump _ => kJump
  | .branch _ _ _ => kBranch
  | .ret _ => kRet
  | .stop => kStop
def End.rest : End → List PyData
  | .jump t => [t.py]
  | .branch c s t => [c.py, s.py, t.py]
  | .ret none => [.none]
  | .ret (some o) => [o.py]
  | .stop => []
theorem end_py (e : End) : e.py = .tuple (tx e.kd :: e.rest) := by
  cases e with
  | ret o => cases o <;> rfl
  | _ => rfl
def End.ix : End → Nat
  | .jump _ => 7
  | .branch _ _ _ => 8
  | .ret _ => 9
  | .stop => 10
theorem end_ix (e : End) : clsT e.kd = e.ix := by
  cases e with
  | jump t => exact (show clsT kJump = 7 by decide)
  | branch c s t => exact (show clsT kBranch = 8 by decide)
  | ret o => exact (show clsT kRet = 9 by decide)
  | stop => exact (show clsT kStop = 10 by decide)
theorem q_end {a b : End} (h : PyData.eqv a.py b.py = true) : a = b := by
  rw [end_py, end_py, tup_eqv] at h
  obtain ⟨h1, h2⟩ := q_cons h
  have hk := q_tx h1
  have hix : a.ix = b.ix := by
    rw [← end_ix a, ← end_ix b, hk]
  cases a with
  | jump t => cases b <;> simp [End.ix] at hix
              rw [q_tgt (q_cons h2).1]
  | branch c s t => cases b <;> simp [End.ix] at hix
                    obtain ⟨h3, h4⟩ := q_cons h2
                    obtain ⟨h5, h6⟩ := q_cons h4
                    rw [q_opd h3, q_tgt h5, q_tgt (q_cons h6).1]
  | ret o => cases b <;> simp [End.ix] at hix
             rename_i p
             cases o <;> cases p
             · rfl
             · rename_i p
               have := (q_cons h2).1
               cases p <;> simp [Opd.py, PyData.eqv] at this
             · rename_i p
               have := (q_cons h2).1
               cases p <;> simp [Opd.py, PyData.eqv] at this
             · rw [q_opd (q_cons h2).1]
  | stop => cases b <;> simp [End.ix] at hix
            rfl
theorem q_blk {a b : Blk} (ha : BlkOk' a) (hb : BlkOk' b) (h : PyData.eqv a.py b.py = true) : a = b := by
  have h' : PyData.eqv (.tuple [nt a.lab, .tuple (a.pars.map parPy), .tuple (a.ops.map Op.py), a.en.py]) (.tuple [nt b.lab, .tuple (b.pars.map parPy), .tuple (b.ops.map Op.py), b.en.py]) = true := h
  rw [tup_eqv] at h'
  obtain ⟨h1, h2⟩ := q_cons h'
  obtain ⟨h3, h4⟩ := q_cons h2
  obtain ⟨h5, h6⟩ := q_cons h4
  have e1 := q_nt h1
  have e2 := q_mapT (f := parPy) (ok := fun _ => True) (fun x y _ _ z => by
    have z' : PyData.eqv (.tuple [nt x.1, x.2.py]) (.tuple [nt y.1, y.2.py]) = true := z
    rw [tup_eqv] at z'
    obtain ⟨z1, z2⟩ := q_cons z'
    exact Prod.ext (q_nt z1) (q_ty (q_cons z2).1)) (fun _ _ => trivial) (fun _ _ => trivial) h3
  have e3 := q_mapT (f := Op.py) (ok := OpOk) (fun x y hx hy z => q_op hx hy z) ha.ops hb.ops h5
  have e4 := q_end (q_cons h6).1
  cases a
  cases b
  dsimp only at e1 e2 e3 e4
  rw [e1, e2, e3, e4]
theorem q_fn {a b : Fn} (ha : FnOk' a) (hb : FnOk' b) (h : PyData.eqv a.py b.py = true) : a = b := by
  have h' : PyData.eqv (.tuple [tx a.name, .tuple (a.pars.map Ty.py), optPy a.res, .tuple (a.blks.map Blk.py)]) (.tuple [tx b.name, .tuple (b.pars.map Ty.py), optPy b.res, .tuple (b.blks.map Blk.py)]) = true := h
  rw [tup_eqv] at h'
  obtain ⟨h1, h2⟩ := q_cons h'
  obtain ⟨h3, h4⟩ := q_cons h2
  obtain ⟨h5, h6⟩ := q_cons h4
  have e1 := q_tx h1
  have e2 := q_mapT (f := Ty.py) (ok := fun _ => True) (fun x y _ _ z => q_ty z) (fun _ _ => trivial) (fun _ _ => trivial) h3
  have e3 := q_opt h5
  have e4 := q_mapT (f := Blk.py) (ok := BlkOk') (fun x y hx hy z => q_blk hx hy z) ha.blks hb.blks (q_cons h6).1
  cases a
  cases b
  dsimp only at e1 e2 e3 e4
  rw [e1, e2, e3, e4]
theorem q_gb {a b : Gb} (h : PyData.eqv a.py b.py = true) : a = b := by
  have h' : PyData.eqv (.tuple [tx a.name, nt a.w, nt a.cells.length, .tuple (a.cells.map nt)]) (.tuple [tx b.name, nt b.w, nt b.cells.length, .tuple (b.cells.map nt)]) = true := h
  rw [tup_eqv] at h'
  obtain ⟨h1, h2⟩ := q_cons h'
  obtain ⟨h3, h4⟩ := q_cons h2
  obtain ⟨h5, h6⟩ := q_cons h4
  have e1 := q_tx h1
  have e2 := q_nt h3
  have e3 := q_mapT (f := nt) (ok := fun _ => True) (fun x y _ _ z => q_nt z) (fun _ _ => trivial) (fun _ _ => trivial) (q_cons h6).1
  cases a
  cases b
  dsimp only at e1 e2 e3
  rw [e1, e2, e3]
theorem q_md {a b : Md} (ha : MdOk a) (hb : MdOk b) (h : PyData.eqv a.py b.py = true) : a = b := by
  have h' : PyData.eqv (.tuple [.tuple (a.gs.map Gb.py), .tuple (a.fs.map Fn.py)]) (.tuple [.tuple (b.gs.map Gb.py), .tuple (b.fs.map Fn.py)]) = true := h
  rw [tup_eqv] at h'
  obtain ⟨h1, h2⟩ := q_cons h'
  have e1 := q_mapT (f := Gb.py) (ok := fun _ => True) (fun x y _ _ z => q_gb z) (fun _ _ => trivial) (fun _ _ => trivial) h1
  have e2 := q_mapT (f := Fn.py) (ok := FnOk') (fun x y hx hy z => q_fn hx hy z) ha.fs hb.fs (q_cons h2).1
  cases a
  cases b
  dsimp only at e1 e2
  rw [e1, e2]
/-- the texts are equal just where the modules are -/
theorem md_eqv {a b : Md} (ha : MdOk a) (hb : MdOk b) : PyData.eqv a.py b.py = decide (a.txt = b.txt) := by
  cases h : PyData.eqv a.py b.py with
  | true => rw [q_md ha hb h, decide_eq_true rfl]
  | false =>
    refine (decide_eq_false fun z => ?_).symm
    rw [md_inj ha hb z, SeqAt.eqv_refl _ (good_md hb).lay] at h
    cases h
end K6
/-! K6V1: repr of a tuple of data, of a text, where no repr is under way. -/
namespace K6
open PySem PySem.Spec PyProof.Rows L2 Evl
def rRepr (K : PySem.W.Frag) : List V → Hp → VK → Prop := fun xs H Q => ∃ (v : V) (d : PyData), xs = [v] ∧ Dp K H v d ∧ d.canLay0 = true ∧ d.showable = true ∧ d.depth ≤ 64 ∧ d.shown.length ≤ 8000000 ∧ ((∃ a, v = .ref a) ∨ ∃ x, v = .str x) ∧ Q (.str d.shown) H
theorem cr_repr {X : Cx} (hg : X.A.guards = some []) (hu : X.A.units + 66 < cLine) : CallR X (.builtin "repr") (rRepr X.K) := by
  intro pins s σ H xs us Q I r h
  obtain ⟨v, d, rfl, hd, hl, hs, hdp, hz, hv, q⟩ := h
  obtain ⟨u, rfl, ru⟩ := vals1 r
  obtain ⟨as, rd⟩ := Dp.reads I d v u hd ru
  have hz2 : d.shown.length ≤ sizeLine := by
    rw [sizeLine_eq]
    omega
  rcases hv with ⟨a, rfl⟩ | ⟨x, rfl⟩
  · obtain rfl : u = Value.ref a := ru
    exact repr_of_reads' rd hs (PyData.noDict_hsm (PyData.hasDict_of_canLay d hl)) hg (by omega) (fun _ _ e => e) (fun h' u tk hk => ⟨.str d.shown, H, I.kept hk, ⟨u, rfl⟩, q⟩) hz2
  · obtain ⟨t, rfl⟩ := ru
    cases hd
    exact PySem.P.repr_of_str ⟨.str _, H, I.tok _, ⟨_, rfl⟩, q⟩ hz2
end K6
/-! K6V2: the end of a law row, the caller's guards known. -/
namespace K6
open PySem PySem.Spec PyProof.Rows L2
/-- what is tracked at the law's call: the tables, the script -/
def startH (K : PySem.W.Frag) (a : Addr) (o : Obj) (xs : List V) (T : List Addr) : Hp := fun b => if b ∈ T then some (.tbl #[]) else if (b == a && (K.lookup a).isNone) = true then some (.frz o (.lst xs)) else none
section
variable {K : PySem.W.Frag} {a b : Addr} {o : Obj} {xs : List V} {T : List Addr}
theorem startH_tab (h : b ∈ T) : startH K a o xs T b = some (.tbl #[]) := if_pos h
theorem startH_off (h : b ∉ T) (n : b ≠ a) : startH K a o xs T b = none := (if_neg h).trans (if_neg (by
  rw [beq_eq_false_iff_ne.mpr n]
  simp))
theorem startH_own (h : a ∉ T) (n : K.lookup a = none) : startH K a o xs T a = some (.frz o (.lst xs)) := (if_neg h).trans (if_pos (by
  rw [n, beq_self_eq_true]
  rfl))
theorem startH_known (h : a ∉ T) {q : Obj} (n : K.lookup a = some q) : startH K a o xs T a = none := (if_neg h).trans (if_neg (by
  rw [n]
  simp))
/-- the call of the law, its run told of the caller itself -/
def RunAt (P : Program) (w : World) (K : PySem.W.Frag) (mg : Str → Option Value) (CX : CXT) (cs : List (Addr × Addr)) (fa : Addr) (n : Nat) : Prop :=
  ∀ (base : Heap) (s : Shared) (H : Hp) (a : Addr) (ns : List Int), K.In base → base.Ns mainGlobals mg → (∀ p ∈ cs, LamX.TabB base mg p.1 p.2) → Env0 P w K mg base callerA [] s H → (∀ p ∈ cs, H p.2 = some (.tbl #[])) → SqL K H a (ns.map V.int) → ns.length ≤ n →
    codeAny (model P w) callerA (.call (.ref fa) ⟨[.ref a], []⟩) (CR CX [] P w H s (fun v _ => v = .bl true) fun _ _ _ => False) s
theorem law_end {P : Program} {w : World} {mg mb : Str → Option Value} {CX : CXT} {fa : Addr} {cs : List (Addr × Addr)} {s₁ : Shared} {vs : List Value} {ns : List Int} {n : Nat}
    (KX : K.In s₁.heap) (hns : s₁.heap.Ns mainGlobals mg) (hb : s₁.heap.Ns builtinsNs mb) (hbb : ∀ x : Str, x ≠ "__name__" → mb x = bootBuiltins x) (hlim : s₁.heap.NoLimit) (hg : s₁.gens = #[])
    (hT : ∀ p ∈ cs, s₁.heap.get? p.2 = some { cls := .none, data := .fields #[] }) (nT : ∀ p ∈ cs, K.lookup p.2 = none) (C : ∀ p ∈ cs, PySem.W.CodeHd s₁.heap p.1 p.2)
    (hbm : ∃ (bm : Addr) (ob : Obj), mg "__builtins__" = some (.ref bm) ∧ bm ≠ builtinsNs ∧ s₁.heap.get? bm = some ob ∧ ob.cls = .type "module" ∧ ob.dict = some builtinsNs ∧ ob.data = .plain)
    (ha : s₁.heap.get? a = some { cls := .type "list", data := .seq vs.toArray }) (hi : IntsAre vs ns) (hl : ns.length ≤ sizeLine) (hn : ns.length ≤ n) (F : RunAt P w K mg CX cs fa n)
    (hCX : ∀ H e s', CX [] H s₁ (fun _ _ _ => False) e s' → False) :
    codeAny (model P w) callerA (.call (.ref fa) ⟨[.ref a], []⟩) (fun r s' => r = .ok (.ret (.bool true)) ∧ OldK s₁.heap s'.heap ∧ s'.os = s₁.os ∧ AllBare s'.gens) s₁ := by
  obtain ⟨T, hTe⟩ : ∃ T, T = cs.map (·.2) := ⟨_, rfl⟩
  have inT : ∀ p ∈ cs, p.2 ∈ T := fun p hp => hTe ▸ List.mem_map.mpr ⟨p, hp, rfl⟩
  have ofT : ∀ b ∈ T, ∃ p ∈ cs, p.2 = b := fun b h => List.mem_map.mp (hTe ▸ h)
  have tabO : ∀ b ∈ T, s₁.heap.get? b = some { cls := .none, data := .fields #[] } := fun b h => by
    obtain ⟨p, hp, e⟩ := ofT b h
    exact e ▸ hT p hp
  have aT : a ∉ T := fun h => by
    have z := (tabO a h).symm.trans ha
    have z2 : Data.fields #[] = Data.seq vs.toArray _ := congrArg Obj.data (Option.some.inj z)
    cases z2
  obtain ⟨H, hH⟩ : ∃ H : Hp, H = startH K a { cls := .type "list", data := .seq vs.toArray } (ns.map V.int) T := ⟨_, rfl⟩
  have hTab : ∀ p ∈ cs, H p.2 = some (.tbl #[]) := fun p hp => hH ▸ startH_tab (inT p hp)
  -- an object that is neither the script nor a table stands in the base
  have off : ∀ {b : Addr} {q : Obj}, s₁.heap.get? b = some q → q.data ≠ .seq vs.toArray → q.data ≠ .fields #[] → H b = none := fun {b q} e h1 h2 => by
    rw [hH]
    refine startH_off (fun h => h2 ?_) fun h => h1 ?_
    · have z := (tabO b h).symm.trans e
      rw [← Option.some.inj z]
    · rw [h] at e
      have z := ha.symm.trans e
      rw [← Option.some.inj z]
  have inB : ∀ {b : Addr} {q : Obj}, s₁.heap.get? b = some q → H b = none → (hidT s₁.heap H).get? b = some q := fun e n => hidT_get e n
  have nsB : ∀ {b : Addr} {m : Str → Option Value}, s₁.heap.Ns b m → (hidT s₁.heap H).Ns b m := fun {b m} h => by
    obtain ⟨q, es, ep, e, d, r⟩ := h
    refine ⟨q, es, ep, inB e (off e ?_ ?_), d, r⟩ <;> (rw [d]; exact fun z => nomatch z)
  have kB : K.In (hidT s₁.heap H) := fun b q e => inB (KX b q e) (by
    rw [hH]
    by_cases h : b ∈ T
    · obtain ⟨p, hp, ep⟩ := ofT b h
      rw [← ep, nT p hp] at e
      cases e
    · by_cases h2 : b = a
      · rw [h2] at e ⊢
        exact startH_known aT e
      · exact startH_off h h2)
  have md : L2.Mod K mg (hidT s₁.heap H) := by
    obtain ⟨mc, m1, m2⟩ := hlim
    exact ⟨kB, nsB hns, ⟨mb, nsB hb, hbb⟩, mc, nsB m1, m2⟩
  have tB : ∀ p ∈ cs, LamX.TabB (hidT s₁.heap H) mg p.1 p.2 := fun p hp => by
    have hTp := hT p hp
    constructor
    · obtain ⟨q, us, file, tf, flags, tg, inF, text, tt, e1, r1, r2, r3, rest⟩ := C p hp
      refine ⟨q, us, file, tf, flags, tg, inF, text, tt, inB e1 (off e1 ?_ ?_), r1, r2, r3, rest⟩
      · rw [r2]
        exact fun z => nomatch z
      · intro z
        rw [r2] at z
        have z2 : us = #[] := Data.fields.inj z
        rw [z2] at r3
        simp at r3
    · obtain ⟨bm, ob, b1, b2, b3, b4, b5, b6⟩ := hbm
      refine ⟨bm, ob, b1, b2, fun z => ?_, fun z => ?_, inB b3 (off b3 ?_ ?_), b4, b5, b6⟩
      · obtain ⟨q, es, ep, e, hd, _⟩ := hns
        rw [z, e] at b3
        rw [← Option.some.inj b3, hd] at b6
        cases b6
      · rw [z, hTp] at b3
        rw [← Option.some.inj b3] at b6
        cases b6
      · rw [b6]
        exact fun z => nomatch z
      · rw [b6]
        exact fun z => nomatch z
    · intro z
      obtain ⟨q, es, ep, e, hd, _⟩ := hns
      rw [z, hTp] at e
      rw [← Option.some.inj e] at hd
      cases hd
  have rv := vals_ints hi
  have lenV := hi.length
  have split : ∀ b u, H b = some u → (b ∈ T ∧ u = .tbl #[]) ∨ (b = a ∧ u = .frz { cls := .type "list", data := .seq vs.toArray } (.lst (ns.map V.int))) := fun b u e => by
    rw [hH] at e
    by_cases h : b ∈ T
    · rw [startH_tab h] at e
      exact .inl ⟨h, (Option.some.inj e).symm⟩
    · by_cases h2 : b = a
      · refine .inr ⟨h2, ?_⟩
        rw [h2] at e
        cases hk : K.lookup a with
        | none =>
          rw [startH_own aT hk] at e
          exact (Option.some.inj e).symm
        | some q =>
          rw [startH_known aT hk] at e
          cases e
      · rw [startH_off h h2] at e
        cases e
  have hok : HOk P w H s₁.heap := fun b u e => by
    rcases split b u e with ⟨h, rfl⟩ | ⟨rfl, rfl⟩
    · exact tabO b h
    · exact ⟨ha, by rw [List.length_map]; exact hl, vs, _, rv, ha⟩
  have hS : SqL K H a (ns.map V.int) := by
    cases hk : K.lookup a with
    | none => exact .inl (.inr ⟨_, hH ▸ startH_own aT hk⟩)
    | some q =>
      have e := (KX a q hk).symm.trans ha
      rw [Option.some.inj e] at hk
      exact .inr ⟨_, vs.toArray, _, hk, rfl, rfl, rfl, by rw [List.size_toArray, lenV]; exact hl, by simpa using rv⟩
  have e0 : Env0 P w K mg (hidT s₁.heap H) callerA [] s₁ H := ⟨rfl, md, fun b q e => of_hidT e, Nat.le_of_eq (hidT_size _ _), trivial, (fun b z => absurd (id z : b ∈ ([] : List Addr)) (List.not_mem_nil)), hok, .of_eq hg⟩
  refine codeAny_mono (F _ s₁ H a ns kB (nsB hns) tB e0 hTab hS hn) fun r s' h => ?_
  cases r with
  | error e => exact (hCX H e s' h).elim
  | ok fl =>
    cases fl with
    | next => exact False.elim h
    | brk => exact False.elim h
    | cont => exact False.elim h
    | ret u =>
      obtain ⟨v, H', os, bare, un, hok2, rv2, q⟩ := h
      obtain rfl : v = .bl true := q
      obtain rfl : u = Value.bool true := rv2
      have keep : ∀ b q, b ∉ T → s₁.heap.get? b = some q → s'.heap.get? b = some q := fun b q nb e => by
        cases hb2 : H b with
        | none =>
          refine un.keep b q e hb2 (fun z => ?_) fun z => ?_
          · have z2 : b ∈ ([] : List Addr) := z
            cases z2
          · cases z
        | some u =>
          rcases split b u hb2 with ⟨z, _⟩ | ⟨_, z⟩
          · exact absurd z nb
          · rw [z] at hb2
            have f2 := un.frzs b _ _ hb2
            have g1 := (hok b _ hb2).1
            have g2 := (hok2 b _ f2).1
            rw [g2, ← e, g1]
      have grow : ∀ p ∈ cs, ∃ more : Array Value, s'.heap.get? p.2 = some { cls := .none, data := .fields more } := fun p hp => by
        obtain ⟨more, z⟩ := un.tbls p.2 #[] (hTab p hp)
        exact ⟨_, hok2 p.2 _ z⟩
      refine ⟨rfl, ⟨fun b q e => ?_, fun b q e => ?_⟩, os, bare⟩
      · by_cases hb2 : b ∈ T
        · obtain ⟨p, hp, rfl⟩ := ofT b hb2
          obtain ⟨more, hm⟩ := grow p hp
          have e2 := (hT p hp).symm.trans e
          rw [← Option.some.inj e2]
          exact .inr (.inl ⟨((C p hp).tab (hT p hp)).isCodeTable, rfl, #[], more, rfl, by rw [Array.empty_append]; exact hm⟩)
        · exact .inl (keep b q hb2 e)
      · by_cases hb2 : b ∈ T
        · obtain ⟨p, hp, rfl⟩ := ofT b hb2
          obtain ⟨more, hm⟩ := grow p hp
          exact ⟨_, hm⟩
        · exact ⟨q, keep b q hb2 e⟩
end
end K6
/-! K6V3: the walk of a law row whose run is told of the caller. -/
namespace K6
open PySem PySem.Spec PyProof.Rows L2
theorem walk_end {l : PySem.W.OpenLaw} {n : Nat} {q : Program} {loose : List Str} {XP : (Str → Option Value) → Heap → Prop} {YP : World → Heap → Prop} {d : DefRec} {CX : World → CXT} (hn : l.most = some n) (hn2 : n ≤ sizeLine) (hdf : d.params.defaults = [])
    (F : ∀ (w : World) (mg : Str → Option Value) (fa : Addr) (h : Heap), YP w h → h.Ns mainGlobals mg → mg d.name = some (.ref fa) → ∃ (K : PySem.W.Frag) (cs : List (Addr × Addr)), K.In h ∧ (∀ p ∈ cs, h.get? p.2 = some { cls := .none, data := .fields #[] }) ∧ (∀ p ∈ cs, K.lookup p.2 = none) ∧
      (∀ p ∈ cs, PySem.W.CodeHd h p.1 p.2) ∧ RunAt l.prog w K mg (CX w) cs fa n)
    (hCX : ∀ (w : World) (H : Hp) (s : Shared) (e : Value) (s' : Shared), CX w [] H s (fun _ _ _ => False) e s' → False) :
    PySem.W.WalkO q loose XP YP l.row.toRowW d [] (fun f vs => PySem.call f vs) := by
  refine Att.attach_callB hn hdf fun w s₀ s₁ mg mb fa o pm cd doc a vs ns G Y ho hd hcd hmg hobj hints hlen hbits hg => ?_
  obtain ⟨K, cs, KX, hT, nT, C, R⟩ := F w mg fa _ Y G.T.g hmg
  exact law_end KX G.T.g G.T.b G.T.builtins G.T.nolimit hg hT nT C G.T.bmain hobj hints
    (Nat.le_trans hlen hn2) hlen R fun H e s' => hCX w H s₁ e s'
end K6
/-! K6V4a: what stays true through the law's body: the deal, the tables, the tuples. -/
namespace K6
open PySem PySem.Spec PyProof.Rows L2 Evl
structure Lv (K : PySem.W.Frag) (d cs : Addr) (H : Hp) : Prop where
  deal : Deal H d cs
  tabs : LamX.Tabs (tabT K) H
section
variable {K : PySem.W.Frag} {d cs : Addr} {H H' : Hp}
theorem Lv.kn (k : KN K H H') (h : Lv K d cs H) : Lv K d cs H' := by
  obtain ⟨b, ns, h1, h2, h3, h4⟩ := h.deal
  exact ⟨⟨b, ns, h1, k.other _ _ noTb_lst h2, k.other _ _ noTb_lst h3, h4⟩, k.tabs h.tabs⟩
theorem Deal.off (h : Deal H d cs) {b : Addr} {o : HO} (hb : H b = some o) (n : ∀ xs, o ≠ .lst xs) : b ≠ d ∧ b ≠ cs := by
  obtain ⟨c, ns, h1, h2, h3, h4⟩ := h
  refine ⟨fun e => ?_, fun e => ?_⟩
  · rw [e, h2] at hb
    exact n _ (Option.some.inj hb).symm
  · rw [e, h3] at hb
    exact n _ (Option.some.inj hb).symm
theorem tabs_keep {T : List (Addr × Str)} (h : Deal H d cs) (k : ∀ b o, b ≠ d → b ≠ cs → H b = some o → H' b = some o) (t : LamX.Tabs T H) : LamX.Tabs T H' := fun p hp => by
  obtain ⟨ps, h1, h2, h3⟩ := t p hp
  have n1 := h.off h1 fun xs z => by cases z
  refine ⟨ps, k _ _ n1.1 n1.2 h1, h2, fun pos cv hc => ?_⟩
  obtain ⟨c, e, hco⟩ := h3 pos cv hc
  have n2 := h.off hco fun xs z => by
    unfold LamX.CodeO at z
    cases z
  exact ⟨c, e, k _ _ n2.1 n2.2 hco⟩
theorem Lv.kd (k : KD d cs H H') (h2 : Deal H' d cs) (h : Lv K d cs H) : Lv K d cs H' := ⟨h2, tabs_keep h.deal k.other h.tabs⟩
theorem Lv.ex (e : Ex H H') (h : Lv K d cs H) : Lv K d cs H' := h.kd (KD.ex e) (h.deal.ex e)
end
/-! ### values, tests, told where the deal and the tables stand -/
def Dl (K : PySem.W.Frag) (d cs : Addr) (te : TE) (σ : L2.St) (H0 : Hp) (R : V → Hp → Prop) : Prop := ∀ H1, KT H0 H1 → Lv K d cs H1 → ∀ Q : VK, (∀ v H2, KT H1 H2 → Lv K d cs H2 → R v H2 → Q v H2) → te σ H1 Q
def DlT (K : PySem.W.Frag) (d cs : Addr) (tt : TT) (σ : L2.St) (H0 : Hp) (b : Bool) : Prop := ∀ H1, KT H0 H1 → Lv K d cs H1 → ∀ Q : Bool → Hp → Prop, (∀ H2, KT H1 H2 → Lv K d cs H2 → Q b H2) → tt σ H1 Q
section
variable {K : PySem.W.Frag} {d cs : Addr} {σ : L2.St} {H H0 : Hp} {ta tb te : TE} {t1 t2 : TT} {E : XK}
theorem dl_ev {v : V} {R : V → Hp → Prop} (h : ∀ H1, KT H0 H1 → Ev te σ H1 v) (r : ∀ H2, KT H0 H2 → R v H2) : Dl K d cs te σ H0 R := fun H1 k1 l1 Q q => h H1 k1 H1 (Ex.refl H1) _ fun H2 e2 => q v H2 (KT.ex e2) (l1.ex e2) (r H2 (k1.trans (KT.ex e2)))
/-- repr of data -/
theorem dl_repr {x : PyData} {k b : Nat} (h : Dl K d cs te σ H0 fun v H2 => Dt H2 v x ∧ ((∃ a, v = .ref a) ∨ ∃ y, v = .str y)) (g : Good k b x) (hk : k ≤ 64) (hb : b ≤ 300000) : Dl K d cs (tCB (rRepr K) (tCons te tNil)) σ H0 fun v _ => v = .str x.shown := fun H1 k1 l1 Q q => h H1 k1 l1 _ fun v H2 k2 l2 ⟨hd, hv⟩ =>
  ⟨v, x, rfl, hd.dp, g.lay, g.shw, Nat.le_trans g.dep hk, by
    have := g.shown
    omega, hv, q _ H2 k2 l2 rfl⟩
theorem dlt_ne {x y : V} (ha : Dl K d cs ta σ H0 fun v _ => v = x) (hb : Dl K d cs tb σ H0 fun v _ => v = y) (hs : scal x y = true) : DlT K d cs (tTest (tOp rNe ta tb)) σ H0 (!decide (x = y)) := fun H1 k1 l1 Q q => ha H1 k1 l1 _ fun v H2 k2 l2 e1 => by
  subst e1
  refine hb H2 (k1.trans k2) l2 _ fun u H3 k3 l3 e2 => ?_
  subst e2
  exact ⟨hs, _, rfl, q H3 (k2.trans k3) l3⟩
theorem dl_imp {R R2 : V → Hp → Prop} (h : Dl K d cs te σ H0 R) (i : ∀ v H2, R v H2 → R2 v H2) : Dl K d cs te σ H0 R2 := fun H1 k1 l1 Q q => h H1 k1 l1 Q fun v H2 k2 l2 r => q v H2 k2 l2 (i v H2 r)
theorem dlt_or {a b : Bool} (h1 : DlT K d cs t1 σ H0 a) (h2 : DlT K d cs t2 σ H0 b) : DlT K d cs (tOr t1 t2) σ H0 (a || b) := fun H1 k1 l1 Q q => h1 H1 k1 l1 _ fun H2 k2 l2 => by
  cases a with
  | true => exact q H2 k2 l2
  | false => exact h2 H2 (k1.trans k2) l2 _ fun H3 k3 l3 => q H3 (k2.trans k3) l3
/-- a reader's call on a text that is laid of x's tokens -/
theorem dl_read {α : Type} {tk : α → List Tx} {py : α → PyData} {ok : α → Prop} {a : Tx} {g : Bool} {x : α} (h : Dl K d cs te σ H0 fun v _ => v = vS a) (hl : LayF g (tk x) a) (hz : a.length ≤ 60000) (ho : ok x) : Dl K d cs (tCall (spTextR K tk py ok) [] E (tCons te tNil)) σ H0 fun v H2 => Dt H2 v (py x) := fun H1 k1 l1 Q q => h H1 k1 l1 _ fun v H2 k2 l2 e => by
  subst e
  exact ⟨_, rfl, a, g, x, rfl, hl, hz, ho, l2.tabs, fun v H3 kn hd => q v H3 (k2.trans kn.tups) (l2.kn kn) hd⟩
/-- the test false: on -/
theorem q_no {t u : TS} {tt : TT} {D : Ends} (h : DlT K d cs tt σ H false) (l : Lv K d cs H) (k : ∀ H2, KT H H2 → Lv K d cs H2 → u D σ H2) : tSeq (tIfS tt t tNext) u D σ H := h H (KT.refl H) l _ fun H2 k2 l2 => by
  show u D σ H2
  exact k H2 k2 l2
theorem s_no {t : TS} {tt : TT} {D : Ends} (h : DlT K d cs tt σ H false) (l : Lv K d cs H) (k : ∀ H2, KT H H2 → Lv K d cs H2 → D.nx σ H2) : tIfS tt t tNext D σ H := h H (KT.refl H) l _ fun H2 k2 l2 => by
  show D.nx σ H2
  exact k H2 k2 l2
theorem dl_readX {α : Type} {tk : α → List Tx} {py : α → PyData} {ok : α → Prop} {x : α} (h : Dl K d cs te σ H0 fun v _ => ∃ b, v = vS b ∧ LayF true (tk x) b ∧ b.length ≤ 60000) (ho : ok x) : Dl K d cs (tCall (spTextR K tk py ok) [] E (tCons te tNil)) σ H0 fun v H2 => Dt H2 v (py x) := fun H1 k1 l1 Q q => h H1 k1 l1 _ fun v H2 k2 l2 ⟨b, e, hl, hz⟩ => by
  subst e
  exact ⟨_, rfl, b, true, x, rfl, hl, hz, ho, l2.tabs, fun v H3 kn hd => q v H3 (k2.trans kn.tups) (l2.kn kn) hd⟩
/-- a text's words, spread -/
theorem dl_spread {E2 : XK} {a : Tx} {g : Bool} {ts : List Tx} (hv : ∀ H, Ev ta σ H (.ref d)) (h : Dl K d cs te σ H0 fun v _ => v = vS a) (hl : LayS g ts a) (hz : a.length ≤ 14000) :
    Dl K d cs (tOp (rIxT K) (tCall spSpread [] E (tCons ta (tCons (tCall spWords [] E2 (tCons te tNil)) tNil))) (tC (.int 0))) σ H0 fun v _ => ∃ b, v = vS b ∧ LayF true ts b ∧ b.length ≤ 60000 := fun H1 k1 l1 Q q => by
  refine hv H1 H1 (Ex.refl H1) _ fun H2 e2 => h H2 (k1.trans (KT.ex e2)) (l1.ex e2) _ fun v H3 k3 l3 e => ?_
  subst e
  refine ⟨_, rfl, a, g, ts, rfl, hl, by omega, fun p H4 hp e4 hp4 => ?_⟩
  have l4 := l3.ex e4
  have np := l3.deal.ne hp
  have hs := lay_sum hl
  refine ⟨_, _, rfl, d, cs, p, ts, rfl, rfl, l4.deal, hp4, np.1, np.2, hl.toks, by omega, by omega, fun r pl b H5 k5 h5 hr hlay hb => ?_⟩
  exact ⟨r, _, 0, _, rfl, rfl, SqT.of hr, rfl, q (vS b) H5 ((KT.ex e2).trans (k3.trans ((KT.ex e4).trans k5.tups))) (l4.kd k5 h5) ⟨b, rfl, hlay, hb⟩⟩
/-- the refusal of a lambda that does not raise: None -/
theorem dlt_refusal {tl : XK → TE} {R : V → Hp → Prop} (h : Dl K d cs (tl fun _ _ _ => False) σ H0 R) : DlT K d cs (tTest (tOp rNotN (LamX.tLam (tabT K) TTr tl) (tC .non))) σ H0 false := fun H1 k1 l1 Q q => by
  refine ⟨l1.tabs, fun H2 eN t2 => ?_⟩
  have kt : KT H1 H2 := fun b xs hb => eN _ _ hb noTb_tup
  have l2 : Lv K d cs H2 := by
    obtain ⟨b, ns, h1, h2, h3, h4⟩ := l1.deal
    exact ⟨⟨b, ns, h1, eN _ _ h2 noTb_lst, eN _ _ h3 noTb_lst, h4⟩, t2⟩
  exact h H2 (k1.trans kt) l2 _ fun v H3 k3 l3 _ => ⟨rfl, _, rfl, q H3 (kt.trans k3) l3⟩
end
theorem tk_128 {t : Tx} (h : TkOk t) : ∀ c ∈ t, c < 128 := by
  have hw : ∀ c, isWd c = true → c < 128 := fun c hc => of_decide_eq_true (wd_all (P := fun c => decide (c < 128)) (by decide) hc)
  have hs : ∀ c, isSg c = true → c < 128 := fun c hc => of_decide_eq_true (sg_all (P := fun c => decide (c < 128)) (by decide) hc)
  cases h with
  | sg hc =>
    intro c h
    rw [List.mem_singleton.mp h]
    exact hs _ hc
  | wd hc hr =>
    intro c h
    rcases List.mem_cons.mp h with h | h
    · rw [h]
      exact hw _ hc
    · exact hw _ (hr _ h)
  | mk hm hc hr =>
    intro c h
    rcases List.mem_cons.mp h with h | h
    · rw [h]
      have h' := (show _ = 36 ∨ _ = 64 by simpa using hm)
      omega
    · rcases List.mem_cons.mp h with h | h
      · rw [h]
        exact hw _ hc
      · exact hw _ (hr _ h)
theorem lay_128 {near : Tx → Bool} : ∀ {ts : List Tx} {g : Bool} {x : Tx}, Lay near g ts x → ∀ c ∈ x, c < 128
  | [], _, _, h => by
    cases h with
    | nil hs =>
      intro c hc
      rcases bl_cases (hs c hc) with e | e <;> omega
  | t :: ts, _, _, h => by
    cases h with
    | cons hs hn ht hr e =>
      intro c hc
      rw [e] at hc
      rcases List.mem_append.mp hc with hc | hc
      · rcases bl_cases (hs c hc) with e | e <;> omega
      · rcases List.mem_append.mp hc with hc | hc
        · exact tk_128 ht c hc
        · exact lay_128 hr c hc
section
variable {K : PySem.W.Frag} {d cs : Addr} {σ : L2.St} {H H0 : Hp} {ta tb te : TE}
theorem dlt_same {x : V} (ha : Dl K d cs ta σ H0 fun v _ => v = x) (hb : Dl K d cs tb σ H0 fun v _ => v = x) (hs : scal x x = true) : DlT K d cs (tTest (tOp rNe ta tb)) σ H0 false := by
  have h := dlt_ne ha hb hs
  rw [decide_eq_true rfl] at h
  exact h
theorem dl_str {a : Tx} (h : ∀ H1, KT H0 H1 → Ev te σ H1 (vS a)) : Dl K d cs te σ H0 fun v H2 => Dt H2 v (tx a) ∧ ((∃ a, v = .ref a) ∨ ∃ y, v = .str y) := dl_ev h fun H2 _ => ⟨.str _, .inr ⟨_, rfl⟩⟩
theorem dl_strV {a : Tx} (h : ∀ H1, KT H0 H1 → Ev te σ H1 (vS a)) : Dl K d cs te σ H0 fun v _ => v = vS a := dl_ev h fun H2 _ => rfl
theorem dl_dat {v : V} {xs : List PyData} (h : ∀ H1, Ev te σ H1 v) (hd : Dt H0 v (.tuple xs)) : Dl K d cs te σ H0 fun v H2 => Dt H2 v (.tuple xs) ∧ ((∃ a, v = .ref a) ∨ ∃ y, v = .str y) := dl_ev (fun H1 _ => h H1) fun H2 k => ⟨hd.kt k, by
  obtain ⟨p, ys, e, _⟩ := hd.tupE
  exact .inl ⟨p, e⟩⟩
theorem dl_tup {xs : List PyData} (h : Dl K d cs te σ H0 fun v H2 => Dt H2 v (.tuple xs)) : Dl K d cs te σ H0 fun v H2 => Dt H2 v (.tuple xs) ∧ ((∃ a, v = .ref a) ∨ ∃ y, v = .str y) := dl_imp h fun v H2 hd => ⟨hd, by
  obtain ⟨p, ys, e, _⟩ := hd.tupE
  exact .inl ⟨p, e⟩⟩
end
end K6
/-! K6V4b: the law's body: the last test of the modules, two draws at once. -/
namespace K6
open PySem PySem.Spec PyProof.Rows L2 Evl
section
variable {K : PySem.W.Frag} {d cs : Addr} {σ : L2.St} {H H0 : Hp} {ta tb tc td te : TE} {E : XK}
theorem dl_eq {x y : V} (ha : Dl K d cs ta σ H0 fun v _ => v = x) (hb : Dl K d cs tb σ H0 fun v _ => v = y) (hs : scal x y = true) : Dl K d cs (tOp rEq ta tb) σ H0 fun v _ => v = .bl (decide (x = y)) := fun H1 k1 l1 Q q => ha H1 k1 l1 _ fun v H2 k2 l2 e1 => by
  subst e1
  refine hb H2 (k1.trans k2) l2 _ fun u H3 k3 l3 e2 => ?_
  subst e2
  exact ⟨hs, q _ H3 (k2.trans k3) l3 rfl⟩
theorem dl_eqD {x y : PyData} (ha : Dl K d cs ta σ H0 fun v H2 => Dt H2 v x) (hb : Dl K d cs tb σ H0 fun v H2 => Dt H2 v y) (hx : SeqAt.shaped x = true) (hy : SeqAt.shaped y = true) : Dl K d cs (tOp (rEqD K) ta tb) σ H0 fun v _ => v = .bl (PyData.eqv x y) := fun H1 k1 l1 Q q =>
  ha H1 k1 l1 _ fun v H2 k2 l2 d1 => hb H2 (k1.trans k2) l2 _ fun u H3 k3 l3 d2 => ⟨x, y, (d1.kt k3).dp, d2.dp, hx, hy, q _ H3 (k2.trans k3) l3 rfl⟩
/-- unlike modules have unlike texts -/
theorem dlt_other {m o : Md} (h1 : Dl K d cs ta σ H0 fun v _ => v = vS o.txt) (h2 : Dl K d cs tb σ H0 fun v _ => v = vS m.txt) (h3 : Dl K d cs tc σ H0 fun v H2 => Dt H2 v o.py) (h4 : Dl K d cs td σ H0 fun v H2 => Dt H2 v m.py) (hm : MdOk m) (ho : MdOk o) :
    DlT K d cs (tTest (tOp rNe (tOp rEq ta tb) (tOp (rEqD K) tc td))) σ H0 false := by
  refine dlt_same (x := .bl (decide (o.txt = m.txt))) (dl_imp (dl_eq h1 h2 rfl) fun v H2 e => ?_) (dl_imp (dl_eqD h3 h4 ((good_md ho).shaped (by decide)) ((good_md hm).shaped (by decide))) fun v H2 e => ?_) rfl
  · rw [e]
    refine congrArg V.bl ?_
    by_cases z : o.txt = m.txt
    · rw [z, decide_eq_true rfl, decide_eq_true rfl]
    · rw [decide_eq_false z]
      refine decide_eq_false fun y => z (SX.S_inj ?_)
      injection y
  · rw [e, md_eqv ho hm]
theorem q_parD {i j : Nat} {P R : PyData → Prop} {u : TS} {D : Ends} (l : Lv K d cs H) (h1 : Dd d cs ta σ H P) (h2 : Dd d cs tb σ H R) (k : ∀ v y H2 a b, KD d cs H H2 → Lv K d cs H2 → Dt H2 v a → P a → Dt H2 y b → R b → u D ((σ.set i (some v)).set j (some y)) H2) : tSeq (tPar i j (tCons ta (tCons tb tNil))) u D σ H :=
  h1 H (KD.refl d cs H) l.deal _ fun v H1 a k1 d1 ha pa => h2 H1 k1 d1 _ fun y H2 b k2 d2 hb pb => ⟨v, y, rfl, k v y H2 a b (k1.trans k2) (l.kd (k1.trans k2) d2) (ha.kt k2.tups) pa hb pb⟩
theorem dl_var {i : Nat} {v : V} {x : PyData} (h : σ[i]? = some (some v)) (hd : Dt H0 v x) : Dl K d cs (tVar i) σ H0 fun v H2 => Dt H2 v x := dl_ev (fun _ _ => ev_var h) fun H2 k => hd.kt k
/-- a module read back, an op read back, shown -/
theorem dl_backM {a : Tx} {g : Bool} {m : Md} (h : Dl K d cs te σ H0 fun v _ => v = vS a) (hl : LayF g m.tks a) (hz : a.length ≤ 60000) (ho : MdOk m) : Dl K d cs (tCB (rRepr K) (tCons (tCall (spTextR K Md.tks Md.py MdOk) [] E (tCons te tNil)) tNil)) σ H0 fun v _ => v = .str m.py.shown :=
  dl_repr (dl_tup (xs := [.tuple (m.gs.map Gb.py), .tuple (m.fs.map Fn.py)]) (dl_read (tk := Md.tks) (py := Md.py) (ok := MdOk) (x := m) h hl hz ho)) (good_md ho) (by decide) (by decide)
theorem dl_backO {a : Tx} {g : Bool} {o : Op} (h : Dl K d cs te σ H0 fun v _ => v = vS a) (hl : LayF g o.tks a) (hz : a.length ≤ 60000) (ho : OpOk o) : Dl K d cs (tCB (rRepr K) (tCons (tCall (spTextR K Op.tks Op.py OpOk) [] E (tCons te tNil)) tNil)) σ H0 fun v _ => v = .str o.py.shown :=
  dl_repr (dl_tup (xs := [optPy o.made, tx o.kind, .tuple o.info, argsPy o.args]) (dl_read (tk := Op.tks) (py := Op.py) (ok := OpOk) (x := o) h hl hz ho)) (good_op ho) (by decide) (by decide)
theorem dl_backX {o : Op} (h : Dl K d cs te σ H0 fun v _ => ∃ b, v = vS b ∧ LayF true o.tks b ∧ b.length ≤ 60000) (ho : OpOk o) : Dl K d cs (tCB (rRepr K) (tCons (tCall (spTextR K Op.tks Op.py OpOk) [] E (tCons te tNil)) tNil)) σ H0 fun v _ => v = .str o.py.shown :=
  dl_repr (dl_tup (xs := [optPy o.made, tx o.kind, .tuple o.info, argsPy o.args]) (dl_readX (tk := Op.tks) (py := Op.py) (ok := OpOk) (x := o) h ho)) (good_op ho) (by decide) (by decide)
/-- the thing itself, shown -/
theorem dl_selfM {v : V} {m : Md} (h : ∀ H1, Ev te σ H1 v) (hd : Dt H0 v m.py) (ho : MdOk m) : Dl K d cs (tCB (rRepr K) (tCons te tNil)) σ H0 fun v _ => v = .str m.py.shown := dl_repr (dl_dat (xs := [.tuple (m.gs.map Gb.py), .tuple (m.fs.map Fn.py)]) h hd) (good_md ho) (by decide) (by decide)
theorem dl_selfO {v : V} {o : Op} (h : ∀ H1, Ev te σ H1 v) (hd : Dt H0 v o.py) (ho : OpOk o) : Dl K d cs (tCB (rRepr K) (tCons te tNil)) σ H0 fun v _ => v = .str o.py.shown := dl_repr (dl_dat (xs := [optPy o.made, tx o.kind, .tuple o.info, argsPy o.args]) h hd) (good_op ho) (by decide) (by decide)
/-- a text shown -/
theorem dl_txt {a : Tx} {n : Nat} (h : ∀ H1, KT H0 H1 → Ev te σ H1 (vS a)) (hn : a.length ≤ n) (ha : ∀ c ∈ a, c < 128) (hz : n ≤ 14000) : Dl K d cs (tCB (rRepr K) (tCons te tNil)) σ H0 fun v _ => v = .str (tx a).shown := dl_repr (dl_str h) (good_tx (k := 0) (b := n) hn ha) (by decide) (by omega)
end
end K6
/-! K6V4: the law's body. -/
namespace K6
open PySem PySem.Spec PyProof.Rows L2 Evl
section
variable {P : Program} {w : World} {K : PySem.W.Frag} {mg : Str → Option Value} {base : Heap}
/-- what the law calls -/
structure Calls6 (P : Program) (w : World) (K : PySem.W.Frag) (mg : Str → Option Value) (base : Heap) : Prop where
  draw : C8.Cal P w K mg base 1 "_law_draw" (spDraw (K := K)) []
  module : C8.Cal P w K mg base 9 "_law_module" (spDr MdP) []
  text : C8.Cal P w K mg base 7 "_law_text" spMd []
  words : C8.Cal P w K mg base 1 "_law_words" spWords []
  spread : C8.Cal P w K mg base 3 "_law_spread" spSpread []
  op : C8.Cal P w K mg base 6 "_law_op" (spDr OpP) []
  ending : C8.Cal P w K mg base 7 "_law_ending" (spDr EndP) []
  opText : C8.Cal P w K mg base 4 "_law_op_text" spOp []
  endText : C8.Cal P w K mg base 4 "_law_ending_text" spEnd []
  mText : CalB P w K mg base 7 "module_text" "module" spMd
  oText : CalB P w K mg base 4 "op_text" "op" spOp
  eText : CalB P w K mg base 4 "ending_text" "ending" spEnd
  rMod : CalB P w K mg base 10 "read_module" "text" (spTextR K Md.tks Md.py MdOk)
  rOp : CalB P w K mg base 8 "read_op" "text" (spTextR K Op.tks Op.py OpOk)
theorem law_body (T : Txt w K mg) (W : Told K) (TB : LamX.TabB base mg (He.cT K ("law", none)).1 (He.cT K ("law", none)).2) (Z : Calls6 P w K mg base) (s : Shared) (H : Hp) (a : Addr) (ns : List Int) (E : XK) (hT : LamX.Tabs (tabT K) H) (hS : SqL K H a (ns.map V.int)) (hn : ns.length ≤ 63)
    (hr : Room 12 (callerA.deeper (envOfC "law" (defScope s_law) s.heap.objs.size (He.ga K "law") (.ref (He.cT K ("law", none)).1)))) :
    ∃ t, PSs (cxOf C8.CX0 P w K mg base n_law "law" (defScope s_law) (He.ga K "law") (.ref (He.cT K ("law", none)).1) callerA [] s H E).nox (defBody s_law) t ∧ t { nx := fun _ H' => (.non : V) = .bl true, rt := fun v _ => v = .bl true } (start n_law [.ref a]) H := by
  have hrp : (cxOf C8.CX0 P w K mg base n_law "law" (defScope s_law) (He.ga K "law") (.ref (He.cT K ("law", none)).1) callerA [] s H E).nox.A.units + 66 < cLine := by
    show callerA.units + 3 + 66 < cLine
    decide
  have c__law_draw := Z.draw
  have c__law_module := Z.module
  have c__law_text := Z.text
  have c__law_words := Z.words
  have c__law_spread := Z.spread
  have c__law_op := Z.op
  have c__law_ending := Z.ending
  have c__law_op_text := Z.opText
  have c__law_ending_text := Z.endText
  have k_module_text := Z.mText.kw
  have c_module_text := Z.mText.pos
  have k_op_text := Z.oText.kw
  have c_op_text := Z.oText.pos
  have k_ending_text := Z.eText.kw
  have c_ending_text := Z.eText.pos
  have k_read_module := Z.rMod.kw
  have c_read_module := Z.rMod.pos
  have k_read_op := Z.rOp.kw
  have c_read_op := Z.rOp.pos
  obtain ⟨fd, F⟩ := T.t.d.defs m_def__law_refusal
  have F' : FunD K "_law_refusal" "_law_refusal" (defArgs s__law_refusal) (defBody s__law_refusal) (defScope s__law_refusal) [] [] (He.ga K "_law_refusal") fd := F
  have bN := F'.bindsN (ps := ["_law_work"]) bi__law_refusal
  obtain ⟨oc, od, dV, kV, doc, pm, an, cdv, ct, osl, rfl, lk, hcd, _, _⟩ := F'.ex
  have hu : ∀ p ∈ tabT K, p.1 = (He.cT K ("law", none)).2 → p.2 = ("law" : Str) ++ ".<locals>." ++ "<lambda>" := fun p hp e => by
    rcases List.mem_cons.mp hp with rfl | hp
    · exact absurd e W.apart
    · rw [List.mem_singleton.mp hp]
  refine ⟨_, (pss_cons (ps_set (i := 1) sc_law.nd rfl (Or.inl rfl) (C8.pe_c c__law_draw hr (by decide) (by rfl) (pa_cons (pv 0) (pa_cons pe_int pa_nil))))
  (pss_cons (ps_for PassesOwn.never rfl (pi_range1 rfl (T.free m_free_range) (pa_cons pe_int pa_nil)) (pg_name (i := 2) sc_law.nd rfl (Or.inl rfl)) (pss_cons (ps_set (i := 3) sc_law.nd rfl (Or.inl rfl) (C8.pe_c c__law_module hr (by decide) (by rfl) (pa_cons (pv 1) pa_nil)))
  (pss_cons (ps_set (i := 4) sc_law.nd rfl (Or.inl rfl) (C8.pe_c c__law_text hr (by decide) (by rfl) (pa_cons (pv 3) pa_nil)))
  (pss_cons (ps_if (PW.pt (pw_or (pt_cmpR op_ne (pe_callB (cr_repr rfl hrp) (by rfl) (T.free m_free_repr) (by decide +kernel) (pa_cons (pe_ck k_module_text hr (by decide) (by rfl) (pv 3)) pa_nil)) (pe_callB (cr_repr rfl hrp) (by rfl) (T.free m_free_repr) (by decide +kernel) (pa_cons (pv 4) pa_nil)) (nomark _)) (pw_or1 (pt_cmpR op_ne (pe_callB (cr_repr rfl hrp) (by rfl) (T.free m_free_repr) (by decide +kernel) (pa_cons (pe_ck k_read_module hr (by decide) (by rfl) (pv 4)) pa_nil)) (pe_callB (cr_repr rfl hrp) (by rfl) (T.free m_free_repr) (by decide +kernel) (pa_cons (pv 3) pa_nil)) (nomark _))))) (pss_one (ps_ret pe_bl)) pss_nil)
  (pss_cons (ps_set (i := 5) sc_law.nd rfl (Or.inr rfl) (pe_ix ix_tup (C8.pe_c c__law_spread hr (by decide) (by rfl) (pa_cons (pv 1) (pa_cons (C8.pe_c c__law_words hr (by decide) (by rfl) (pa_cons (pv 4) pa_nil)) pa_nil))) pe_int (fun _ _ => rfl)))
  (pss_cons (ps_if (PW.pt (pw_or (pt_cmpR op_ne (pe_callB (cr_repr rfl hrp) (by rfl) (T.free m_free_repr) (by decide +kernel) (pa_cons (C8.pe_c c_read_module hr (by decide) (by rfl) (pa_cons (pv 5) pa_nil)) pa_nil)) (pe_callB (cr_repr rfl hrp) (by rfl) (T.free m_free_repr) (by decide +kernel) (pa_cons (pv 3) pa_nil)) (nomark _)) (pw_or1 (pt_cmpR op_notN1 (LamX.pe_lamcall (T := tabT K) (TT := TTr) (k := 10) (a := "_law_work") (by rfl) (T.glo m_glo__law_refusal) F'.kp lk hcd bN sc__law_refusal rfl (Or.inl rfl) (refusal_gives fun _ => rfl) TB rfl (List.mem_cons_of_mem _ List.mem_cons_self) hu hr (LamX.lamS_by (by rfl)) (by rfl) (fun _ _ _ _ _ => rfl)
      (fun A outer s H E f c' hr2 => C8.pe_c c_read_module hr2 (by decide) (by rfl) (pa_cons (pe_var (i := 5) rfl (.inr (.inr rfl))) pa_nil))) pe_non (nomark _))))) (pss_one (ps_ret pe_bl)) pss_nil)
  (pss_cons (ps_set (i := 6) sc_law.nd rfl (Or.inl rfl) (C8.pe_c c__law_module hr (by decide) (by rfl) (pa_cons (pv 1) pa_nil)))
  (pss_one (ps_if (pt_cmpR op_ne (pe_cmpR op_eq (C8.pe_c c_module_text hr (by decide) (by rfl) (pa_cons (pv 6) pa_nil)) (pv 4) (nomark _)) (pe_cmpR (op_eqD hr.units) (pv 6) (pv 3) (nomark _)) (nomark _)) (pss_one (ps_ret pe_bl)) pss_nil)))))))))
  (pss_cons (ps_for PassesOwn.never rfl (pi_range1 rfl (T.free m_free_range) (pa_cons pe_int pa_nil)) (pg_name (i := 2) sc_law.nd rfl (Or.inl rfl)) (pss_cons (ps_par (i := 7) (j := 8) (by rfl) sc_law.nd rfl rfl (by decide) rfl rfl (pa_cons (C8.pe_c c__law_op hr (by decide) (by rfl) (pa_cons (pv 1) pa_nil)) (pa_cons (C8.pe_c c__law_ending hr (by decide) (by rfl) (pa_cons (pv 1) pa_nil)) pa_nil)) (by rfl))
  (pss_cons (ps_if (pt_cmpR op_ne (pe_callB (cr_repr rfl hrp) (by rfl) (T.free m_free_repr) (by decide +kernel) (pa_cons (pe_ck k_op_text hr (by decide) (by rfl) (pv 7)) pa_nil)) (pe_callB (cr_repr rfl hrp) (by rfl) (T.free m_free_repr) (by decide +kernel) (pa_cons (C8.pe_c c__law_op_text hr (by decide) (by rfl) (pa_cons (pv 7) pa_nil)) pa_nil)) (nomark _)) (pss_one (ps_ret pe_bl)) pss_nil)
  (pss_cons (ps_if (pt_cmpR op_ne (pe_callB (cr_repr rfl hrp) (by rfl) (T.free m_free_repr) (by decide +kernel) (pa_cons (pe_ck k_ending_text hr (by decide) (by rfl) (pv 8)) pa_nil)) (pe_callB (cr_repr rfl hrp) (by rfl) (T.free m_free_repr) (by decide +kernel) (pa_cons (C8.pe_c c__law_ending_text hr (by decide) (by rfl) (pa_cons (pv 8) pa_nil)) pa_nil)) (nomark _)) (pss_one (ps_ret pe_bl)) pss_nil)
  (pss_cons (ps_if (pt_cmpR op_ne (pe_callB (cr_repr rfl hrp) (by rfl) (T.free m_free_repr) (by decide +kernel) (pa_cons (pe_ck k_read_op hr (by decide) (by rfl) (C8.pe_c c__law_op_text hr (by decide) (by rfl) (pa_cons (pv 7) pa_nil))) pa_nil)) (pe_callB (cr_repr rfl hrp) (by rfl) (T.free m_free_repr) (by decide +kernel) (pa_cons (pv 7) pa_nil)) (nomark _)) (pss_one (ps_ret pe_bl)) pss_nil)
  (pss_one (ps_if (pt_cmpR op_ne (pe_callB (cr_repr rfl hrp) (by rfl) (T.free m_free_repr) (by decide +kernel) (pa_cons (C8.pe_c c_read_op hr (by decide) (by rfl) (pa_cons (pe_ix ix_tup (C8.pe_c c__law_spread hr (by decide) (by rfl) (pa_cons (pv 1) (pa_cons (C8.pe_c c__law_words hr (by decide) (by rfl) (pa_cons (C8.pe_c c__law_op_text hr (by decide) (by rfl) (pa_cons (pv 7) pa_nil)) pa_nil)) pa_nil))) pe_int (fun _ _ => rfl)) pa_nil)) pa_nil)) (pe_callB (cr_repr rfl hrp) (by rfl) (T.free m_free_repr) (by decide +kernel) (pa_cons (pv 7) pa_nil)) (nomark _)) (pss_one (ps_ret pe_bl)) pss_nil)))))))
  (pss_one (ps_ret pe_bl))))), ?_⟩
  refine ⟨_, rfl, _, _, rfl, a, ns, 6, rfl, rfl, hS, hn, fun d cs H1 hd hcs e1 hdl => ?_⟩
  have l1 : Lv K d cs H1 := ⟨hdl, fun p hp => by
    obtain ⟨ps, h1, h2, h3⟩ := hT p hp
    refine ⟨ps, e1 _ _ h1, h2, fun pos cv hc => ?_⟩
    obtain ⟨c, e, hco⟩ := h3 pos cv hc
    exact ⟨c, e, e1 _ _ hco⟩⟩
  refine q_forR1 (ea_cons ev_c ea_nil) (by decide) (fun i σ' H' => Lv K d cs H' ∧ ∃ y2 y3 y4 y5 y6 y7 y8, σ' = [some (.ref a), some (.ref d), y2, y3, y4, y5, y6, y7, y8]) (fun H2 e2 => ⟨l1.ex e2, _, _, _, _, _, _, _, rfl⟩) (fun i σ' H' hi ⟨l, y2, y3, y4, y5, y6, y7, y8, eσ⟩ => ?_) fun σ' H' ⟨l, y2, y3, y4, y5, y6, y7, y8, eσ⟩ => ?_
  · subst eσ
    refine q_asgD l.deal (dd_dr fun _ => ev_var rfl) fun v3 H3 x3 k3 h3 d3 ⟨m, em, ho⟩ => ?_
    subst em
    have l3 := l.kd k3 h3
    have hlen := md_len2 ho
    have hlay := lay_md ho
    refine q_asg (call_md (ev_var rfl) d3 ho (by omega)) fun H4 e4 => ?_
    have l4 := l3.ex e4
    have d4 := d3.kt (KT.ex e4)
    refine q_no (K := K) (d := d) (cs := cs) (dlt_or (a := false) (b := false) (dlt_same (dl_txt (fun H5 k5 => call_md (ev_var rfl) (d4.kt k5) ho (by omega)) hlen (lay_128 hlay) (by omega)) (dl_txt (fun H5 k5 => ev_var rfl) hlen (lay_128 hlay) (by omega)) rfl)
      (dlt_same (dl_backM (dl_strV fun H5 k5 => ev_var rfl) hlay.weak (by omega) ho) (dl_selfM (fun _ => ev_var rfl) d4 ho) rfl)) l4 fun H5 k5 l5 => ?_
    refine dl_spread (K := K) (d := d) (cs := cs) (ta := tVar 1) (fun _ => ev_var rfl) (dl_strV fun H6 k6 => ev_var rfl) hlay (by omega) H5 (KT.refl H5) l5 _ fun v6 H6 k6 l6 ⟨b, eb, hb, hbz⟩ => ?_
    subst eb
    have d6 := (d4.kt k5).kt k6
    refine q_no (K := K) (d := d) (cs := cs) (dlt_or (σ := [some (.ref a), some (.ref d), some (.int (i : Int)), some v3, some (vS m.txt), some (vS b), y6, y7, y8]) (a := false) (b := false) (dlt_same (dl_backM (te := tVar 5) (dl_strV fun H5 k5 => ev_var rfl) hb hbz ho) (dl_selfM (te := tVar 3) (fun _ => ev_var rfl) d6 ho) rfl)
      ?_) l6 fun H7 k7 l7 => ?_
    · exact dlt_refusal (tl := fun _ => tCall (spTextR K Md.tks Md.py MdOk) [] C8.E0 (tCons (tVar 5) tNil)) (dl_read (tk := Md.tks) (py := Md.py) (ok := MdOk) (x := m) (dl_strV fun H5 k5 => ev_var rfl) hb hbz ho)
    have d7 := d6.kt k7
    refine q_asgD l7.deal (dd_dr fun _ => ev_var rfl) fun v8 H8 x8 k8 h8 d8 ⟨m2, em2, ho2⟩ => ?_
    subst em2
    have l8 := l7.kd k8 h8
    have d9 := d7.kt k8.tups
    have hlen2 := md_len2 ho2
    exact s_no (K := K) (d := d) (cs := cs) (dlt_other (dl_strV fun H9 k9 => call_md (ev_var rfl) (d8.kt k9) ho2 (by omega)) (dl_strV fun H9 k9 => ev_var rfl) (dl_var rfl d8) (dl_var rfl d9) ho ho2) l8 fun H9 k9 l9 => ⟨l9, _, _, _, _, _, _, _, rfl⟩
  · subst eσ
    refine q_forR1 (ea_cons ev_c ea_nil) (by decide) (fun i σ' H' => Lv K d cs H' ∧ ∃ y2 y3 y4 y5 y6 y7 y8, σ' = [some (.ref a), some (.ref d), y2, y3, y4, y5, y6, y7, y8]) (fun H2 e2 => ⟨l.ex e2, _, _, _, _, _, _, _, rfl⟩) (fun i σ' H' hi ⟨l, y2, y3, y4, y5, y6, y7, y8, eσ⟩ => ?_) fun σ' H' ⟨l, y2, y3, y4, y5, y6, y7, y8, eσ⟩ => ?_
    · subst eσ
      refine q_parD l (dd_dr fun _ => ev_var rfl) (dd_dr fun _ => ev_var rfl) fun v7 v8 H2 x7 x8 k2 l2 d7 ⟨o, eo, ho⟩ d8 ⟨e, ee, he⟩ => ?_
      subst eo
      subst ee
      have zo := op_len ho
      have ze := end_len he
      have lo := lay_op ho
      refine q_no (K := K) (d := d) (cs := cs) (dlt_same (dl_txt (fun H5 k5 => call_op (ev_var rfl) (d7.kt k5) ho (by omega)) zo (lay_128 lo) (by omega)) (dl_txt (fun H5 k5 => call_op (ev_var rfl) (d7.kt k5) ho (by omega)) zo (lay_128 lo) (by omega)) rfl) l2 fun H3 k3 l3 => ?_
      have d3 := d8.kt k3
      refine q_no (K := K) (d := d) (cs := cs) (dlt_same (dl_txt (fun H5 k5 => call_end (ev_var rfl) (d3.kt k5) he (by omega)) ze (lay_128 (lay_end he)) (by omega)) (dl_txt (fun H5 k5 => call_end (ev_var rfl) (d3.kt k5) he (by omega)) ze (lay_128 (lay_end he)) (by omega)) rfl) l3 fun H4 k4 l4 => ?_
      have d4 := (d7.kt k3).kt k4
      refine q_no (K := K) (d := d) (cs := cs) (dlt_same (dl_backO (dl_strV fun H5 k5 => call_op (ev_var rfl) (d4.kt k5) ho (by omega)) lo.weak (by omega) ho) (dl_selfO (fun _ => ev_var rfl) d4 ho) rfl) l4 fun H5 k5 l5 => ?_
      have d5 := d4.kt k5
      exact s_no (K := K) (d := d) (cs := cs) (dlt_same (dl_backX (dl_spread (ta := tVar 1) (fun _ => ev_var rfl) (dl_strV fun H6 k6 => call_op (ev_var rfl) (d5.kt k6) ho (by omega)) lo (by omega)) ho) (dl_selfO (fun _ => ev_var rfl) d5 ho) rfl) l5 fun H6 k6 l6 => ⟨l6, _, _, _, _, _, _, _, rfl⟩
    · subst eσ
      exact s_ret ev_c fun H2 e2 => rfl
end
end K6
/-! K6V5: all that the law calls; the law's run (printed by gen_calls.py). -/
namespace K6
open PySem PySem.Spec PyProof.Rows L2 Evl
section
variable {P : Program} {w : World} {K : PySem.W.Frag} {mg : Str → Option Value} {base : Heap}
theorem calls6 (T : Txt w K mg) (W : Told K) (TB : LamX.TabB base mg (He.cT K ("read_global", none)).1 (He.cT K ("read_global", none)).2) : Calls6 P w K mg base := by
  have c_run_end := ok_run_end (P := P) (w := w) (K := K) (mg := mg) (base := base) T
  have c_token_end := ok_token_end (P := P) (w := w) (K := K) (mg := mg) (base := base) T c_run_end
  have c_scanned := ok_scanned (P := P) (w := w) (K := K) (mg := mg) (base := base) T c_token_end
  have c_number_of := ok_number_of (P := P) (w := w) (K := K) (mg := mg) (base := base) T
  have c_is_name := ok_is_name (P := P) (w := w) (K := K) (mg := mg) (base := base) T
  have c_word := ok_word (P := P) (w := w) (K := K) (mg := mg) (base := base) T
  have c_need := ok_need (P := P) (w := w) (K := K) (mg := mg) (base := base) T c_word
  have c_number := ok_number (P := P) (w := w) (K := K) (mg := mg) (base := base) T c_word c_number_of
  have c_name := ok_name (P := P) (w := w) (K := K) (mg := mg) (base := base) T c_word c_is_name
  have c_close := ok_close (P := P) (w := w) (K := K) (mg := mg) (base := base) T
  have c_init := ok_init (P := P) (w := w) (K := K) (mg := mg) (base := base) T c_scanned
  have c_one_of := ok_one_of (P := P) (w := w) (K := K) (mg := mg) (base := base) T c_word
  have c_operand := ok_read_operand (P := P) (w := w) (K := K) (mg := mg) (base := base) T c_word c_number c_name
  have c_args := ok_read_args (P := P) (w := w) (K := K) (mg := mg) (base := base) T c_need c_operand
  have c_list_o := ok_list_def (op := [40]) (cl := [41]) (P := P) (w := w) (K := K) (mg := mg) (base := base) T c_word c_need c_operand (T.glo m_glo_read_operand) opd_close (by decide)
  have c_target := ok_read_target (P := P) (w := w) (K := K) (mg := mg) (base := base) T c_number c_list_o
  have c_call := ok_read_call (P := P) (w := w) (K := K) (mg := mg) (base := base) T c_name c_list_o
  have c_cast := ok_read_cast (P := P) (w := w) (K := K) (mg := mg) (base := base) T W c_one_of c_need c_args
  have c_alloca := ok_read_alloca (P := P) (w := w) (K := K) (mg := mg) (base := base) T W c_one_of c_need c_number
  have c_deed := ok_read_deed (P := P) (w := w) (K := K) (mg := mg) (base := base) T W c_word c_need c_one_of c_args c_cast c_call c_alloca
  have c_any_op := ok_read_any_op (P := P) (w := w) (K := K) (mg := mg) (base := base) T W c_word c_need c_number c_one_of c_args c_call c_deed
  have c_ending := ok_read_ending (P := P) (w := w) (K := K) (mg := mg) (base := base) T W c_word c_need c_one_of c_operand c_target
  have c_param := ok_read_param (P := P) (w := w) (K := K) (mg := mg) (base := base) T W c_one_of c_number
  have c_type := ok_read_type (P := P) (w := w) (K := K) (mg := mg) (base := base) T W c_one_of
  have c_list_p := ok_list_def (op := [40]) (cl := [41]) (P := P) (w := w) (K := K) (mg := mg) (base := base) T c_word c_need c_param (T.glo m_glo_read_param) par_close (by decide)
  have c_list_t := ok_list_def (op := [40]) (cl := [41]) (P := P) (w := w) (K := K) (mg := mg) (base := base) T c_word c_need c_type (T.glo m_glo_read_type) ty_close (by decide)
  have c_block := ok_read_block (P := P) (w := w) (K := K) (mg := mg) (base := base) T c_word c_need c_number c_list_p c_any_op c_ending
  have c_new_name := ok_read_new_name (P := P) (w := w) (K := K) (mg := mg) (base := base) T c_word c_name
  have c_function := ok_read_function (P := P) (w := w) (K := K) (mg := mg) (base := base) T W c_word c_need c_one_of c_new_name c_list_t c_block
  have c_global := ok_read_global (P := P) (w := w) (K := K) (mg := mg) (base := base) T W TB c_word c_need c_number c_one_of c_new_name
  have c_rOp := ok_read_op (P := P) (w := w) (K := K) (mg := mg) (base := base) T c_init c_close c_any_op
  have c_rMod := ok_read_module (P := P) (w := w) (K := K) (mg := mg) (base := base) T c_init c_word c_close c_global c_function
  have c_type_text := ok_type_text (P := P) (w := w) (K := K) (mg := mg) (base := base) T
  have c_operand_text := ok_operand_text (P := P) (w := w) (K := K) (mg := mg) (base := base) T
  have c_args_text := ok_args_text (P := P) (w := w) (K := K) (mg := mg) (base := base) T c_operand_text
  have c_target_text := ok_target_text (P := P) (w := w) (K := K) (mg := mg) (base := base) T c_args_text
  have c_head_text := ok_head_text (P := P) (w := w) (K := K) (mg := mg) (base := base) T c_type_text
  have c_deed_text := ok_deed_text (P := P) (w := w) (K := K) (mg := mg) (base := base) T c_type_text c_args_text c_head_text
  have c_oText := ok_op_text (P := P) (w := w) (K := K) (mg := mg) (base := base) T c_deed_text
  have c_eText := ok_ending_text (P := P) (w := w) (K := K) (mg := mg) (base := base) T c_operand_text c_target_text
  have c_global_line := ok_global_line (P := P) (w := w) (K := K) (mg := mg) (base := base) T c_type_text
  have c_block_lines := ok_block_lines (P := P) (w := w) (K := K) (mg := mg) (base := base) T c_type_text c_oText.pos c_eText.pos
  have c_function_lines := ok_function_lines (P := P) (w := w) (K := K) (mg := mg) (base := base) T c_type_text c_block_lines
  have c_mText := ok_module_text (P := P) (w := w) (K := K) (mg := mg) (base := base) T c_global_line c_function_lines
  have c_kind := ok__law_kind (P := P) (w := w) (K := K) (mg := mg) (base := base) T
  have c_mark := ok__law_mark (P := P) (w := w) (K := K) (mg := mg) (base := base) T
  have c_listed := ok__law_listed (P := P) (w := w) (K := K) (mg := mg) (base := base) T c_mark
  have c_goal := ok__law_goal (P := P) (w := w) (K := K) (mg := mg) (base := base) T c_listed
  have c_opText := ok__law_op_text (P := P) (w := w) (K := K) (mg := mg) (base := base) T c_kind c_listed
  have c_endText := ok__law_ending_text (P := P) (w := w) (K := K) (mg := mg) (base := base) T c_mark c_goal
  have c_text := ok__law_text (P := P) (w := w) (K := K) (mg := mg) (base := base) T c_kind c_opText c_endText
  have c_any := ok__law_any (P := P) (w := w) (K := K) (mg := mg) (base := base) T
  have c_of := ok__law_of (P := P) (w := w) (K := K) (mg := mg) (base := base) T c_any
  have c_power := ok__law_power (P := P) (w := w) (K := K) (mg := mg) (base := base) T
  have c_number := ok__law_number (P := P) (w := w) (K := K) (mg := mg) (base := base) T c_any c_of
  have c_small := ok__law_small (P := P) (w := w) (K := K) (mg := mg) (base := base) T c_any c_of
  have c_width := ok__law_width (P := P) (w := w) (K := K) (mg := mg) (base := base) T c_of
  have c_type := ok__law_type (P := P) (w := w) (K := K) (mg := mg) (base := base) T c_of
  have c_names := ok__law_names (P := P) (w := w) (K := K) (mg := mg) (base := base) T c_of
  have c_operand := ok__law_operand (P := P) (w := w) (K := K) (mg := mg) (base := base) T c_any c_names c_number c_small
  have c_args := ok__law_args (P := P) (w := w) (K := K) (mg := mg) (base := base) T c_operand
  have c_target := ok__law_target (P := P) (w := w) (K := K) (mg := mg) (base := base) T c_any c_small c_args
  have c_op := ok__law_op (P := P) (w := w) (K := K) (mg := mg) (base := base) T c_any c_of c_names c_number c_small c_width c_type c_args
  have c_ending := ok__law_ending (P := P) (w := w) (K := K) (mg := mg) (base := base) T c_any c_operand c_target
  have c_function := ok__law_function (P := P) (w := w) (K := K) (mg := mg) (base := base) T c_any c_of c_small c_type c_op c_ending
  have c_module := ok__law_module (P := P) (w := w) (K := K) (mg := mg) (base := base) T c_any c_of c_names c_power c_width c_function
  have c_draw := ok__law_draw (P := P) (w := w) (K := K) (mg := mg) (base := base) T
  have c_words := ok__law_words (P := P) (w := w) (K := K) (mg := mg) (base := base) T
  have c_spread := ok__law_spread (P := P) (w := w) (K := K) (mg := mg) (base := base) T c_of
  exact ⟨c_draw, c_module, c_text, c_words, c_spread, c_op, c_ending, c_opText, c_endText, c_mText, c_oText, c_eText, c_rMod, c_rOp⟩
end
/-- the law's run -/
theorem law_run {P : Program} {w : World} {K : PySem.W.Frag} {mg : Str → Option Value} {fa : Addr} (T : Txt w K mg) (W : Told K) (hfa : mg "law" = some (.ref fa)) : RunAt P w K mg C8.CX0 [He.cT K ("read_global", none), He.cT K ("law", none)] fa 63 := by
  intro base s H a ns hK hG hTB e0 hT hS hn
  have e := hfa.symm.trans (T.glo m_glo_law)
  injection e with e
  injection e with e
  subst e
  obtain ⟨fd, F⟩ := T.t.d.defs m_def_law
  have F' : FunD K "law" "law" (defArgs s_law) (defBody s_law) (defScope s_law) [] [] (He.ga K "law") fd := F
  have bA := F'.bindsA (ps := ["_law_script"]) bi_law
  obtain ⟨oc, od, dV, kV, doc, pm, an, cdv, ct, osl, rfl, lk, hcd, _, _⟩ := F'.ex
  obtain ⟨c, rfl⟩ := He.codeIn_ref hcd
  have ec : (He.cT K ("law", none)).1 = c := He.codeOf_eq (p := ("law", none)) lk rfl
  subst ec
  have hT' : LamX.Tabs (tabT K) H := fun p hp => by
    rcases List.mem_cons.mp hp with rfl | hp
    · exact LamX.TabS.nil (hT _ List.mem_cons_self)
    · rw [List.mem_singleton.mp hp]
      exact LamX.TabS.nil (hT _ (List.mem_cons_of_mem _ List.mem_cons_self))
  refine LamX.run_ofS (k := 12) (vs := [.ref a]) lk hcd sc_law ⟨rfl, by decide, by decide⟩ e0 (bA s [.ref a] rfl) (.cons rfl .nil) rfl fun hr2 => ?_
  obtain ⟨t, h1, h2⟩ := law_body T W (hTB _ (List.mem_cons_of_mem _ List.mem_cons_self)) (calls6 T W (hTB _ List.mem_cons_self)) s H a ns _ hT' hS hn hr2
  exact ⟨t, h1.nox, h2⟩
end K6
/-! K6V6: the end. -/
namespace K6
open PySem PySem.Spec PyProof.Rows L2 Evl
theorem law_at (w : World) (mg : Str → Option Value) (fa : Addr) (h : Heap) (Y : hk.says w h) (G : h.Ns mainGlobals mg) (hmg : mg "law" = some (.ref fa)) :
    ∃ (K : PySem.W.Frag) (cs : List (Addr × Addr)), K.In h ∧ (∀ p ∈ cs, h.get? p.2 = some { cls := .none, data := .fields #[] }) ∧ (∀ p ∈ cs, K.lookup p.2 = none) ∧ (∀ p ∈ cs, PySem.W.CodeHd h p.1 p.2) ∧ RunAt RW.prog w K mg C8.CX0 cs fa 63 := by
  obtain ⟨K, KX, c⟩ := Y
  have T : Txt w K mg := ⟨⟨h, KX, G⟩, c.t, c.more⟩
  refine ⟨K, [He.cT K ("read_global", none), He.cT K ("law", none)], KX, fun p hp => ?_, fun p hp => ?_, fun p hp => ?_, law_run T (told_of c.more) hmg⟩
  · rcases List.mem_cons.mp hp with rfl | hp
    · exact c.empty _ List.mem_cons_self
    · rw [List.mem_singleton.mp hp]
      exact c.empty _ (List.mem_cons_of_mem _ List.mem_cons_self)
  · rcases List.mem_cons.mp hp with rfl | hp
    · exact c.out _ List.mem_cons_self
    · rw [List.mem_singleton.mp hp]
      exact c.out _ (List.mem_cons_of_mem _ List.mem_cons_self)
  · rcases List.mem_cons.mp hp with rfl | hp
    · exact PySem.W.codeHd_of_K KX (c.hd _ List.mem_cons_self)
    · rw [List.mem_singleton.mp hp]
      exact PySem.W.codeHd_of_K KX (c.hd _ (List.mem_cons_of_mem _ List.mem_cons_self))
end K6
open PySem PySem.W PySem.Calls PyProof.Rows
theorem PySem.Challenge.cw_anypasses_k06_whole_texts_read_back_holds : PySem.Challenge.rw_anypasses_k06_whole_texts_read_back.Holds := by
  w_on; o_law
  refine HandSHeadRun.head_any (r := K6.RW) (q := view K6.RW.prog [82]) (H := K6.hk) (ob := K6.ob) (M := 4000) (loose := K6.nmL) (d := HandSHeadRun.topDef K6.RW.prog 82) (kwd := []) K6.ob_eq
    (by kernel_rfl) (fun s => by kernel_rfl) K6.run (by kernel_rfl) (by kernel_rfl) (by kernel_rfl) (by rfl) (by first | assumption | decide +kernel) (by decide +kernel) ⟨rfl, rfl, rfl, rfl, rfl, by decide +kernel⟩ ?hw ?hc
  case hw => w_witness2
  case hc =>
    refine K6.walk_end (l := PySem.Challenge.rw_anypasses_k06_whole_texts_read_back) (n := 63) (CX := fun _ => C8.CX0) rfl (by decide) (by kernel_rfl) ?F (fun _ _ _ _ _ z => z)
    intro w mg fa h Y G hmg0
    have hmg : mg ("law" : PySem.Str) = some (.ref fa) := by
      have e : (HandSHeadRun.topDef K6.RW.prog 82).name = ("law" : PySem.Str) := by kernel_rfl
      rw [← e]
      exact hmg0
    exact K6.law_at w mg fa h Y G hmg
