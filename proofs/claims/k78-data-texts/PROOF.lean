import PyProof.Rows.All
import Wide.All
import OpenK.AllK
import Wide.FinOn
import HandS.ForMost
import HandS.ForExc
import HandS.Wide
import HandS.StrMore
import HandS.HeadHook2
import HandS.IsInst
import HandS.ExcIs
import HandS.ExcField
import HandS.HeadWalk
import HandS.ExcOwn
import HandS.ExcInit
import HandS.Flow
import HandS.Conv
import HandS.CallSlots
import HandS.CallRecv
import HandS.Iter
import HandS.TryOnly
import HandS.Lambda
import HandS.Style
import HandS.ClsMeth
import HandS.HeadEnd
import HandS.HeadHook1
import HandS.Head2
import HandS.EndBits
import HandS.Codes
import PySem.Challenge.RW_surewire_k78_data_texts
set_option Elab.async false
set_option linter.all false
set_option maxRecDepth 100000
/-! MP: a small pure language (values, cells, expressions, statements) and its weakest preconditions. -/
namespace MP
open PySem L2

/-! ### values, cells, the heap -/
inductive W where
  | non | bl (b : Bool) | int (i : Int) | str (x : Str) | tup (xs : List W) | obj (n : Nat) | scr (xs : List W)
deriving Inhabited
inductive Cell where
  | lst (xs : List W)
  | ins (c : Str) (fs : List (Str × W))
  | exc (c : Str) (fs : List (Str × W))
structure MH where
  n : Nat
  g : Nat → Option Cell
def MH.alloc (h : MH) (c : Cell) : MH := ⟨h.n + 1, fun i => if i = h.n then some c else h.g i⟩
def MH.put (h : MH) (a : Nat) (c : Cell) : MH := ⟨h.n, fun i => if i = a then some c else h.g i⟩
abbrev Loc := List (Option W)
structure Ex where
  c : Str
  fs : List (Str × W)

/-! ### the program's text -/
inductive BOp where
  | add | sub | mul | fdiv | mod | pow | shl | shr | band | bor | bxor
deriving DecidableEq
inductive COp where
  | eq | ne | lt | le | gt | ge | is | nis | isin | nin
deriving DecidableEq
inductive Ty where
  | int | bool | str | tuple | list | dict | own (c : Str)
deriving DecidableEq
/-- built-ins -/
inductive Bi where
  | len | all | max | min | str | int | tuple | list
deriving DecidableEq
/-- methods of built-in types -/
inductive Me where
  | own | join | upper | index | append
deriving DecidableEq
inductive Tg where
  | one (i : Nat) | many (is : List Nat)
deriving DecidableEq
mutual
inductive E where
  | lit (w : W)
  | glo (x : Str)
  | var (i : Nat)
  | bin (op : BOp) (a b : E)
  | neg (a : E)
  | not (a : E)
  | and (a b : E) | or (a b : E)
  | cmp (op : COp) (a b : E)
  | chn (o1 o2 : COp) (a b c : E)
  | ife (c a b : E)
  | tup (es : Es) | lst (es : Es)
  | idx (a i : E)
  | slc (a lo hi : E)
  | nop
  | fld (a : E) (f : Str)
  | call (f : Str) (es : Es)
  | mk (c : Str) (es : Es)
  | meth (o : E) (m : Str) (k : Me) (es : Es)
  | blt (b : Bi) (es : Es)
  | isi (a : E) (t : Ty)
  | lc (elt : E) (tg : Tg) (own : List Nat) (it : I)
  | lcif (elt : E) (tg : Tg) (own : List Nat) (it : I) (cd : E)
inductive Es where
  | nil | cons (e : E) (es : Es)
inductive I where
  | e (a : E) | rng1 (a : E) | rng2 (a b : E) | rng3 (a b c : E) | enum (a : E)
end
mutual
inductive S where
  | set (i : Nat) (e : E)
  | unp (is : List Nat) (e : E)
  | sfld (o : E) (f : Str) (e : E)
  | sidx (o i e : E)
  | aug (i : Nat) (op : BOp) (e : E)
  | augf (o : E) (f : Str) (op : BOp) (e : E)
  | augi (o i : E) (op : BOp) (e : E)
  | ifs (c : E) (a b : Ss)
  | fors (tg : Tg) (it : I) (body : Ss)
  | whl (c : E) (body : Ss)
  | ret (e : E) | retn | cont | pass
  | expr (e : E)
  | raise (c : Str)
  | raiser (c : Str) (f : Str) (e : E)
  | tryas (body : Ss) (c : Str) (i j : Nat)
  | tryset (body : Ss) (c : Str) (j : Nat) (w : W)
  | tryret (body : Ss) (c : Str) (w : W)
inductive Ss where
  | nil | cons (s : S) (ss : Ss)
end
structure FD where
  np : Nat
  dfl : List W
  ns : Nat
  body : Ss
structure MG where
  fn : Str → Str → Option FD
  con : Str → Option W
  sub : Str → Str → Bool
  fld : Str → Str → Bool
  cls : List Str
  exs : List Str

/-! ### values by themselves -/
mutual
/-- data, its lists looked up in the heap -/
inductive DatH (h : MH) : W → PyData → Prop
  | non : DatH h .non .none
  | bl (b : Bool) : DatH h (.bl b) (.bool b)
  | int (i : Int) : DatH h (.int i) (.int i)
  | str (x : Str) : DatH h (.str x) (.str x)
  | tup {xs : List W} {ds : List PyData} : DatHs h xs ds → DatH h (.tup xs) (.tuple ds)
  | lst {n : Nat} {xs : List W} {ds : List PyData} : h.g n = some (.lst xs) → DatHs h xs ds → DatH h (.obj n) (.list ds)
  | scr {xs : List W} {ds : List PyData} : DatHs h xs ds → DatH h (.scr xs) (.list ds)
inductive DatHs (h : MH) : List W → List PyData → Prop
  | nil : DatHs h [] []
  | cons {x : W} {xs : List W} {d : PyData} {ds : List PyData} : DatH h x d → DatHs h xs ds → DatHs h (x :: xs) (d :: ds)
end
def EqR (h : MH) (a b : W) (r : Bool) : Prop :=
  match a, b with
  | .int i, .int j => r = decide (i = j)
  | .str x, .str y => r = decide (x = y)
  | .non, .non => r = true
  | .bl x, .bl y => r = decide (x = y)
  | a, b => ∃ d e, DatH h a d ∧ DatH h b e ∧ SeqAt.shaped d = true ∧ SeqAt.shaped e = true ∧ r = PyData.eqv d e
/-- truth -/
def Tru (h : MH) (w : W) (k : Bool) : Prop :=
  match w with
  | .non => k = false
  | .bl b => k = b
  | .int i => k = (i != 0)
  | .str x => x.length ≤ sizeLine ∧ k = ((x.length : Int) != 0)
  | .tup xs => k = !xs.isEmpty
  | .scr xs => k = !xs.isEmpty
  | .obj n => ∃ xs, h.g n = some (.lst xs) ∧ k = !xs.isEmpty
/-- items of a list or tuple -/
def Seq (h : MH) (w : W) (xs : List W) : Prop :=
  match w with
  | .tup ys => ys = xs
  | .scr ys => ys = xs
  | .obj n => h.g n = some (.lst xs)
  | _ => False
def flatW : W → Bool
  | .non => true | .bl _ => true | .int _ => true | .str _ => true | _ => false
def eqF : W → W → Bool
  | .non, .non => true
  | .bl a, .bl b => a == b
  | .bl a, .int b => (if a then 1 else 0) == b
  | .int a, .bl b => a == (if b then 1 else 0)
  | .int a, .int b => a == b
  | .str a, .str b => a == b
  | _, _ => false
def strIn (x y : Str) : Bool := !(Builtin.Str.occurrences y x 0 y.length 1).isEmpty
def InR (h : MH) (a b : W) (r : Bool) : Prop :=
  match a, b with
  | .str x, .str y => r = strIn x y
  | a, b => ∃ xs, Seq h b xs ∧ flatW a = true ∧ xs.all flatW = true ∧ r = xs.any fun y => eqF y a
def CmpR (h : MH) (op : COp) (a b : W) (r : Bool) : Prop :=
  match op with
  | .eq => EqR h a b r
  | .ne => EqR h a b (!r)
  | .lt => ∃ i j, a = .int i ∧ b = .int j ∧ r = decide (i < j)
  | .le => ∃ i j, a = .int i ∧ b = .int j ∧ r = decide (i ≤ j)
  | .gt => ∃ i j, a = .int i ∧ b = .int j ∧ r = decide (j < i)
  | .ge => ∃ i j, a = .int i ∧ b = .int j ∧ r = decide (j ≤ i)
  | .is => b = .non ∧ r = (match a with | .non => true | _ => false)
  | .nis => b = .non ∧ r = (match a with | .non => false | _ => true)
  | .isin => InR h a b r
  | .nin => InR h a b (!r)
def putW (f : Str) (v : W) : List (Str × W) → List (Str × W)
  | [] => [(f, v)]
  | (g, x) :: r => if g = f then (g, v) :: r else (g, x) :: putW f v r
abbrev QW := W → MH → Prop
abbrev QX := Ex → MH → Prop
abbrev Fns := Str → Str → List W → MH → QW → QX → Prop
structure En where
  nx : Loc → MH → Prop
  rt : W → MH → Prop
  ct : Loc → MH → Prop
  ex : Ex → Loc → MH → Prop

def MulOk (i j : Int) : Prop := CMul i j ∨ CMulW i j
/-- a op b -/
def wpBin (op : BOp) (a b : W) (h : MH) (Q : QW) : Prop :=
  match op, a, b with
  | .add, .int i, .int j => Q (.int (i + j)) h
  | .add, .str i, .str j => i.length + j.length ≤ sizeLine ∧ Q (.str (i ++ j)) h
  | .add, .tup xs, .tup ys => xs.length + ys.length ≤ sizeLine ∧ Q (.tup (xs ++ ys)) h
  | .add, .obj m, .obj n => ∃ xs ys, h.g m = some (.lst xs) ∧ h.g n = some (.lst ys) ∧ xs.length + ys.length ≤ sizeLine ∧ Q (.obj h.n) (h.alloc (.lst (xs ++ ys)))
  | .sub, .int i, .int j => Q (.int (i - j)) h
  | .mul, .int i, .int j => MulOk i j ∧ Q (.int (i * j)) h
  | .mul, .tup xs, .int k => -(2 ^ 63) ≤ k ∧ k < 2 ^ 63 ∧ xs.length * k.toNat ≤ sizeLine ∧ Q (.tup (List.replicate k.toNat xs).flatten) h
  | .mul, .obj n, .int k => ∃ xs, h.g n = some (.lst xs) ∧ -(2 ^ 63) ≤ k ∧ k < 2 ^ 63 ∧ xs.length * k.toNat ≤ sizeLine ∧ Q (.obj h.n) (h.alloc (.lst (List.replicate k.toNat xs).flatten))
  | .fdiv, .int i, .int j => CDivW i j ∧ Q (.int (i / j)) h
  | .mod, .int i, .int j => 0 < j ∧ Q (.int (i % j)) h
  | .pow, .int i, .int j => CPow i j ∧ Q (.int (i ^ j.toNat)) h
  | .shl, .int i, .int j => CPow i j ∧ Q (.int (i * 2 ^ j.toNat)) h
  | .shr, .int i, .int j => 0 ≤ j ∧ Q (.int (i / 2 ^ j.toNat)) h
  | .band, .int i, .int j => Q (.int (Builtin.bitAnd i j)) h
  | .bor, .int i, .int j => Q (.int (Builtin.bitOr i j)) h
  | .bxor, .int i, .int j => Q (.int (Builtin.bitXor i j)) h
  | _, _, _ => False
/-- a op= b -/
def wpIp (op : BOp) (a b : W) (h : MH) (Q : QW) : Prop :=
  match op, a, b with
  | .add, .int i, .int j => Q (.int (i + j)) h
  | .add, .str i, .str j => i.length + j.length ≤ sizeLine ∧ Q (.str (i ++ j)) h
  | .sub, .int i, .int j => Q (.int (i - j)) h
  | _, _, _ => False
/-- a[i] -/
def wpIdx (a i : W) (h : MH) (Q : QW) : Prop :=
  match a, i with
  | .str z, .int k => z.length ≤ sizeLine ∧ ∃ c, atI z.cps.toList k = some c ∧ Q (.str ⟨#[c]⟩) h
  | a, .int k => ∃ xs v, Seq h a xs ∧ atI xs k = some v ∧ Q v h
  | _, _ => False
def cutW {α : Type} (xs : List α) (lo hi : Option Int) : List α := (xs.drop (HT.sIx xs.length 0 lo)).take (HT.sIx xs.length xs.length hi - HT.sIx xs.length 0 lo)
def wpSlc (a : W) (lo hi : Option Int) (h : MH) (Q : QW) : Prop :=
  match a with
  | .str z => z.length ≤ sizeLine ∧ Q (.str (cutS z lo hi)) h
  | .tup xs => Q (.tup (cutW xs lo hi)) h
  | .scr xs => Q (.obj h.n) (h.alloc (.lst (cutW xs lo hi)))
  | .obj n => ∃ xs, h.g n = some (.lst xs) ∧ Q (.obj h.n) (h.alloc (.lst (cutW xs lo hi)))
  | _ => False
/-- o[i] = v -/
def wpSet (o i v : W) (h : MH) (Q : MH → Prop) : Prop :=
  match o, i with
  | .obj n, .int k => ∃ xs j, h.g n = some (.lst xs) ∧ ixN xs.length k = some j ∧ Q (h.put n (.lst (xs.set j v)))
  | _, _ => False
def wpFld (a : W) (f : Str) (h : MH) (Q : QW) : Prop :=
  ∃ n c fs v, a = .obj n ∧ (h.g n = some (.ins c fs) ∨ h.g n = some (.exc c fs)) ∧ fs.lookup f = some v ∧ Q v h
def isTy (G : MG) (h : MH) (w : W) (t : Ty) : Option Bool :=
  match w with
  | .non => some false
  | .bl _ => some (t == .int || t == .bool)
  | .int _ => some (t == .int)
  | .str _ => some (t == .str)
  | .tup _ => some (t == .tuple)
  | .scr _ => some (t == .list)
  | .obj n => match h.g n with
    | some (.lst _) => some (t == .list)
    | some (.ins c _) => match t with
      | .own d => some (G.sub c d)
      | _ => some false
    | some (.exc c _) => match t with
      | .own d => some (G.sub c d)
      | _ => some false
    | none => none
def LenR (h : MH) (w : W) (n : Nat) : Prop :=
  match w with
  | .str x => x.length ≤ sizeLine ∧ n = x.length
  | .tup xs => n = xs.length
  | .scr xs => n = xs.length
  | .obj a => ∃ xs, h.g a = some (.lst xs) ∧ n = xs.length
  | _ => False
def wpBi (b : Bi) (ws : List W) (h : MH) (Q : QW) : Prop :=
  match b, ws with
  | .len, [w] => ∃ n, LenR h w n ∧ Q (.int n) h
  | .all, [.obj n] => ∃ bs : List Bool, h.g n = some (.lst (bs.map .bl)) ∧ Q (.bl (bs.all id)) h
  | .max, [.int i, .int j] => Q (.int (if j > i then j else i)) h
  | .min, [.int i, .int j] => Q (.int (if j < i then j else i)) h
  | .str, [.int i] => i.natAbs.log2 < 1920 ∧ Q (.str (toString i)) h
  | .int, [.int i] => Q (.int i) h
  | .int, [.bl k] => Q (.int (if k then 1 else 0)) h
  | .tuple, [w] => ∃ xs, Seq h w xs ∧ Q (.tup xs) h
  | .list, [.str x] => x.length ≤ sizeLine ∧ Q (.obj h.n) (h.alloc (.lst (x.cps.toList.map fun c => .str ⟨#[c]⟩)))
  | .list, [w] => ∃ xs, Seq h w xs ∧ Q (.obj h.n) (h.alloc (.lst xs))
  | _, _ => False
/-- the built-in type of a receiver -/
inductive Tk where
  | str | list | tuple | int
deriving DecidableEq
def KindR (h : MH) (w : W) (t : Tk) : Prop :=
  match w, t with
  | .str _, .str => True
  | .int _, .int => True
  | .tup _, .tuple => True
  | .obj n, .list => ∃ xs, h.g n = some (.lst xs)
  | _, _ => False
/-- which methods are known -/
def meOk (k : Me) (t : Tk) : Bool :=
  match k, t with
  | .join, .str => true | .upper, .str => true | .index, .str => true | .append, .list => true
  | _, _ => false
/-- a method of a built-in type -/
def wpMe (k : Me) (t : Tk) (o : W) (ws : List W) (h : MH) (Q : QW) : Prop :=
  match k, t, o, ws with
  | .join, .str, .str a, [w] => ∃ ys : List Str, Seq h w (ys.map .str) ∧ (ys.map (·.length)).sum + ys.length * a.length ≤ 16777216 ∧ Q (.str (Txt.join a ys)) h
  | .upper, .str, .str a, [] => a.length ≤ 5592405 ∧ Q (.str (Txt.upper a)) h
  | .index, .str, .str a, [.str b] => ∃ k, Txt.index0 a b = some k ∧ Q (.int (k : Nat)) h
  | .append, .list, .obj n, [w] => ∃ xs, h.g n = some (.lst xs) ∧ xs.length < sizeLine ∧ Q .non (h.put n (.lst (xs ++ [w])))
  | _, _, _, _ => False

/-! ### targets, loops -/
def setAll : List Nat → List W → Loc → Loc
  | i :: is, x :: xs, loc => setAll is xs (loc.set i (some x))
  | _, _, loc => loc
def BindR (h : MH) (tg : Tg) (x : W) (loc loc' : Loc) : Prop :=
  match tg with
  | .one i => loc' = loc.set i (some x)
  | .many is => ∃ xs, Seq h x xs ∧ xs.length = is.length ∧ loc' = setAll is xs loc
def wipeL (loc : Loc) : List Nat → Loc
  | [] => loc
  | v :: vs => (wipeL loc vs).set v none
/-- a comprehension's turns -/
def wpTurns (gd : MH → Prop) (tg : Tg) (step : Loc → MH → (Option W → MH → Prop) → Prop) (loc : Loc) : List W → List W → MH → (List W → MH → Prop) → Prop
  | [], acc, h, Q => gd h ∧ Q acc h
  | x :: r, acc, h, Q => gd h ∧ ∃ loc', BindR h tg x loc loc' ∧ step loc' h fun o h' =>
    match o with
    | some y => acc.length < sizeLine ∧ wpTurns gd tg step loc r (acc ++ [y]) h' Q
    | none => wpTurns gd tg step loc r acc h' Q
/-- a for's turns -/
def wpFor (gd : MH → Prop) (tg : Tg) (body : Loc → MH → En → Prop) (D : En) : List W → Loc → MH → Prop
  | [], loc, h => gd h ∧ D.nx loc h
  | x :: r, loc, h => gd h ∧ ∃ loc', BindR h tg x loc loc' ∧ body loc' h { D with nx := wpFor gd tg body D r, ct := wpFor gd tg body D r }
def wpWhl (c : Loc → MH → (Bool → MH → Prop) → QX → Prop) (body : Loc → MH → En → Prop) (D : En) : Nat → Loc → MH → Prop
  | 0, _, _ => False
  | n + 1, loc, h => c loc h (fun b h1 => if b = true then body loc h1 { D with nx := wpWhl c body D n, ct := wpWhl c body D n } else D.nx loc h1) fun e h1 => D.ex e loc h1
def optI : W → Option (Option Int)
  | .int i => some (some i)
  | .non => some none
  | _ => none

/-- what a loop or a comprehension walks: the items, and what must stay as it is -/
def ItemsR (h : MH) (w : W) (xs : List W) (gd : MH → Prop) : Prop :=
  match w with
  | .tup ys => xs = ys ∧ gd = fun _ => True
  | .scr ys => xs = ys ∧ gd = fun _ => True
  | .str x => xs = (x.cps.toList.map fun c => W.str ⟨#[c]⟩) ∧ gd = fun _ => True
  | .obj n => h.g n = some (.lst xs) ∧ gd = fun h' => h'.g n = some (.lst xs)
  | _ => False
/-- the items of a list -/
def LstR (h : MH) (w : W) (xs : List W) : Prop :=
  match w with
  | .scr ys => ys = xs
  | .obj n => h.g n = some (.lst xs)
  | _ => False
def numbered (xs : List W) : List W := xs.zipIdx.map fun p => .tup [.int (p.2 : Nat), p.1]
abbrev QI := List W → (MH → Prop) → MH → Prop

/-! ### weakest preconditions -/
mutual
def wpE (C : Fns) (G : MG) : E → Loc → MH → QW → QX → Prop
  | .lit w, _, h, Q, _ => Q w h
  | .glo x, _, h, Q, _ => ∃ w, G.con x = some w ∧ Q w h
  | .var i, loc, h, Q, _ => ∃ w, loc[i]? = some (some w) ∧ Q w h
  | .bin op a b, loc, h, Q, X => wpE C G a loc h (fun x h1 => wpE C G b loc h1 (fun y h2 => wpBin op x y h2 Q) X) X
  | .neg a, loc, h, Q, X => wpE C G a loc h (fun x h1 => ∃ i, x = .int i ∧ Q (.int (-i)) h1) X
  | .not a, loc, h, Q, X => wpE C G a loc h (fun x h1 => ∃ k, Tru h1 x k ∧ Q (.bl (!k)) h1) X
  | .and a b, loc, h, Q, X => wpE C G a loc h (fun x h1 => ∃ k, Tru h1 x k ∧ if k = true then wpE C G b loc h1 Q X else Q x h1) X
  | .or a b, loc, h, Q, X => wpE C G a loc h (fun x h1 => ∃ k, Tru h1 x k ∧ if k = true then Q x h1 else wpE C G b loc h1 Q X) X
  | .cmp op a b, loc, h, Q, X => wpE C G a loc h (fun x h1 => wpE C G b loc h1 (fun y h2 => ∃ r, CmpR h2 op x y r ∧ Q (.bl r) h2) X) X
  | .chn o1 o2 a b c, loc, h, Q, X => wpE C G a loc h (fun x h1 => wpE C G b loc h1 (fun y h2 => ∃ r, CmpR h2 o1 x y r ∧
      if r = true then wpE C G c loc h2 (fun z h3 => ∃ r, CmpR h3 o2 y z r ∧ Q (.bl r) h3) X else Q (.bl false) h2) X) X
  | .ife c a b, loc, h, Q, X => wpE C G c loc h (fun x h1 => ∃ k, Tru h1 x k ∧ if k = true then wpE C G a loc h1 Q X else wpE C G b loc h1 Q X) X
  | .tup es, loc, h, Q, X => wpEs C G es loc h (fun ws h1 => ws.length ≤ sizeLine ∧ Q (.tup ws) h1) X
  | .lst es, loc, h, Q, X => wpEs C G es loc h (fun ws h1 => ws.length ≤ sizeLine ∧ Q (.obj h1.n) (h1.alloc (.lst ws))) X
  | .idx a i, loc, h, Q, X => wpE C G a loc h (fun x h1 => wpE C G i loc h1 (fun y h2 => wpIdx x y h2 Q) X) X
  | .slc a lo hi, loc, h, Q, X => wpE C G a loc h (fun x h1 => wpE C G lo loc h1 (fun y h2 => ∃ l, optI y = some l ∧ wpE C G hi loc h2 (fun z h3 =>
      ∃ u, optI z = some u ∧ wpSlc x l u h3 Q) X) X) X
  | .nop, _, h, Q, _ => Q .non h
  | .fld a f, loc, h, Q, X => wpE C G a loc h (fun x h1 => wpFld x f h1 Q) X
  | .call f es, loc, h, Q, X => wpEs C G es loc h (fun ws h1 => C Str.empty f ws h1 Q X) X
  | .mk c es, loc, h, Q, X => wpEs C G es loc h (fun ws h1 => C c "__init__" (.obj h1.n :: ws) (h1.alloc (.ins c [])) (fun w h2 => w = .non ∧ Q (.obj h1.n) h2) X) X
  | .meth o m k es, loc, h, Q, X => wpE C G o loc h (fun x h1 =>
      (∃ n c fs, x = .obj n ∧ h1.g n = some (.ins c fs) ∧ (fs.lookup m = none ∧ (G.fn c m).isSome = true) ∧ wpEs C G es loc h1 (fun ws h2 => C c m (x :: ws) h2 Q X) X) ∨
      (∃ t, (KindR h1 x t ∧ meOk k t = true) ∧ wpEs C G es loc h1 (fun ws h2 => wpMe k t x ws h2 Q) X)) X
  | .blt b es, loc, h, Q, X => wpEs C G es loc h (fun ws h1 => wpBi b ws h1 Q) X
  | .isi a t, loc, h, Q, X => wpE C G a loc h (fun x h1 => ∃ b, isTy G h1 x t = some b ∧ Q (.bl b) h1) X
  | .lc elt tg own it, loc, h, Q, X => wpI C G it loc h (fun xs gd h1 => wpTurns gd tg (fun l h2 K => wpE C G elt l h2 (fun y h3 => K (some y) h3) fun _ _ => False) (wipeL loc own) xs [] h1
      fun ys h3 => Q (.obj h3.n) (h3.alloc (.lst ys))) X
  | .lcif elt tg own it cd, loc, h, Q, X => wpI C G it loc h (fun xs gd h1 => wpTurns gd tg (fun l h2 K => wpE C G cd l h2 (fun x h3 => ∃ b, Tru h3 x b ∧
      if b = true then wpE C G elt l h3 (fun y h4 => K (some y) h4) fun _ _ => False else K none h3) fun _ _ => False) (wipeL loc own) xs [] h1
      fun ys h3 => Q (.obj h3.n) (h3.alloc (.lst ys))) X
def wpEs (C : Fns) (G : MG) : Es → Loc → MH → (List W → MH → Prop) → QX → Prop
  | .nil, _, h, Q, _ => Q [] h
  | .cons e es, loc, h, Q, X => wpE C G e loc h (fun x h1 => wpEs C G es loc h1 (fun xs h2 => Q (x :: xs) h2) X) X
def wpI (C : Fns) (G : MG) : I → Loc → MH → QI → QX → Prop
  | .e a, loc, h, R, X => wpE C G a loc h (fun x h1 => ∃ xs gd, ItemsR h1 x xs gd ∧ R xs gd h1) X
  | .rng1 a, loc, h, R, X => wpE C G a loc h (fun x h1 => ∃ j, x = .int j ∧ -(2 ^ 62) ≤ j ∧ j < 2 ^ 62 ∧ R ((List.range j.toNat).map fun i => .int (i : Nat)) (fun _ => True) h1) X
  | .rng2 a b, loc, h, R, X => wpE C G a loc h (fun x h1 => wpE C G b loc h1 (fun y h2 => ∃ i j, x = .int i ∧ y = .int j ∧ -(2 ^ 62) ≤ i ∧ i < 2 ^ 62 ∧ -(2 ^ 62) ≤ j ∧ j < 2 ^ 62 ∧
      R ((List.range (j - i).toNat).map fun k => .int (i + (k : Nat))) (fun _ => True) h2) X) X
  | .rng3 a b c, loc, h, R, X => wpE C G a loc h (fun x h1 => wpE C G b loc h1 (fun y h2 => wpE C G c loc h2 (fun z h3 => ∃ i j s n, x = .int i ∧ y = .int j ∧ z = .int s ∧ RgC i j s n ∧
      R ((List.range n).map fun k => .int (i + (k : Nat) * s)) (fun _ => True) h3) X) X) X
  | .enum a, loc, h, R, X => wpE C G a loc h (fun x h1 => ∃ xs, LstR h1 x xs ∧ R (numbered xs) (fun h' => LstR h' x xs) h1) X
end
abbrev wpT (C : Fns) (G : MG) (e : E) (loc : Loc) (h : MH) (Q : Bool → MH → Prop) (X : QX) : Prop := wpE C G e loc h (fun x h1 => ∃ k, Tru h1 x k ∧ Q k h1) X
def fillD (d : FD) (ws : List W) : List W := ws ++ d.dfl.drop (ws.length + d.dfl.length - d.np)
mutual
def wpS (C : Fns) (G : MG) : S → Loc → MH → En → Prop
  | .set i e, loc, h, D => wpE C G e loc h (fun w h1 => D.nx (loc.set i (some w)) h1) fun x h1 => D.ex x loc h1
  | .unp is e, loc, h, D => wpE C G e loc h (fun w h1 => ∃ xs, Seq h1 w xs ∧ xs.length = is.length ∧ D.nx (setAll is xs loc) h1) fun x h1 => D.ex x loc h1
  | .sfld o f e, loc, h, D => wpE C G e loc h (fun w h1 => wpE C G o loc h1 (fun x h2 => ∃ n c fs, x = .obj n ∧ h2.g n = some (.ins c fs) ∧ (fs.length < 1000 ∧ G.fld c f = true) ∧
      D.nx loc (h2.put n (.ins c (putW f w fs)))) fun x h1 => D.ex x loc h1) fun x h1 => D.ex x loc h1
  | .sidx o i e, loc, h, D => wpE C G e loc h (fun w h1 => wpE C G o loc h1 (fun x h2 => wpE C G i loc h2 (fun y h3 => wpSet x y w h3 fun h4 => D.nx loc h4)
      fun x h1 => D.ex x loc h1) fun x h1 => D.ex x loc h1) fun x h1 => D.ex x loc h1
  | .aug i op e, loc, h, D => ∃ x, loc[i]? = some (some x) ∧ wpE C G e loc h (fun y h1 => wpIp op x y h1 fun z h2 => D.nx (loc.set i (some z)) h2) fun x h1 => D.ex x loc h1
  | .augf o f op e, loc, h, D => wpE C G o loc h (fun x h1 => ∃ n c fs v, x = .obj n ∧ h1.g n = some (.ins c fs) ∧ fs.lookup f = some v ∧ wpE C G e loc h1 (fun y h2 => wpIp op v y h2 fun z h3 =>
      ∃ fs, h3.g n = some (.ins c fs) ∧ (fs.length < 1000 ∧ G.fld c f = true) ∧ D.nx loc (h3.put n (.ins c (putW f z fs)))) fun x h1 => D.ex x loc h1) fun x h1 => D.ex x loc h1
  | .augi o i op e, loc, h, D => wpE C G o loc h (fun x h1 => wpE C G i loc h1 (fun y h2 => ∃ n k xs v, (x = .obj n ∧ y = .int k) ∧ (h2.g n = some (.lst xs) ∧ atI xs k = some v) ∧ wpE C G e loc h2 (fun u h4 => wpIp op v u h4 fun z h5 =>
      wpSet x y z h5 fun h6 => D.nx loc h6) fun x h1 => D.ex x loc h1) fun x h1 => D.ex x loc h1) fun x h1 => D.ex x loc h1
  | .ifs c a b, loc, h, D => wpE C G c loc h (fun x h1 => ∃ k, Tru h1 x k ∧ if k = true then wpSs C G a loc h1 D else wpSs C G b loc h1 D) fun x h1 => D.ex x loc h1
  | .fors tg it body, loc, h, D => wpI C G it loc h (fun xs gd h1 => wpFor gd tg (wpSs C G body) D xs loc h1) fun x h1 => D.ex x loc h1
  | .whl c body, loc, h, D => ∃ n, wpWhl (wpT C G c) (wpSs C G body) D n loc h
  | .ret e, loc, h, D => wpE C G e loc h (fun w h1 => D.rt w h1) fun x h1 => D.ex x loc h1
  | .retn, _, h, D => D.rt .non h
  | .cont, loc, h, D => D.ct loc h
  | .pass, loc, h, D => D.nx loc h
  | .expr e, loc, h, D => wpE C G e loc h (fun _ h1 => D.nx loc h1) fun x h1 => D.ex x loc h1
  | .raise c, loc, h, D => D.ex ⟨c, []⟩ loc h
  | .raiser c f e, loc, h, D => wpE C G e loc h (fun w h1 => ∃ i, w = .int i ∧ i.natAbs.log2 < 1920 ∧ D.ex ⟨c, [(f, w)]⟩ loc h1) fun x h1 => D.ex x loc h1
  | .tryas body c i j, loc, h, D => wpSs C G body loc h { D with ex := fun e l h1 => if G.sub e.c c = true then D.nx ((l.set j (some (.obj h1.n))).set i none) (h1.alloc (.exc e.c e.fs)) else D.ex e l h1 }
  | .tryset body c j w, loc, h, D => wpSs C G body loc h { D with ex := fun e l h1 => if G.sub e.c c = true then D.nx (l.set j (some w)) h1 else D.ex e l h1 }
  | .tryret body c w, loc, h, D => wpSs C G body loc h { D with ex := fun e l h1 => if G.sub e.c c = true then D.rt w h1 else D.ex e l h1 }
def wpSs (C : Fns) (G : MG) : Ss → Loc → MH → En → Prop
  | .nil, loc, h, D => D.nx loc h
  | .cons s ss, loc, h, D => wpS C G s loc h { D with nx := fun l h1 => wpSs C G ss l h1 D }
end
/-- the slots at a def's entry -/
def entry (d : FD) (ws : List W) : Loc := ws.map some ++ List.replicate (d.ns - ws.length) none
/-- calls, to the depth k -/
def callAt (G : MG) : Nat → Fns
  | 0 => fun _ _ _ _ _ _ => False
  | k + 1 => fun c f ws h Q X => ∃ d, G.fn c f = some d ∧ (fillD d ws).length = d.np ∧
      wpSs (callAt G k) G d.body (entry d (fillD d ws)) h ⟨fun _ h1 => Q .non h1, Q, fun _ _ => False, fun e _ h1 => X e h1⟩
end MP
set_option Elab.async false
set_option linter.all false
set_option maxRecDepth 100000
/-! Mono: what is wanted may be weakened. -/
namespace MP
open PySem L2
def FMono (C : Fns) : Prop := ∀ c f ws h Q Q' X X', (∀ w h, Q w h → Q' w h) → (∀ e h, X e h → X' e h) → C c f ws h Q X → C c f ws h Q' X'

theorem wpBin_mono {op a b h} {Q Q' : QW} (q : ∀ w h, Q w h → Q' w h) : wpBin op a b h Q → wpBin op a b h Q' := by
  unfold wpBin
  intro z
  split at z
  all_goals first
    | exact z.elim
    | exact q _ _ z
    | exact ⟨z.1, q _ _ z.2⟩
    | exact ⟨z.1, z.2.1, z.2.2.1, q _ _ z.2.2.2⟩
    | (obtain ⟨xs, ys, h1, h2, h3, h4⟩ := z; exact ⟨xs, ys, h1, h2, h3, q _ _ h4⟩)
    | (obtain ⟨xs, h1, h2, h3, h4, h5⟩ := z; exact ⟨xs, h1, h2, h3, h4, q _ _ h5⟩)
theorem wpIp_mono {op a b h} {Q Q' : QW} (q : ∀ w h, Q w h → Q' w h) : wpIp op a b h Q → wpIp op a b h Q' := by
  unfold wpIp
  intro z
  split at z
  all_goals first
    | exact z.elim
    | exact q _ _ z
    | exact ⟨z.1, q _ _ z.2⟩
theorem wpIdx_mono {a b h} {Q Q' : QW} (q : ∀ w h, Q w h → Q' w h) : wpIdx a b h Q → wpIdx a b h Q' := by
  unfold wpIdx
  intro z
  split at z
  · obtain ⟨h1, c, h2, h3⟩ := z
    exact ⟨h1, c, h2, q _ _ h3⟩
  · obtain ⟨xs, v, h1, h2, h3⟩ := z
    exact ⟨xs, v, h1, h2, q _ _ h3⟩
  · exact z.elim
theorem wpSlc_mono {a lo hi h} {Q Q' : QW} (q : ∀ w h, Q w h → Q' w h) : wpSlc a lo hi h Q → wpSlc a lo hi h Q' := by
  unfold wpSlc
  intro z
  split at z
  · exact ⟨z.1, q _ _ z.2⟩
  · exact q _ _ z
  · exact q _ _ z
  · obtain ⟨xs, h1, h2⟩ := z
    exact ⟨xs, h1, q _ _ h2⟩
  · exact z.elim
theorem wpSet_mono {o i v h} {Q Q' : MH → Prop} (q : ∀ h, Q h → Q' h) : wpSet o i v h Q → wpSet o i v h Q' := by
  unfold wpSet
  intro z
  split at z
  · obtain ⟨xs, j, h1, h2, h3⟩ := z
    exact ⟨xs, j, h1, h2, q _ h3⟩
  · exact z.elim
theorem wpFld_mono {a f h} {Q Q' : QW} (q : ∀ w h, Q w h → Q' w h) : wpFld a f h Q → wpFld a f h Q' := by
  rintro ⟨n, c, fs, v, h1, h2, h3, h4⟩
  exact ⟨n, c, fs, v, h1, h2, h3, q _ _ h4⟩
theorem wpBi_mono {b ws h} {Q Q' : QW} (q : ∀ w h, Q w h → Q' w h) : wpBi b ws h Q → wpBi b ws h Q' := by
  unfold wpBi
  intro z
  split at z
  all_goals first
    | exact z.elim
    | exact q _ _ z
    | exact ⟨z.1, q _ _ z.2⟩
    | (obtain ⟨n, h1, h2⟩ := z; exact ⟨n, h1, q _ _ h2⟩)
theorem wpMe_mono {k t o ws h} {Q Q' : QW} (q : ∀ w h, Q w h → Q' w h) : wpMe k t o ws h Q → wpMe k t o ws h Q' := by
  unfold wpMe
  intro z
  split at z
  all_goals first
    | exact z.elim
    | exact q _ _ z
    | exact ⟨z.1, q _ _ z.2⟩
    | (obtain ⟨n, h1, h2⟩ := z; exact ⟨n, h1, q _ _ h2⟩)
    | (obtain ⟨n, h1, h2, h3⟩ := z; exact ⟨n, h1, h2, q _ _ h3⟩)
theorem wpTurns_mono {gd tg} {step : Loc → MH → (Option W → MH → Prop) → Prop} {loc : Loc}
    (hs : ∀ l h K K', (∀ o h, K o h → K' o h) → step l h K → step l h K') : ∀ (xs acc : List W) (h : MH) (Q Q' : List W → MH → Prop), (∀ w h, Q w h → Q' w h) →
    wpTurns gd tg step loc xs acc h Q → wpTurns gd tg step loc xs acc h Q'
  | [], acc, h, Q, Q', q, z => ⟨z.1, q _ _ z.2⟩
  | x :: r, acc, h, Q, Q', q, z => by
    obtain ⟨g, l, b, s⟩ := z
    refine ⟨g, l, b, hs _ _ _ _ (fun o h1 k => ?_) s⟩
    cases o with
    | some y => exact ⟨k.1, wpTurns_mono hs r _ _ Q Q' q k.2⟩
    | none => exact wpTurns_mono hs r _ _ Q Q' q k
/-- another step, from which the elder one follows -/
theorem wpTurns_step {gd tg} {step step' : Loc → MH → (Option W → MH → Prop) → Prop} {loc : Loc}
    (hs : ∀ l h K K', (∀ o h, K o h → K' o h) → step l h K → step' l h K') : ∀ (xs acc : List W) (h : MH) (Q Q' : List W → MH → Prop), (∀ w h, Q w h → Q' w h) →
    wpTurns gd tg step loc xs acc h Q → wpTurns gd tg step' loc xs acc h Q'
  | [], acc, h, Q, Q', q, z => ⟨z.1, q _ _ z.2⟩
  | x :: r, acc, h, Q, Q', q, z => by
    obtain ⟨g, l, b, s⟩ := z
    refine ⟨g, l, b, hs _ _ _ _ (fun o h1 k => ?_) s⟩
    cases o with
    | some y => exact ⟨k.1, wpTurns_step hs r _ _ Q Q' q k.2⟩
    | none => exact wpTurns_step hs r _ _ Q Q' q k
structure En.Le (D D' : En) : Prop where
  nx : ∀ l h, D.nx l h → D'.nx l h
  rt : ∀ w h, D.rt w h → D'.rt w h
  ct : ∀ l h, D.ct l h → D'.ct l h
  ex : ∀ e l h, D.ex e l h → D'.ex e l h
theorem wpFor_mono {gd tg} {body body' : Loc → MH → En → Prop} (hb : ∀ l h D D', En.Le D D' → body l h D → body' l h D') {D D' : En} (d : En.Le D D') :
    ∀ (xs : List W) (l : Loc) (h : MH), wpFor gd tg body D xs l h → wpFor gd tg body' D' xs l h
  | [], l, h, z => ⟨z.1, d.nx _ _ z.2⟩
  | x :: r, l, h, z => by
    obtain ⟨g, l', b, s⟩ := z
    exact ⟨g, l', b, hb _ _ { D with nx := wpFor gd tg body D r, ct := wpFor gd tg body D r } _ ⟨wpFor_mono hb d r, d.rt, wpFor_mono hb d r, d.ex⟩ s⟩
theorem wpWhl_mono {c c' : Loc → MH → (Bool → MH → Prop) → QX → Prop} (hc : ∀ l h Q Q' X X', (∀ w h, Q w h → Q' w h) → (∀ e h, X e h → X' e h) → c l h Q X → c' l h Q' X')
    {body body' : Loc → MH → En → Prop} (hb : ∀ l h D D', En.Le D D' → body l h D → body' l h D') {D D' : En} (d : En.Le D D') :
    ∀ (n : Nat) (l : Loc) (h : MH), wpWhl c body D n l h → wpWhl c' body' D' n l h
  | 0, l, h, z => z.elim
  | n + 1, l, h, z => by
    refine hc _ _ _ _ _ _ (fun b h1 k => ?_) (fun e h1 => d.ex e l h1) z
    cases b with
    | true => exact hb _ _ { D with nx := wpWhl c body D n, ct := wpWhl c body D n } _ ⟨wpWhl_mono hc hb d n, d.rt, wpWhl_mono hc hb d n, d.ex⟩ k
    | false => exact d.nx _ _ k
mutual
theorem wpE_mono {C C' : Fns} (hC : ∀ c f ws h Q Q' X X', (∀ w h, Q w h → Q' w h) → (∀ e h, X e h → X' e h) → C c f ws h Q X → C' c f ws h Q' X') {G : MG} : ∀ (e : E) (loc : Loc) (h : MH) (Q Q' : QW) (X X' : QX), (∀ w h, Q w h → Q' w h) → (∀ e h, X e h → X' e h) → wpE C G e loc h Q X → wpE C' G e loc h Q' X'
  | .lit w, loc, h, Q, Q', X, X', q, x, z => q _ _ z
  | .glo y, loc, h, Q, Q', X, X', q, x, z => by
    obtain ⟨w, h1, h2⟩ := z
    exact ⟨w, h1, q _ _ h2⟩
  | .var i, loc, h, Q, Q', X, X', q, x, z => by
    obtain ⟨w, h1, h2⟩ := z
    exact ⟨w, h1, q _ _ h2⟩
  | .bin op a b, loc, h, Q, Q', X, X', q, x, z => wpE_mono hC a _ _ _ _ _ _ (fun u h1 k => wpE_mono hC b _ _ _ _ _ _ (fun v h2 k => wpBin_mono q k) x k) x z
  | .neg a, loc, h, Q, Q', X, X', q, x, z => wpE_mono hC a _ _ _ _ _ _ (fun u h1 ⟨i, e, k⟩ => ⟨i, e, q _ _ k⟩) x z
  | .not a, loc, h, Q, Q', X, X', q, x, z => wpE_mono hC a _ _ _ _ _ _ (fun u h1 ⟨i, e, k⟩ => ⟨i, e, q _ _ k⟩) x z
  | .and a b, loc, h, Q, Q', X, X', q, x, z => wpE_mono hC a _ _ _ _ _ _ (fun u h1 ⟨i, e, k⟩ => ⟨i, e, by
      cases i with
      | true => exact wpE_mono hC b _ _ _ _ _ _ q x k
      | false => exact q _ _ k⟩) x z
  | .or a b, loc, h, Q, Q', X, X', q, x, z => wpE_mono hC a _ _ _ _ _ _ (fun u h1 ⟨i, e, k⟩ => ⟨i, e, by
      cases i with
      | false => exact wpE_mono hC b _ _ _ _ _ _ q x k
      | true => exact q _ _ k⟩) x z
  | .cmp op a b, loc, h, Q, Q', X, X', q, x, z => wpE_mono hC a _ _ _ _ _ _ (fun u h1 k => wpE_mono hC b _ _ _ _ _ _ (fun v h2 ⟨r, e, k⟩ => ⟨r, e, q _ _ k⟩) x k) x z
  | .chn o1 o2 a b c, loc, h, Q, Q', X, X', q, x, z => wpE_mono hC a _ _ _ _ _ _ (fun u h1 k => wpE_mono hC b _ _ _ _ _ _ (fun v h2 ⟨r, e, k⟩ => ⟨r, e, by
      cases r with
      | true => exact wpE_mono hC c _ _ _ _ _ _ (fun v h2 ⟨r, e, k⟩ => ⟨r, e, q _ _ k⟩) x k
      | false => exact q _ _ k⟩) x k) x z
  | .ife c a b, loc, h, Q, Q', X, X', q, x, z => wpE_mono hC c _ _ _ _ _ _ (fun u h1 ⟨i, e, k⟩ => ⟨i, e, by
      cases i with
      | true => exact wpE_mono hC a _ _ _ _ _ _ q x k
      | false => exact wpE_mono hC b _ _ _ _ _ _ q x k⟩) x z
  | .tup es, loc, h, Q, Q', X, X', q, x, z => wpEs_mono hC es _ _ _ _ _ _ (fun u h1 k => ⟨k.1, q _ _ k.2⟩) x z
  | .lst es, loc, h, Q, Q', X, X', q, x, z => wpEs_mono hC es _ _ _ _ _ _ (fun u h1 k => ⟨k.1, q _ _ k.2⟩) x z
  | .idx a b, loc, h, Q, Q', X, X', q, x, z => wpE_mono hC a _ _ _ _ _ _ (fun u h1 k => wpE_mono hC b _ _ _ _ _ _ (fun v h2 k => wpIdx_mono q k) x k) x z
  | .slc a b c, loc, h, Q, Q', X, X', q, x, z => wpE_mono hC a _ _ _ _ _ _ (fun u h1 k => wpE_mono hC b _ _ _ _ _ _ (fun v h2 ⟨l, e1, k⟩ => ⟨l, e1, wpE_mono hC c _ _ _ _ _ _ (fun w h3 ⟨u, e2, k⟩ => ⟨u, e2, wpSlc_mono q k⟩) x k⟩) x k) x z
  | .nop, loc, h, Q, Q', X, X', q, x, z => q _ _ z
  | .fld a f, loc, h, Q, Q', X, X', q, x, z => wpE_mono hC a _ _ _ _ _ _ (fun u h1 k => wpFld_mono q k) x z
  | .call f es, loc, h, Q, Q', X, X', q, x, z => wpEs_mono hC es _ _ _ _ _ _ (fun u h1 k => hC _ _ _ _ _ _ _ _ q x k) x z
  | .mk c es, loc, h, Q, Q', X, X', q, x, z => wpEs_mono hC es _ _ _ _ _ _ (fun u h1 k => hC _ _ _ _ _ _ _ _ (fun w h2 ⟨e, k⟩ => ⟨e, q _ _ k⟩) x k) x z
  | .meth o m k es, loc, h, Q, Q', X, X', q, x, z => wpE_mono hC o _ _ _ _ _ _ (fun u h1 k => by
      rcases k with ⟨n, c, fs, e1, e2, e3, k⟩ | ⟨t, e1, k⟩
      · exact .inl ⟨n, c, fs, e1, e2, e3, wpEs_mono hC es _ _ _ _ _ _ (fun u h1 k => hC _ _ _ _ _ _ _ _ q x k) x k⟩
      · exact .inr ⟨t, e1, wpEs_mono hC es _ _ _ _ _ _ (fun u h1 k => wpMe_mono q k) x k⟩) x z
  | .blt b es, loc, h, Q, Q', X, X', q, x, z => wpEs_mono hC es _ _ _ _ _ _ (fun u h1 k => wpBi_mono q k) x z
  | .isi a t, loc, h, Q, Q', X, X', q, x, z => wpE_mono hC a _ _ _ _ _ _ (fun u h1 ⟨i, e, k⟩ => ⟨i, e, q _ _ k⟩) x z
  | .lc elt tg own it, loc, h, Q, Q', X, X', q, x, z => wpI_mono hC it _ _ _ _ _ _ (fun xs gd h1 k => wpTurns_step (fun l h K K' kk s => wpE_mono hC elt _ _ _ _ _ _ (fun y h3 => kk _ _) (fun _ _ z => z) s) _ _ _ _ _ (fun ys h2 => q _ _) k) x z
  | .lcif elt tg own it cd, loc, h, Q, Q', X, X', q, x, z => by
    refine wpI_mono hC it _ _ _ _ _ _ (fun xs gd h1 k => ?_) x z
    refine wpTurns_step (fun l h K K' kk s => ?_) _ _ _ _ _ (fun ys h2 => q _ _) k
    refine wpE_mono hC cd _ _ _ _ _ _ (fun y h3 k => ?_) (fun _ _ z => z) s
    obtain ⟨i, e, k⟩ := k
    refine ⟨i, e, ?_⟩
    cases i with
    | true => exact wpE_mono hC elt _ _ _ _ _ _ (fun y h3 => kk _ _) (fun _ _ z => z) k
    | false => exact kk _ _ k
theorem wpEs_mono {C C' : Fns} (hC : ∀ c f ws h Q Q' X X', (∀ w h, Q w h → Q' w h) → (∀ e h, X e h → X' e h) → C c f ws h Q X → C' c f ws h Q' X') {G : MG} : ∀ (es : Es) (loc : Loc) (h : MH) (Q Q' : List W → MH → Prop) (X X' : QX), (∀ w h, Q w h → Q' w h) → (∀ e h, X e h → X' e h) → wpEs C G es loc h Q X → wpEs C' G es loc h Q' X'
  | .nil, loc, h, Q, Q', X, X', q, x, z => q _ _ z
  | .cons e es, loc, h, Q, Q', X, X', q, x, z => wpE_mono hC e _ _ _ _ _ _ (fun u h1 k => wpEs_mono hC es _ _ _ _ _ _ (fun us h2 => q _ _) x k) x z
theorem wpI_mono {C C' : Fns} (hC : ∀ c f ws h Q Q' X X', (∀ w h, Q w h → Q' w h) → (∀ e h, X e h → X' e h) → C c f ws h Q X → C' c f ws h Q' X') {G : MG} : ∀ (it : I) (loc : Loc) (h : MH) (R R' : QI) (X X' : QX), (∀ xs gd h, R xs gd h → R' xs gd h) → (∀ e h, X e h → X' e h) → wpI C G it loc h R X → wpI C' G it loc h R' X'
  | .e a, loc, h, R, R', X, X', q, x, z => wpE_mono hC a _ _ _ _ _ _ (fun u h1 ⟨xs, gd, e, k⟩ => ⟨xs, gd, e, q _ _ _ k⟩) x z
  | .rng1 a, loc, h, R, R', X, X', q, x, z => wpE_mono hC a _ _ _ _ _ _ (fun u h1 ⟨j, e1, e2, e3, k⟩ => ⟨j, e1, e2, e3, q _ _ _ k⟩) x z
  | .rng2 a b, loc, h, R, R', X, X', q, x, z => wpE_mono hC a _ _ _ _ _ _ (fun u h1 k => wpE_mono hC b _ _ _ _ _ _ (fun v h2 ⟨i, j, e1, e2, e3, e4, e5, e6, k⟩ => ⟨i, j, e1, e2, e3, e4, e5, e6, q _ _ _ k⟩) x k) x z
  | .rng3 a b c, loc, h, R, R', X, X', q, x, z => wpE_mono hC a _ _ _ _ _ _ (fun u h1 k => wpE_mono hC b _ _ _ _ _ _ (fun v h2 k => wpE_mono hC c _ _ _ _ _ _ (fun w h3 ⟨i, j, s, n, e1, e2, e3, e4, k⟩ => ⟨i, j, s, n, e1, e2, e3, e4, q _ _ _ k⟩) x k) x k) x z
  | .enum a, loc, h, R, R', X, X', q, x, z => wpE_mono hC a _ _ _ _ _ _ (fun u h1 ⟨xs, e, k⟩ => ⟨xs, e, q _ _ _ k⟩) x z
end
mutual
theorem wpS_mono {C C' : Fns} (hC : ∀ c f ws h Q Q' X X', (∀ w h, Q w h → Q' w h) → (∀ e h, X e h → X' e h) → C c f ws h Q X → C' c f ws h Q' X') {G : MG} : ∀ (s : S) (loc : Loc) (h : MH) (D D' : En), En.Le D D' → wpS C G s loc h D → wpS C' G s loc h D'
  | .set i e, loc, h, D, D', d, z => wpE_mono hC e _ _ _ _ _ _ (fun w h1 => d.nx _ _) (fun x h1 => d.ex _ _ _) z
  | .unp is e, loc, h, D, D', d, z => wpE_mono hC e _ _ _ _ _ _ (fun w h1 ⟨xs, e1, e2, k⟩ => ⟨xs, e1, e2, d.nx _ _ k⟩) (fun x h1 => d.ex _ _ _) z
  | .sfld o f e, loc, h, D, D', d, z => wpE_mono hC e _ _ _ _ _ _ (fun w h1 k => wpE_mono hC o _ _ _ _ _ _ (fun v h2 ⟨n, c, fs, e1, e2, e3, k⟩ => ⟨n, c, fs, e1, e2, e3, d.nx _ _ k⟩) (fun x h1 => d.ex _ _ _) k) (fun x h1 => d.ex _ _ _) z
  | .sidx o i e, loc, h, D, D', d, z => wpE_mono hC e _ _ _ _ _ _ (fun w h1 k => wpE_mono hC o _ _ _ _ _ _ (fun v h2 k => wpE_mono hC i _ _ _ _ _ _ (fun v h2 k => wpSet_mono (d.nx _) k) (fun x h1 => d.ex _ _ _) k) (fun x h1 => d.ex _ _ _) k) (fun x h1 => d.ex _ _ _) z
  | .aug i op e, loc, h, D, D', d, z => by
    obtain ⟨x, e1, z⟩ := z
    exact ⟨x, e1, wpE_mono hC e _ _ _ _ _ _ (fun w h1 k => wpIp_mono (fun u h2 => d.nx _ _) k) (fun x h1 => d.ex _ _ _) z⟩
  | .augf o f op e, loc, h, D, D', d, z => wpE_mono hC o _ _ _ _ _ _ (fun w h1 ⟨n, c, fs, v, e1, e2, e3, k⟩ => ⟨n, c, fs, v, e1, e2, e3, wpE_mono hC e _ _ _ _ _ _ (fun w h1 k => wpIp_mono (fun u h2 ⟨fs, e1, e2, k⟩ => ⟨fs, e1, e2, d.nx _ _ k⟩) k) (fun x h1 => d.ex _ _ _) k⟩) (fun x h1 => d.ex _ _ _) z
  | .augi o i op e, loc, h, D, D', d, z => wpE_mono hC o _ _ _ _ _ _ (fun w h1 k => wpE_mono hC i _ _ _ _ _ _ (fun w h2 ⟨n, j, xs, v, e1, e2, k⟩ => ⟨n, j, xs, v, e1, e2, wpE_mono hC e _ _ _ _ _ _ (fun w h1 k => wpIp_mono (fun u h2 k => wpSet_mono (d.nx _) k) k)
      (fun x h1 => d.ex _ _ _) k⟩) (fun x h1 => d.ex _ _ _) k) (fun x h1 => d.ex _ _ _) z
  | .ifs c a b, loc, h, D, D', d, z => wpE_mono hC c _ _ _ _ _ _ (fun w h1 ⟨k, e1, r⟩ => ⟨k, e1, by
      cases k with
      | true => exact wpSs_mono hC a _ _ _ _ d r
      | false => exact wpSs_mono hC b _ _ _ _ d r⟩) (fun x h1 => d.ex _ _ _) z
  | .fors tg it body, loc, h, D, D', d, z => wpI_mono hC it _ _ _ _ _ _ (fun xs gd h1 k => wpFor_mono (fun l h D D' d => wpSs_mono hC body l h D D' d) d _ _ _ k) (fun x h1 => d.ex _ _ _) z
  | .whl c body, loc, h, D, D', d, z => by
    obtain ⟨n, z⟩ := z
    refine ⟨n, wpWhl_mono (c := wpT C G c) (c' := wpT C' G c) (fun l h Q Q' X X' q x z => ?_) (fun l h D D' d => wpSs_mono hC body l h D D' d) d _ _ _ z⟩
    refine wpE_mono hC c _ _ _ _ _ _ (fun w h z => ?_) x z
    obtain ⟨k, e, z⟩ := z
    exact ⟨k, e, q _ _ z⟩
  | .ret e, loc, h, D, D', d, z => wpE_mono hC e _ _ _ _ _ _ (fun w h1 => d.rt _ _) (fun x h1 => d.ex _ _ _) z
  | .retn, loc, h, D, D', d, z => d.rt _ _ z
  | .cont, loc, h, D, D', d, z => d.ct _ _ z
  | .pass, loc, h, D, D', d, z => d.nx _ _ z
  | .expr e, loc, h, D, D', d, z => wpE_mono hC e _ _ _ _ _ _ (fun w h1 => d.nx _ _) (fun x h1 => d.ex _ _ _) z
  | .raise c, loc, h, D, D', d, z => d.ex _ _ _ z
  | .raiser c f e, loc, h, D, D', d, z => wpE_mono hC e _ _ _ _ _ _ (fun w h1 ⟨i, e1, e2, k⟩ => ⟨i, e1, e2, d.ex _ _ _ k⟩) (fun x h1 => d.ex _ _ _) z
  | .tryas body c i j, loc, h, D, D', d, z => by
    refine (fun d' => wpSs_mono hC body _ _ _ _ d' z) ⟨d.nx, d.rt, d.ct, fun e l h1 k => ?_⟩
    by_cases hs : G.sub e.c c = true
    · exact Eq.mpr (if_pos hs) (d.nx _ _ (Eq.mp (if_pos hs) k))
    · exact Eq.mpr (if_neg hs) (d.ex _ _ _ (Eq.mp (if_neg hs) k))
  | .tryset body c j w, loc, h, D, D', d, z => by
    refine (fun d' => wpSs_mono hC body _ _ _ _ d' z) ⟨d.nx, d.rt, d.ct, fun e l h1 k => ?_⟩
    by_cases hs : G.sub e.c c = true
    · exact Eq.mpr (if_pos hs) (d.nx _ _ (Eq.mp (if_pos hs) k))
    · exact Eq.mpr (if_neg hs) (d.ex _ _ _ (Eq.mp (if_neg hs) k))
  | .tryret body c w, loc, h, D, D', d, z => by
    refine (fun d' => wpSs_mono hC body _ _ _ _ d' z) ⟨d.nx, d.rt, d.ct, fun e l h1 k => ?_⟩
    by_cases hs : G.sub e.c c = true
    · exact Eq.mpr (if_pos hs) (d.rt _ _ (Eq.mp (if_pos hs) k))
    · exact Eq.mpr (if_neg hs) (d.ex _ _ _ (Eq.mp (if_neg hs) k))
theorem wpSs_mono {C C' : Fns} (hC : ∀ c f ws h Q Q' X X', (∀ w h, Q w h → Q' w h) → (∀ e h, X e h → X' e h) → C c f ws h Q X → C' c f ws h Q' X') {G : MG} : ∀ (ss : Ss) (loc : Loc) (h : MH) (D D' : En), En.Le D D' → wpSs C G ss loc h D → wpSs C' G ss loc h D'
  | .nil, loc, h, D, D', d, z => d.nx _ _ z
  | .cons s ss, loc, h, D, D', d, z => (fun d' => wpS_mono hC s _ _ _ _ d' z) ⟨fun l h1 k => wpSs_mono hC ss _ _ _ _ d k, d.rt, d.ct, d.ex⟩
end
theorem callAt_mono {G : MG} : ∀ (k j : Nat), k ≤ j → ∀ c f ws h Q Q' X X', (∀ w h, Q w h → Q' w h) → (∀ e h, X e h → X' e h) → callAt G k c f ws h Q X → callAt G j c f ws h Q' X'
  | 0, _, _ => fun _ _ _ _ _ _ _ _ _ _ z => z.elim
  | k + 1, 0, hkj => absurd hkj (by omega)
  | k + 1, j + 1, hkj => fun c f ws h Q Q' X X' q x z => by
    obtain ⟨d, e1, e2, z⟩ := z
    exact ⟨d, e1, e2, (fun d' => wpSs_mono (callAt_mono k j (by omega)) d.body _ _ _ _ d' z) ⟨fun _ h1 => q _ h1, q, fun _ _ z => z, fun e _ h1 => x e h1⟩⟩
end MP
set_option Elab.async false
set_option linter.all false
set_option maxRecDepth 100000
/-! Rel: how the small language's values and heap stand in the machine's. -/
namespace MP
open PySem L2 PySem.Spec PyProof.Rows

/-- the module: the program, its world, the written part, and where things stand -/
structure GE where
  P : Program
  w : World
  K : PySem.W.Frag
  mg : Str → Option Value
  base : Heap
  G : MG
  ca : Str → Addr
  fa : Str → Str → Addr
  fd : Str → Str → FuncData
  ps : Str → Str → List Str

/-- what the written part says of the classes -/
structure KOk (g : GE) : Prop where
  cls : ∀ c ∈ g.G.cls, Cls g.K (g.ca c)
  ha : ∀ c ∈ g.G.cls ++ g.G.exs, PySem.W.findIn g.K (.ref (g.ca c)) "__class__" = some (some (.builtin "object.__class__"))
  hn : PySem.W.specialIn g.K (.builtin "object.__class__") "__get__" = some (some (.builtin "getset_descriptor.__get__"))
  ht : PySem.W.takesIn g.K (.builtin "object.__class__") = some true
  hm : ∀ c ∈ g.G.cls ++ g.G.exs, PySem.W.mroIn g.K (g.ca c) (.type "object") = some true
  hd : ∀ c ∈ g.G.exs, PySem.W.hasDictIn g.K (g.ca c) = true
  ga : ∀ c ∈ g.G.exs, PySem.W.findIn g.K (.ref (g.ca c)) "__getattribute__" = some (some (.builtin "BaseException.__getattribute__"))
  gg : ∀ c ∈ g.G.exs, PySem.W.findIn g.K (.ref (g.ca c)) "__getattr__" = some none
  be : ∀ c ∈ g.G.exs, PySem.W.subIn g.K (.ref (g.ca c)) (.type "BaseException") = some true
  ty : ∀ c ∈ g.G.exs, PySem.W.typeIn g.K (.ref (g.ca c)) = some (.type "type")
  bo : ∀ T ∈ ["NoneType", "bool", "int", "str", "list", "tuple", "dict"], ∀ d ∈ g.G.cls ++ g.G.exs, PySem.W.kitOne g.K (.type T) (.ref (g.ca d)) = some false
  ob : ∀ c ∈ g.G.cls ++ g.G.exs, ∀ T ∈ ["int", "bool", "str", "tuple", "list", "dict"], PySem.W.kitOne g.K (.ref (g.ca c)) (.type T) = some false
  oo : ∀ c ∈ g.G.cls ++ g.G.exs, ∀ d ∈ g.G.cls ++ g.G.exs, PySem.W.kitOne g.K (.ref (g.ca c)) (.ref (g.ca d)) = some (g.G.sub c d)
  exm : ∀ c ∈ g.G.exs, ∀ d ∈ g.G.exs, PySem.W.exmOne g.K (.ref (g.ca c)) (.ref (g.ca d)) = some (g.G.sub c d)
  no : ∀ c f, g.G.fld c f = true → c ∈ g.G.cls → NoAttr g.K (g.ca c) f
  noe : ∀ c ∈ g.G.exs, ∀ f, g.G.fld c f = true → NoAttr g.K (g.ca c) f
def FzL (K : PySem.W.Frag) (H : Hp) (a : Addr) (xs : List V) : Prop :=
  (∃ o, H a = some (.frz o (.lst xs))) ∨
    ∃ (o : Obj) (its : Array Value) (n : Nat), K.lookup a = some o ∧ o.cls = .type "list" ∧ o.dict = none ∧ o.data = .seq its n ∧ its.size ≤ sizeLine ∧ Vals xs its.toList
theorem FzL.sq {K : PySem.W.Frag} {H : Hp} {a : Addr} {xs : List V} (h : FzL K H a xs) : SqL K H a xs := by
  rcases h with ⟨o, h⟩ | h
  · exact .inl (.inr ⟨o, h⟩)
  · exact .inr h
mutual
inductive RW (K : PySem.W.Frag) (N : Nat) (μ : Nat → Addr) (H : Hp) : W → V → Prop
  | non : RW K N μ H .non .non
  | bl (b : Bool) : RW K N μ H (.bl b) (.bl b)
  | int (i : Int) : RW K N μ H (.int i) (.int i)
  | str (x : Str) : RW K N μ H (.str x) (.str x)
  | tup {xs : List W} {vs : List V} {a : Addr} : SqT K H a vs → RWs K N μ H xs vs → RW K N μ H (.tup xs) (.ref a)
  | obj {n : Nat} : n < N → RW K N μ H (.obj n) (.ref (μ n))
  | scr {xs : List W} {vs : List V} {a : Addr} : FzL K H a vs → RWs K N μ H xs vs → RW K N μ H (.scr xs) (.ref a)
inductive RWs (K : PySem.W.Frag) (N : Nat) (μ : Nat → Addr) (H : Hp) : List W → List V → Prop
  | nil : RWs K N μ H [] []
  | cons {x : W} {v : V} {xs : List W} {vs : List V} : RW K N μ H x v → RWs K N μ H xs vs → RWs K N μ H (x :: xs) (v :: vs)
end
/-- later: the objects stand where they stood, nothing else is changed -/
structure Up (N : Nat) (μ : Nat → Addr) (H : Hp) (N' : Nat) (μ' : Nat → Addr) (H' : Hp) : Prop where
  le : N ≤ N'
  ag : ∀ i, i < N → μ' i = μ i
  new : ∀ i, N ≤ i → i < N' → H (μ' i) = none
  dom : ∀ a, H' a = none → H a = none
  tups : ∀ a vs, H a = some (.tup vs) → H' a = some (.tup vs)
  frzs : ∀ a o u, H a = some (.frz o u) → H' a = some (.frz o u)
  rest : ∀ a o, H a = some o → (∀ i, i < N → μ i ≠ a) → H' a = some o
section
variable {K : PySem.W.Frag} {N N' N2 : Nat} {μ μ' μ2 : Nat → Addr} {H H' H2 : Hp} {h h' : MH}
theorem Up.refl : Up N μ H N μ H := ⟨Nat.le_refl _, fun _ _ => rfl, fun _ a b => absurd b (Nat.not_lt.mpr a), fun _ e => e, fun _ _ h => h, fun _ _ _ h => h, fun _ _ h _ => h⟩
theorem Up.trans (a : Up N μ H N' μ' H') (b : Up N' μ' H' N2 μ2 H2) : Up N μ H N2 μ2 H2 where
  le := Nat.le_trans a.le b.le
  ag := fun i hi => (b.ag i (Nat.lt_of_lt_of_le hi a.le)).trans (a.ag i hi)
  new := fun i h1 h2 => by
    by_cases hi : i < N'
    · rw [b.ag i hi]; exact a.new i h1 hi
    · exact a.dom _ (b.new i (Nat.le_of_not_lt hi) h2)
  dom := fun x e => a.dom x (b.dom x e)
  tups := fun x vs h => b.tups x vs (a.tups x vs h)
  frzs := fun x o u h => b.frzs x o u (a.frzs x o u h)
  rest := fun x o h hn => b.rest x o (a.rest x o h hn) fun i hi e => by
    by_cases h1 : i < N
    · exact hn i h1 ((a.ag i h1).symm.trans e)
    · have := a.new i (Nat.le_of_not_lt h1) hi
      rw [e, h] at this
      cases this
/-- a heap that only has more -/
theorem Up.more (hn : ∀ a o, H a = some o → H' a = some o) : Up N μ H N μ H' :=
  ⟨Nat.le_refl _, fun _ _ => rfl, fun _ a b => absurd b (Nat.not_lt.mpr a), (fun a e => by
    cases q : H a with
    | none => rfl
    | some o => rw [hn a o q] at e; cases e), fun a vs h => hn a _ h, fun a o u h => hn a _ h, fun a o h _ => hn a o h⟩
theorem upd_more {p : Addr} {o : HO} (hp : H p = none) : ∀ a u, H a = some u → upd H p o a = some u := fun a u h => by
  rw [upd_ne (ne_of_none h hp)]; exact h
theorem rd_up {a : Addr} {vs : List V} (u : Up N μ H N' μ' H') (h : SqT K H a vs) : SqT K H' a vs := by
  rcases h with (h | ⟨o, h⟩) | h
  · exact .inl (.inl (u.tups _ _ h))
  · exact .inl (.inr ⟨o, u.frzs _ _ _ h⟩)
  · exact .inr h
theorem fz_up {a : Addr} {vs : List V} (u : Up N μ H N' μ' H') (h : FzL K H a vs) : FzL K H' a vs := by
  rcases h with ⟨o, h⟩ | h
  · exact .inl ⟨o, u.frzs _ _ _ h⟩
  · exact .inr h
mutual
theorem RW.up (u : Up N μ H N' μ' H') : ∀ {x : W} {v : V}, RW K N μ H x v → RW K N' μ' H' x v
  | _, _, .non => .non
  | _, _, .bl b => .bl b
  | _, _, .int i => .int i
  | _, _, .str x => .str x
  | _, _, .tup h r => .tup (rd_up u h) (RWs.up u r)
  | _, _, .obj (n := n) h => by rw [← u.ag n h]; exact .obj (Nat.lt_of_lt_of_le h u.le)
  | _, _, .scr h r => .scr (fz_up u h) (RWs.up u r)
theorem RWs.up (u : Up N μ H N' μ' H') : ∀ {xs : List W} {vs : List V}, RWs K N μ H xs vs → RWs K N' μ' H' xs vs
  | _, _, .nil => .nil
  | _, _, .cons h r => .cons (RW.up u h) (RWs.up u r)
end
theorem RWs.length : ∀ {xs : List W} {vs : List V}, RWs K N μ H xs vs → vs.length = xs.length
  | _, _, .nil => rfl
  | _, _, .cons _ r => by simp [RWs.length r]
theorem RWs.append : ∀ {xs ys : List W} {vs ws : List V}, RWs K N μ H xs vs → RWs K N μ H ys ws → RWs K N μ H (xs ++ ys) (vs ++ ws)
  | _, _, _, _, .nil, s => s
  | _, _, _, _, .cons h r, s => .cons h (RWs.append r s)
theorem RWs.get : ∀ {xs : List W} {vs : List V} {i : Nat} {x : W}, RWs K N μ H xs vs → xs[i]? = some x → ∃ v, vs[i]? = some v ∧ RW K N μ H x v
  | _, _, _, _, .nil, e => by simp at e
  | _, _, 0, _, .cons h _, e => by simp at e; subst e; exact ⟨_, rfl, h⟩
  | _, _, i + 1, _, .cons _ r, e => by
    obtain ⟨v, h1, h2⟩ := RWs.get (i := i) r (by simpa using e)
    exact ⟨v, by simpa using h1, h2⟩
theorem RWs.getV : ∀ {xs : List W} {vs : List V} {i : Nat} {v : V}, RWs K N μ H xs vs → vs[i]? = some v → ∃ x, xs[i]? = some x ∧ RW K N μ H x v
  | _, _, _, _, .nil, e => by simp at e
  | _, _, 0, _, .cons h _, e => by simp at e; subst e; exact ⟨_, rfl, h⟩
  | _, _, i + 1, _, .cons _ r, e => by
    obtain ⟨v, h1, h2⟩ := RWs.getV (i := i) r (by simpa using e)
    exact ⟨v, by simpa using h1, h2⟩
theorem RWs.set {x : W} {v : V} (hx : RW K N μ H x v) : ∀ {xs : List W} {vs : List V} (i : Nat), RWs K N μ H xs vs → RWs K N μ H (xs.set i x) (vs.set i v)
  | _, _, _, .nil => .nil
  | _, _, 0, .cons _ r => .cons hx r
  | _, _, i + 1, .cons h r => .cons h (RWs.set hx i r)
theorem RWs.take : ∀ {xs : List W} {vs : List V} (n : Nat), RWs K N μ H xs vs → RWs K N μ H (xs.take n) (vs.take n)
  | _, _, 0, _ => .nil
  | _, _, _ + 1, .nil => .nil
  | _, _, n + 1, .cons h r => .cons h (RWs.take n r)
theorem RWs.drop : ∀ {xs : List W} {vs : List V} (n : Nat), RWs K N μ H xs vs → RWs K N μ H (xs.drop n) (vs.drop n)
  | _, _, 0, r => r
  | _, _, _ + 1, .nil => .nil
  | _, _, n + 1, .cons _ r => RWs.drop n r
theorem RWs.cut {xs : List W} {vs : List V} (r : RWs K N μ H xs vs) (lo hi : Option Int) : RWs K N μ H (cutW xs lo hi) (cutV vs lo hi) := by
  unfold cutW cutV
  rw [r.length]
  exact (r.drop _).take _
theorem RWs.rep {xs : List W} {vs : List V} (r : RWs K N μ H xs vs) : ∀ n : Nat, RWs K N μ H (List.replicate n xs).flatten (List.replicate n vs).flatten
  | 0 => .nil
  | n + 1 => by
    simp only [List.replicate_succ, List.flatten_cons]
    exact r.append (RWs.rep r n)
theorem RWs.ints : ∀ {is : List Int} {vs : List V}, RWs K N μ H (is.map W.int) vs → vs = is.map V.int
  | [], _, .nil => rfl
  | _ :: _, _, .cons (.int _) r => by rw [List.map_cons, RWs.ints r]
theorem RWs.strs : ∀ {is : List Str} {vs : List V}, RWs K N μ H (is.map W.str) vs → vs = is.map V.str
  | [], _, .nil => rfl
  | _ :: _, _, .cons (.str _) r => by rw [List.map_cons, RWs.strs r]
theorem RWs.bls : ∀ {is : List Bool} {vs : List V}, RWs K N μ H (is.map W.bl) vs → vs = is.map V.bl
  | [], _, .nil => rfl
  | _ :: _, _, .cons (.bl _) r => by rw [List.map_cons, RWs.bls r]
theorem rws_strs : ∀ (is : List Str), RWs K N μ H (is.map W.str) (is.map V.str)
  | [] => .nil
  | x :: r => .cons (.str x) (rws_strs r)
end

/-! ### fields, cells -/
/-- an exception that was caught -/
def exT (a : Addr) (cls : Value) (d : Option Addr) : HO := .ext fun h => ∃ oe vs, h.get? a = some oe ∧ oe.cls = cls ∧ oe.dict = d ∧ oe.data = .fields vs
def FR (K : PySem.W.Frag) (N : Nat) (μ : Nat → Addr) (H : Hp) : List (Str × W) → List (Str × V) → Prop := Paired fun p q => p.1 = q.1 ∧ RW K N μ H p.2 q.2
/-- an exception's own dict -/
def DxR (K : PySem.W.Frag) (N : Nat) (μ : Nat → Addr) (H : Hp) (d : Option Addr) (fs : List (Str × W)) : Prop :=
  match fs with
  | [] => d = none
  | f :: r => ∃ dx vs, d = some dx ∧ H dx = some (.xd vs) ∧ FR K N μ H (f :: r) vs ∧ ∀ i, i < N → μ i ≠ dx
def CR (g : GE) (N : Nat) (μ : Nat → Addr) (H : Hp) (a : Addr) : Cell → Prop
  | .lst xs => ∃ vs, H a = some (.lst vs) ∧ RWs g.K N μ H xs vs
  | .ins c fs => ∃ dx vs, H a = some (.ins (g.ca c) dx vs) ∧ FR g.K N μ H fs vs ∧ c ∈ g.G.cls ∧ ∀ p ∈ fs, NoAttr g.K (g.ca c) p.1
  | .exc c fs => ∃ d, H a = some (exT a (.ref (g.ca c)) d) ∧ DxR g.K N μ H d fs ∧ c ∈ g.G.exs ∧ ∀ p ∈ fs, NoAttr g.K (g.ca c) p.1
structure Rl (g : GE) (h : MH) (μ : Nat → Addr) (H : Hp) : Prop where
  inj : ∀ i j, i < h.n → j < h.n → μ i = μ j → i = j
  ocp : ∀ i, i < h.n → H (μ i) ≠ none
  cell : ∀ i c, h.g i = some c → i < h.n ∧ CR g h.n μ H (μ i) c
def LR (K : PySem.W.Frag) (N : Nat) (μ : Nat → Addr) (H : Hp) (loc : Loc) (σ : L2.St) : Prop := ∀ (i : Nat) (w : W), loc[i]? = some (some w) → ∃ v, σ[i]? = some (some v) ∧ RW K N μ H w v
def RX (g : GE) (N : Nat) (μ : Nat → Addr) (H : Hp) (e : Ex) (cls : Value) (d : Option Addr) : Prop := cls = .ref (g.ca e.c) ∧ DxR g.K N μ H d e.fs ∧ e.c ∈ g.G.exs ∧ ∀ p ∈ e.fs, NoAttr g.K (g.ca e.c) p.1
section
variable {g : GE} {K : PySem.W.Frag} {N N' : Nat} {μ μ' : Nat → Addr} {H H' : Hp} {h h' : MH}
theorem FR.up {fs : List (Str × W)} {vs : List (Str × V)} (u : Up N μ H N' μ' H') (r : FR K N μ H fs vs) : FR K N' μ' H' fs vs := Paired.mapP r fun _ _ q => ⟨q.1, q.2.up u⟩
theorem LR.up {loc : Loc} {σ : L2.St} (u : Up N μ H N' μ' H') (r : LR K N μ H loc σ) : LR K N' μ' H' loc σ := fun i w e => by
  obtain ⟨v, h1, h2⟩ := r i w e
  exact ⟨v, h1, h2.up u⟩
theorem LR.set {loc : Loc} {σ : L2.St} {i : Nat} {w : W} {v : V} (r : LR K N μ H loc σ) (hw : RW K N μ H w v) (hl : loc.length = σ.length) : LR K N μ H (loc.set i (some w)) (σ.set i (some v)) := fun j x e => by
  by_cases hj : j = i
  · subst hj
    by_cases hi : j < loc.length
    · rw [List.getElem?_set_self hi] at e
      cases e
      exact ⟨v, by rw [List.getElem?_set_self (hl ▸ hi)], hw⟩
    · rw [List.getElem?_eq_none (by simpa using hi)] at e; cases e
  · rw [List.getElem?_set_ne (Ne.symm hj)] at e ⊢
    exact r j x e
theorem LR.none {loc : Loc} {σ : L2.St} {i : Nat} (r : LR K N μ H loc σ) : LR K N μ H (loc.set i none) (σ.set i none) := fun j x e => by
  by_cases hj : j = i
  · subst hj
    by_cases hi : j < loc.length
    · rw [List.getElem?_set_self hi] at e
      cases e
    · rw [List.getElem?_eq_none (by simpa using hi)] at e; cases e
  · rw [List.getElem?_set_ne (Ne.symm hj)] at e ⊢
    exact r j x e
theorem FR.lookup {fs : List (Str × W)} {vs : List (Str × V)} {f : Str} {w : W} (r : FR K N μ H fs vs) (e : fs.lookup f = some w) : ∃ v, vs.lookup f = some v ∧ RW K N μ H w v := by
  induction r with
  | nil => simp at e
  | @cons p q ps qs r1 r2 ih =>
    obtain ⟨a, x⟩ := p
    obtain ⟨b, y⟩ := q
    obtain ⟨e1, r1⟩ := r1
    obtain rfl : a = b := e1
    rw [List.lookup_cons] at e ⊢
    cases hx : f == a with
    | true => rw [hx] at e; cases e; exact ⟨y, rfl, r1⟩
    | false => rw [hx] at e; exact ih e
theorem FR.lookup_none {fs : List (Str × W)} {vs : List (Str × V)} {f : Str} (r : FR K N μ H fs vs) (e : fs.lookup f = none) : vs.lookup f = none := by
  induction r with
  | nil => rfl
  | @cons p q ps qs r1 r2 ih =>
    obtain ⟨a, x⟩ := p
    obtain ⟨b, y⟩ := q
    obtain ⟨e1, r1⟩ := r1
    obtain rfl : a = b := e1
    rw [List.lookup_cons] at e ⊢
    cases hx : f == a with
    | true => rw [hx] at e; cases e
    | false => rw [hx] at e; exact ih e
theorem FR.put {fs : List (Str × W)} {vs : List (Str × V)} {f : Str} {w : W} {v : V} (r : FR K N μ H fs vs) (hw : RW K N μ H w v) : FR K N μ H (putW f w fs) (putF f v vs) := by
  induction r with
  | nil => exact .cons ⟨rfl, hw⟩ .nil
  | @cons p q ps qs r1 r2 ih =>
    obtain ⟨a, x⟩ := p
    obtain ⟨b, y⟩ := q
    obtain ⟨e1, r1⟩ := r1
    obtain rfl : a = b := e1
    unfold putW putF
    by_cases ha : a = f
    · rw [if_pos ha, if_pos ha]; exact .cons ⟨rfl, hw⟩ r2
    · rw [if_neg ha, if_neg ha]; exact .cons ⟨rfl, r1⟩ ih
theorem FR.length {fs : List (Str × W)} {vs : List (Str × V)} (r : FR K N μ H fs vs) : vs.length = fs.length := (Paired.length r).symm
theorem mem_putW {f : Str} {w : W} : ∀ {fs : List (Str × W)} {p : Str × W}, p ∈ putW f w fs → p.1 = f ∨ p ∈ fs
  | [], p, e => by
    have : p = (f, w) := by simpa [putW] using e
    exact .inl (by rw [this])
  | (a, x) :: r, p, e => by
    unfold putW at e
    split at e
    · rcases List.mem_cons.mp e with e | e
      · exact .inl (by rw [e]; assumption)
      · exact .inr (List.mem_cons_of_mem _ e)
    · rcases List.mem_cons.mp e with e | e
      · exact .inr (by rw [e]; exact List.mem_cons_self)
      · rcases mem_putW e with e | e
        · exact .inl e
        · exact .inr (List.mem_cons_of_mem _ e)
end
end MP
set_option Elab.async false
set_option linter.all false
set_option maxRecDepth 100000
/-! Rel2: the steps of the heap, and readings by the small language. -/
namespace MP
open PySem L2 PySem.Spec PyProof.Rows
section
variable {g : GE} {N N' : Nat} {μ μ' : Nat → Addr} {H H' : Hp} {h h' : MH} {a : Addr} {c : Cell} {o : HO}
theorem DxR.up {d : Option Addr} {fs : List (Str × W)} (u : Up N μ H N' μ' H') (r : DxR g.K N μ H d fs) : DxR g.K N' μ' H' d fs := by
  cases fs with
  | nil => exact r
  | cons f fs =>
    obtain ⟨dx, vs, e1, e2, r, hn⟩ := r
    refine ⟨dx, vs, e1, u.rest dx _ e2 hn, r.up u, fun i hi e => ?_⟩
    by_cases h1 : i < N
    · exact hn i h1 ((u.ag i h1).symm.trans e)
    · have := u.new i (Nat.le_of_not_lt h1) hi
      rw [e, e2] at this
      cases this
theorem CR.up (u : Up N μ H N' μ' H') (e : H' a = H a) (r : CR g N μ H a c) : CR g N' μ' H' a c := by
  cases c with
  | lst xs =>
    obtain ⟨vs, h1, h2⟩ := r
    exact ⟨vs, e.trans h1, h2.up u⟩
  | ins c fs =>
    obtain ⟨dx, vs, h1, h2, h3⟩ := r
    exact ⟨dx, vs, e.trans h1, h2.up u, h3⟩
  | exc c fs =>
    obtain ⟨d, h1, h2, h3⟩ := r
    exact ⟨d, e.trans h1, h2.up u, h3⟩
theorem Rl.more (R : Rl g h μ H) (hn : ∀ a o, H a = some o → H' a = some o) : Rl g h μ H' := by
  refine ⟨R.inj, fun i hi e => ?_, fun i c e => ?_⟩
  · cases q : H (μ i) with
    | none => exact R.ocp i hi q
    | some o => rw [hn _ _ q] at e; cases e
  · obtain ⟨h1, h2⟩ := R.cell i c e
    refine ⟨h1, h2.up (Up.more hn) ?_⟩
    cases q : H (μ i) with
    | none => exact absurd q (R.ocp i h1)
    | some o => exact hn _ _ q
def seat (μ : Nat → Addr) (n : Nat) (p : Addr) : Nat → Addr := fun i => if i = n then p else μ i
theorem seat_same {n : Nat} {p : Addr} : seat μ n p n = p := if_pos rfl
theorem seat_ne {n i : Nat} {p : Addr} (hi : i ≠ n) : seat μ n p i = μ i := if_neg hi
theorem Up.alloc {p : Addr} (hp : H p = none) (hn : ∀ a u, H a = some u → H' a = some u) : Up N μ H (N + 1) (seat μ N p) H' where
  le := Nat.le_succ _
  ag := fun i hi => seat_ne (Nat.ne_of_lt hi)
  new := fun i h1 h2 => by
    obtain rfl : i = N := by omega
    rw [seat_same]; exact hp
  dom := fun a e => by
    cases q : H a with
    | none => rfl
    | some o => rw [hn a o q] at e; cases e
  tups := fun a vs e => hn a _ e
  frzs := fun a o u e => hn a _ e
  rest := fun a o e _ => hn a o e
/-- a new object -/
theorem Rl.alloc {p : Addr} (R : Rl g h μ H) (hp : H p = none) (hn : ∀ a u, H a = some u → H' a = some u) (new : CR g (h.n + 1) (seat μ h.n p) H' p c) : Rl g (h.alloc c) (seat μ h.n p) H' := by
  have u : Up h.n μ H (h.n + 1) (seat μ h.n p) H' := Up.alloc hp hn
  have hx : H' p ≠ none := by
    cases c with
    | lst xs => obtain ⟨vs, h1, _⟩ := new; rw [h1]; intro q; cases q
    | ins c fs => obtain ⟨_, vs, h1, _⟩ := new; rw [h1]; intro q; cases q
    | exc c fs => obtain ⟨vs, h1, _⟩ := new; rw [h1]; intro q; cases q
  have ne : ∀ i, i < h.n → μ i ≠ p := fun i hi e => R.ocp i hi (e ▸ hp)
  refine ⟨fun i j hi hj e => ?_, fun i hi => ?_, fun i c' e => ?_⟩
  · by_cases h1 : i = h.n
    · by_cases h2 : j = h.n
      · rw [h1, h2]
      · rw [h1, seat_same, seat_ne h2] at e
        exact absurd e.symm (ne j (by have : j < h.n + 1 := hj; omega))
    · by_cases h2 : j = h.n
      · rw [h2, seat_same, seat_ne h1] at e
        exact absurd e (ne i (by have : i < h.n + 1 := hi; omega))
      · rw [seat_ne h1, seat_ne h2] at e
        exact R.inj i j (by have : i < h.n + 1 := hi; omega) (by have : j < h.n + 1 := hj; omega) e
  · by_cases h1 : i = h.n
    · rw [h1, seat_same]; exact hx
    · rw [seat_ne h1]
      intro q
      exact R.ocp i (by have : i < h.n + 1 := hi; omega) (u.dom _ q)
  · by_cases h1 : i = h.n
    · subst h1
      have e' : (if h.n = h.n then some c else h.g h.n) = some c' := e
      rw [if_pos rfl] at e'
      cases e'
      exact ⟨Nat.lt_succ_self _, by rw [seat_same]; exact new⟩
    · have e' : (if i = h.n then some c else h.g i) = some c' := e
      rw [if_neg h1] at e'
      obtain ⟨h2, h3⟩ := R.cell i c' e'
      refine ⟨Nat.lt_succ_of_lt h2, ?_⟩
      rw [seat_ne h1]
      refine h3.up u ?_
      cases q : H (μ i) with
      | none => exact absurd q (R.ocp i h2)
      | some o => exact hn _ _ q
/-- an object's content changed -/
theorem Up.put {n : Nat} {o0 : HO} (hn : n < N) (h0 : H (μ n) = some o0) (ht : ∀ vs, o0 ≠ .tup vs) (hf : ∀ x u, o0 ≠ .frz x u) : Up N μ H N μ (upd H (μ n) o) where
  le := Nat.le_refl _
  ag := fun _ _ => rfl
  new := fun _ a b => absurd b (Nat.not_lt.mpr a)
  dom := fun a e => by
    by_cases q : a = μ n
    · rw [q, upd_same] at e; cases e
    · rw [upd_ne q] at e; exact e
  tups := fun a vs e => by rw [upd_ne]; exact e; intro q; rw [q, h0] at e; cases e; exact ht _ rfl
  frzs := fun a x u e => by rw [upd_ne]; exact e; intro q; rw [q, h0] at e; cases e; exact hf _ _ rfl
  rest := fun a u e hne => by rw [upd_ne]; exact e; intro q; exact hne n hn q.symm
theorem Rl.put {n : Nat} {o0 : HO} (R : Rl g h μ H) (hn : n < h.n) (h0 : H (μ n) = some o0) (ht : ∀ vs, o0 ≠ .tup vs) (hf : ∀ x u, o0 ≠ .frz x u)
    (new : CR g h.n μ (upd H (μ n) o) (μ n) c) : Rl g (h.put n c) μ (upd H (μ n) o) := by
  have u : Up h.n μ H h.n μ (upd H (μ n) o) := Up.put hn h0 ht hf
  refine ⟨R.inj, fun i hi q => R.ocp i hi (u.dom _ q), fun i c' e => ?_⟩
  by_cases h1 : i = n
  · subst h1
    have e' : (if i = i then some c else h.g i) = some c' := e
    rw [if_pos rfl] at e'
    cases e'
    exact ⟨hn, new⟩
  · have e' : (if i = n then some c else h.g i) = some c' := e
    rw [if_neg h1] at e'
    obtain ⟨h2, h3⟩ := R.cell i c' e'
    exact ⟨h2, h3.up u (upd_ne fun q => h1 (R.inj i n h2 hn q))⟩
end

/-! ### readings -/
def QOk (g : GE) (n : Nat) (μ : Nat → Addr) (H : Hp) (Q' : QW) (Q : VK) : Prop := ∀ w h' μ' H' v, Q' w h' → Rl g h' μ' H' → Up n μ H h'.n μ' H' → RW g.K h'.n μ' H' w v → Q v H'
def XOk (g : GE) (n : Nat) (μ : Nat → Addr) (H : Hp) (X' : QX) (σ : L2.St) (Wx : WX) : Prop := ∀ e h' μ' H' cls d, X' e h' → Rl g h' μ' H' → Up n μ H h'.n μ' H' → RX g h'.n μ' H' e cls d → Wx cls d σ H'
theorem QOk.up {g : GE} {n n' : Nat} {μ μ' : Nat → Addr} {H H' : Hp} {Q' : QW} {Q : VK} (q : QOk g n μ H Q' Q) (u : Up n μ H n' μ' H') : QOk g n' μ' H' Q' Q :=
  fun w h2 μ2 H2 v z R u2 r => q w h2 μ2 H2 v z R (u.trans u2) r
theorem XOk.up {g : GE} {n n' : Nat} {μ μ' : Nat → Addr} {H H' : Hp} {X' : QX} {σ : L2.St} {Wx : WX} (q : XOk g n μ H X' σ Wx) (u : Up n μ H n' μ' H') : XOk g n' μ' H' X' σ Wx :=
  fun e h2 μ2 H2 c d z R u2 r => q e h2 μ2 H2 c d z R (u.trans u2) r
/-- an expression's reading -/
def EM (g : GE) (Wx : WX) (m : Loc → MH → QW → QX → Prop) : TE := fun σ H Q => ∃ μ loc h Q' X', Rl g h μ H ∧ LR g.K h.n μ H loc σ ∧ m loc h Q' X' ∧ QOk g h.n μ H Q' Q ∧ XOk g h.n μ H X' σ Wx
/-- a list of arguments' -/
def EMs (g : GE) (Wx : WX) (m : Loc → MH → (List W → MH → Prop) → QX → Prop) : TA := fun σ H Q => ∃ μ loc h Q' X', Rl g h μ H ∧ LR g.K h.n μ H loc σ ∧ m loc h Q' X' ∧
  (∀ ws h' μ' H' vs, Q' ws h' → Rl g h' μ' H' → Up h.n μ H h'.n μ' H' → RWs g.K h'.n μ' H' ws vs → Q vs H') ∧ XOk g h.n μ H X' σ Wx
theorem _root_.L2.PE.imp {X : Cx} {e : Expr} {t t' : TE} (p : PE X e t) (h : ∀ σ H Q, t' σ H Q → t σ H Q) : PE X e t' := ⟨fun pins s σ H Q I z => p.run pins s σ H Q I (h σ H Q z)⟩
theorem _root_.L2.PT.imp {X : Cx} {e : Expr} {t t' : TT} (p : PT X e t) (h : ∀ σ H Q, t' σ H Q → t σ H Q) : PT X e t' := ⟨fun pins s σ H Q I z => p.run pins s σ H Q I (h σ H Q z)⟩
theorem _root_.L2.PA.imp {X : Cx} {e : List Expr} {t t' : TA} (p : PA X e t) (h : ∀ σ H Q, t' σ H Q → t σ H Q) : PA X e t' := ⟨fun pos pins s σ H Q I z => p.run pos pins s σ H Q I (h σ H Q z)⟩
theorem _root_.L2.PS.imp {X : Cx} {e : Stmt} {t t' : TS} (p : PS X e t) (h : ∀ D σ H, t' D σ H → t D σ H) : PS X e t' := ⟨fun pins s σ H D I z => p.run pins s σ H D I (h D σ H z)⟩
theorem _root_.L2.PSs.imp {X : Cx} {e : List Stmt} {t t' : TS} (p : PSs X e t) (h : ∀ D σ H, t' D σ H → t D σ H) : PSs X e t' := ⟨fun pins s σ H D I z => p.run pins s σ H D I (h D σ H z)⟩
/-- the values of a state and what a rule is asked for: two values -/
def r2M (g : GE) (k : W → W → MH → QW → Prop) : R2 := fun v u H Q => ∃ x y h μ Q', Rl g h μ H ∧ RW g.K h.n μ H x v ∧ RW g.K h.n μ H y u ∧ k x y h Q' ∧ QOk g h.n μ H Q' Q
def r1M (g : GE) (k : W → MH → QW → Prop) : V → Hp → VK → Prop := fun v H Q => ∃ x h μ Q', Rl g h μ H ∧ RW g.K h.n μ H x v ∧ k x h Q' ∧ QOk g h.n μ H Q' Q
def rsM (g : GE) (k : List W → MH → QW → Prop) : List V → Hp → VK → Prop := fun vs H Q => ∃ xs h μ Q', Rl g h μ H ∧ RWs g.K h.n μ H xs vs ∧ k xs h Q' ∧ QOk g h.n μ H Q' Q
/-! lists, tuples by their readings -/
section
variable {g : GE} {μ : Nat → Addr} {H : Hp} {h : MH} {v : V} {xs : List W} {n : Nat}
theorem Rl.lst (R : Rl g h μ H) (e : h.g n = some (.lst xs)) : n < h.n ∧ ∃ vs, H (μ n) = some (.lst vs) ∧ RWs g.K h.n μ H xs vs := by
  obtain ⟨h1, vs, h2, h3⟩ := R.cell n _ e
  exact ⟨h1, vs, h2, h3⟩
/-- a list or a tuple that is read -/
theorem Seq.rd {w : W} (R : Rl g h μ H) (r : RW g.K h.n μ H w v) (s : Seq h w xs) : ∃ a vs, v = .ref a ∧ (SqL g.K H a vs ∨ SqT g.K H a vs) ∧ RWs g.K h.n μ H xs vs := by
  cases r with
  | non => exact s.elim
  | bl b => exact s.elim
  | int i => exact s.elim
  | str x => exact s.elim
  | tup ht hr => obtain rfl : _ = xs := s; exact ⟨_, _, rfl, .inr ht, hr⟩
  | scr ht hr => obtain rfl : _ = xs := s; exact ⟨_, _, rfl, .inl ht.sq, hr⟩
  | obj hn =>
    obtain ⟨_, vs, h2, h3⟩ := R.lst s
    exact ⟨_, _, rfl, .inl (.of h2), h3⟩
/-- a new list -/
theorem Rl.newList {p : Addr} {vs : List V} (R : Rl g h μ H) (hp : H p = none) (r : RWs g.K h.n μ H xs vs) :
    Rl g (h.alloc (.lst xs)) (seat μ h.n p) (upd H p (.lst vs)) ∧ Up h.n μ H (h.n + 1) (seat μ h.n p) (upd H p (.lst vs)) ∧ RW g.K (h.n + 1) (seat μ h.n p) (upd H p (.lst vs)) (.obj h.n) (.ref p) := by
  have u : Up h.n μ H (h.n + 1) (seat μ h.n p) (upd H p (.lst vs)) := Up.alloc hp (upd_more hp)
  refine ⟨R.alloc hp (upd_more hp) ⟨vs, upd_same, r.up u⟩, u, ?_⟩
  have e : p = seat μ h.n p h.n := seat_same.symm
  conv => rhs; rw [e]
  exact .obj (Nat.lt_succ_self _)
theorem Rl.newTup {p : Addr} {vs : List V} (R : Rl g h μ H) (hp : H p = none) (r : RWs g.K h.n μ H xs vs) :
    Rl g h μ (upd H p (.tup vs)) ∧ Up h.n μ H h.n μ (upd H p (.tup vs)) ∧ RW g.K h.n μ (upd H p (.tup vs)) (.tup xs) (.ref p) :=
  have u : Up h.n μ H h.n μ (upd H p (.tup vs)) := Up.more (upd_more hp)
  ⟨R.more (upd_more hp), u, .tup (.of upd_same) (r.up u)⟩
theorem Rl.putList {vs us : List V} {ys : List W} (R : Rl g h μ H) (e : h.g n = some (.lst xs)) (e2 : H (μ n) = some (.lst vs)) (r : RWs g.K h.n μ H ys us) :
    Rl g (h.put n (.lst ys)) μ (upd H (μ n) (.lst us)) ∧ Up h.n μ H h.n μ (upd H (μ n) (.lst us)) := by
  have hn := (R.cell n _ e).1
  have u : Up h.n μ H h.n μ (upd H (μ n) (.lst us)) := Up.put hn e2 (by intro _ q; cases q) (by intro _ _ q; cases q)
  exact ⟨R.put hn e2 (by intro _ q; cases q) (by intro _ _ q; cases q) ⟨us, upd_same, r.up u⟩, u⟩
end
end MP
set_option Elab.async false
set_option linter.all false
set_option maxRecDepth 100000
set_option maxHeartbeats 1000000
/-! Ops: the operators' rules by the small language. -/
namespace PySem
open Sem (wp)
open Builtin
theorem noFill_tuple_mul : fillsNumberSlot (.type "tuple") "mul" = pure false := by rfl
theorem repeat_tuple : seqRepeat? (.type "tuple") = pure (some (.builtin "tuple.__mul__")) := by rfl
theorem tup_mul_same (l : Addr) (items : Array Value) (n : Nat) (d : Option Addr) (sl : Array (Option Value)) (x : Int) (u : Tok) (hfit : ¬ (decide (x < -(2 ^ 63)) || decide (x ≥ 2 ^ 63)) = true) (hc : (items.isEmpty || x == 1) = true) :
    Meets (Builtin.«tuple.__mul__» ⟨[.ref l, .int x u], []⟩) (fun _ R s => s.heap.get? l = some { cls := .type "tuple", dict := d, data := .seq items n, slots := sl } ∧ R (.ok (.ret (Value.ref l))) s) :=
  .of_wp fun prog w A R s h => by
    obtain ⟨hp, g, dr, tk, os⟩ := s; obtain ⟨hl, h⟩ := h
    have f1 := AutoSeq1.idx_int; have f2 := AutoSeq1.sub_tuple_tuple
    wp_walk using AutoSeq1.wpAny_loadPart' hl
    rw [if_neg hfit]
    wp_walk using AutoSeq1.wpAny_loadPart' hl
    exact ⟨_, rfl, h⟩
theorem tup_mul_nil (l : Addr) (items : Array Value) (n : Nat) (d : Option Addr) (sl : Array (Option Value)) (x : Int) (u : Tok) (hfit : ¬ (decide (x < -(2 ^ 63)) || decide (x ≥ 2 ^ 63)) = true) (hc : ¬ (items.isEmpty || x == 1) = true)
    (hn : (decide (x ≤ 0) || items.isEmpty) = true) :
    Meets (Builtin.«tuple.__mul__» ⟨[.ref l, .int x u], []⟩) (fun _ R s => s.heap.get? l = some { cls := .type "tuple", dict := d, data := .seq items n, slots := sl } ∧ R (.ok (.ret (Value.ref s.heap.objs.size))) { s with heap := s.heap.push { cls := Value.type "tuple", data := Data.seq #[] }, toks := s.toks }) :=
  .of_wp fun prog w A R s h => by
    obtain ⟨hp, g, dr, tk, os⟩ := s; obtain ⟨hl, h⟩ := h
    have f1 := AutoSeq1.idx_int; have f2 := AutoSeq1.sub_tuple_tuple
    wp_walk using AutoSeq1.wpAny_loadPart' hl
    rw [if_neg hfit]
    wp_walk using AutoSeq1.wpAny_loadPart' hl
    exact ⟨_, rfl, h⟩
theorem tup_mul_new (l : Addr) (items : Array Value) (n : Nat) (d : Option Addr) (sl : Array (Option Value)) (x : Int) (u : Tok) (hfit : ¬ (decide (x < -(2 ^ 63)) || decide (x ≥ 2 ^ 63)) = true) (hc : ¬ (items.isEmpty || x == 1) = true)
    (hn : ¬ (decide (x ≤ 0) || items.isEmpty) = true) (h3 : ¬ (items.size : Int) * x > (2 ^ 63 - 1) / 8) (h4 : ¬ Tuple.tupleTooMany (items.size * x) = true)
    (hsz : (List.foldl (fun x1 x2 => x1 ++ x2) #[] (List.replicate x.toNat items)).size ≤ sizeLine) :
    Meets (Builtin.«tuple.__mul__» ⟨[.ref l, .int x u], []⟩) (fun _ R s => s.heap.get? l = some { cls := .type "tuple", dict := d, data := .seq items n, slots := sl } ∧
      R (.ok (.ret (Value.ref s.heap.objs.size))) { s with heap := s.heap.push { cls := Value.type "tuple", data := Data.seq (List.foldl (fun x1 x2 => x1 ++ x2) #[] (List.replicate x.toNat items)) }, toks := s.toks }) :=
  .of_wp fun prog w A R s h => by
    obtain ⟨hp, g, dr, tk, os⟩ := s; obtain ⟨hl, h⟩ := h
    have f1 := AutoSeq1.idx_int; have f2 := AutoSeq1.sub_tuple_tuple
    wp_walk using AutoSeq1.wpAny_loadPart' hl
    rw [if_neg hfit]
    wp_walk using AutoSeq1.wpAny_loadPart' hl
    rw [if_neg h3]
    wp_walk using AutoSeq1.wpAny_loadPart' hl
    exact ⟨_, rfl, h⟩
theorem int_rmul_tup (a : Int) (t : Tok) (l : Addr) (items : Array Value) (n : Nat) (d : Option Addr) (sl : Array (Option Value)) :
    Meets (Builtin.«int.__rmul__» ⟨[.int a t, .ref l], []⟩) (fun _ R s => s.heap.get? l = some { cls := .type "tuple", dict := d, data := .seq items n, slots := sl } ∧ R (.ok (.ret Value.notImplemented)) s) :=
  .of_wp fun prog w A R s h => by obtain ⟨hp, g, d, tk, os⟩ := s; obtain ⟨hl, h⟩ := h; wp_walk; exact ⟨_, rfl, h⟩
end PySem
namespace MP
open PySem L2 PySem.Spec PyProof.Rows
def bop : BOp → Operator
  | .add => .Add | .sub => .Sub | .mul => .Mult | .fdiv => .FloorDiv | .mod => .Mod | .pow => .Pow | .shl => .LShift | .shr => .RShift | .band => .BitAnd | .bor => .BitOr | .bxor => .BitXor
def cop : COp → CmpOp
  | .eq => .Eq | .ne => .NotEq | .lt => .Lt | .le => .LtE | .gt => .Gt | .ge => .GtE | .is => .Is | .nis => .IsNot | .isin => .In | .nin => .NotIn

/-! ### tuples: whatever is empty -/
section
variable {prog : Program} {w : World} {A : Around} {E : Value → Shared → Prop} {s : Shared}
theorem cat_tup0 {t b : Addr} {ws : List Value} {Q : Value → Shared → Prop} (ht : IsTup s.heap t #[]) (hb : IsTup s.heap b ws.toArray)
    (h1 : Q (.ref b) s) : wpAny (model prog w) A (binaryOp .Add (.ref t) (.ref b)) Q E s := by
  obtain ⟨⟨cls, dd, data, sl⟩, ho, hc, n, hd⟩ := id ht
  obtain ⟨⟨cls2, dd2, data2, sl2⟩, ho2, hc2, n2, hd2⟩ := id hb
  simp only at hc hd hc2 hd2
  subst hc hd hc2 hd2
  exact concat_meets ⟨_, ho, rfl⟩ ⟨_, ho2, rfl⟩ noFill_tuple_add seq_tuple_add PySem.F.slot_tuple_add PySem.F.entry_tuple_add (PySem.F.args_tuple_add_2 _ _)
    (tuple_addW0 t b #[] ws.toArray n n2 dd dd2 sl sl2 (by simp)) ⟨ho, ho2, h1⟩
/-- t[a:b], the whole: t itself -/
theorem getItem_tuple_whole {t sl : Addr} {items : Array Value} {vl vu : Value} {lo hi : Option Int} {Q : Value → Shared → Prop} (ht : IsTup s.heap t items) (hs : s.heap.IsSliceOf sl vl vu .none) (pl : IsPart vl lo) (pu : IsPart vu hi)
    (hw : HT.sIx items.size 0 lo = 0 ∧ HT.sIx items.size items.size hi = items.size) (h : Q (.ref t) s) : wpAny (model prog w) A (getItem (.ref t) (.ref sl)) Q E s := by
  obtain ⟨os, hos, hcs, hds⟩ := id hs
  have hTs : s.TypeIs (.ref sl) "slice" := ⟨os, hos, hcs⟩
  unfold getItem
  try with_reducible refine wpAny_holding ?_
  first | refine wpAny_bind (wpAny_pure ?_) | skip
  refine wpAny_bind (wpAny_sequenceKey ht.typeIs (by decide) ?_)
  refine wpAny_bind (wpAny_callSpecial?_slot (name := Str.ofString "__getitem__") ht.typeIs PyProof.Rows.slot_tuple_getitem
    (wpAny_call_entry PyProof.Rows.slot_tuple_getitem ht.typeIs entry_tuple_getitem ?_ (args_tuple_getitem _ _)))
  show wpAny _ _ (Builtin.Tuple.tupleItemsOf (.ref t) >>= _) _ _ s
  refine wpAny_bind (tupleItemsOf_ ht ?_)
  refine wpAny_bind (wpAny_typeOf hTs ?_)
  rw [if_pos (by decide)]
  refine wpAny_bind (HT.sliceApplied_gen hs pl pu ?_)
  have hyes : ((((HT.sIx items.size 0 lo : Nat) : Int) == 0 && (1 : Int) == 1 && (HT.sIx items.size items.size hi - HT.sIx items.size 0 lo) == items.size) = true) := by
    rw [hw.1, hw.2]; simp
  show wpAny _ _ (if (((HT.sIx items.size 0 lo : Nat) : Int) == 0 && (1 : Int) == 1 && (HT.sIx items.size items.size hi - HT.sIx items.size 0 lo) == items.size) = true then _ else _) _ _ s
  rw [if_pos hyes]
  have ex : ∀ {A : Around} {Q' : Bool → Shared → Prop}, Q' true s → wpAny (model prog w) A (Builtin.Tuple.tupleIsExact (.ref t)) Q' E s := fun {A Q'} q => by
    unfold Builtin.Tuple.tupleIsExact
    exact wpAny_bind (wpAny_typeOf ht.typeIs (wpAny_pure (by simpa using q)))
  refine wpAny_bind (ex ?_)
  rw [if_pos rfl]
  refine wpAny_bind (wpAny_rule ?_)
  exact wpAny_pure ⟨_, rfl, wpAny_pure h⟩
end
section
variable {g : GE} {X : Cx}
/-- t + u of tuples, whatever is empty -/
theorem op_catA : OpR X (binaryOp .Add) (fun x y H Q => ∃ a b xs ys, x = V.ref a ∧ y = V.ref b ∧ SqT X.K H a xs ∧ SqT X.K H b ys ∧ xs.length + ys.length ≤ sizeLine ∧
    (xs = [] → Q (.ref b) H) ∧ (xs ≠ [] → ys = [] → Q (.ref a) H) ∧ (xs ≠ [] → ys ≠ [] → ∀ p, H p = none → Q (.ref p) (upd H p (.tup (xs ++ ys))))) := by
  intro pins s σ H x y v u Q I rx ry h
  obtain ⟨a, b, xs, ys, rfl, rfl, h1, h2, hz, k0, k1, k2⟩ := h
  by_cases hx : xs = []
  · subst hx
    cases rx
    cases ry
    obtain ⟨its, r, ht, _⟩ := I.tuple h1
    obtain ⟨its2, r2, ht2, _⟩ := I.tuple h2
    cases r
    exact cat_tup0 ht ht2 ⟨.ref b, H, I, rfl, k0 rfl⟩
  · exact op_catT pins s σ H _ _ v u Q I rx ry ⟨a, b, xs, ys, rfl, rfl, h1, h2, hx, hz, k1 hx, k2 hx⟩
/-- t * k of a tuple -/
theorem op_repT : OpR X (binaryOp .Mult) (fun x y H Q => ∃ a k xs, x = V.ref a ∧ y = V.int k ∧ SqT X.K H a xs ∧ -(2 ^ 63) ≤ k ∧ k < 2 ^ 63 ∧ xs.length * k.toNat ≤ sizeLine ∧
    ((List.replicate k.toNat xs).flatten = xs → Q (.ref a) H) ∧ ∀ p, H p = none → Q (.ref p) (upd H p (.tup (List.replicate k.toNat xs).flatten))) := by
  intro pins s σ H x y v u Q I rx ry h
  obtain ⟨a, k, xs, rfl, rfl, h1, hlo, hhi, hz, q0, q1⟩ := h
  cases rx
  obtain ⟨t, rfl⟩ := ry
  obtain ⟨its, r, ht, hzx⟩ := I.tuple h1
  have hl := r.length
  obtain ⟨⟨cls, dd, data, sl⟩, ho, hc, n, hd⟩ := id ht
  simp only at hc hd
  subst hc hd
  have hfit : ¬ (decide (k < -(2 ^ 63)) || decide (k ≥ 2 ^ 63)) = true := by simp; omega
  have hrep : List.foldl (fun x1 x2 => x1 ++ x2) #[] (List.replicate k.toNat its.toArray) = (List.replicate k.toNat its).flatten.toArray := by
    have := foldl_rep its k.toNat []
    rw [List.nil_append] at this
    exact this
  have hrl : (List.replicate k.toNat its).flatten.length ≤ sizeLine := by
    rw [PyProof.Rows.lm_len_rep_flat, Nat.mul_comm, ← hl]; exact hz
  refine wpAny_binaryOp_repeat_ref (T := "tuple") (U := "int") (by decide) ⟨_, ho, rfl⟩ (fun s' => typeIs_int s' k t) noFill_tuple_mul F.fills_int_mul F.slot_int_rmul repeat_tuple F.slot_int_index.lookup
    (call_meets F.slot_int_rmul (typeIs_int s k t) F.entry_int_rmul (F.args_int_rmul_2 _ _) (int_rmul_tup k t a its.toArray n dd sl)
      ⟨ho, rfl, ⟨_, ho, rfl⟩, ?_⟩)
  by_cases hsame : (its.toArray.isEmpty || k == 1) = true
  · refine call_meets F.slot_tuple_mul ⟨_, ho, rfl⟩ F.entry_tuple_mul (F.args_tuple_mul_2 _ _) (tup_mul_same a its.toArray n dd sl k t hfit hsame) ⟨ho, ?_⟩
    refine ⟨.ref a, H, I, rfl, q0 ?_⟩
    rcases Bool.or_eq_true_iff.mp hsame with e | e
    · have : its = [] := by simpa using e
      subst this
      cases r
      simp
    · have : k = 1 := by simpa using e
      subst this
      simp
  · by_cases hn : (decide (k ≤ 0) || its.toArray.isEmpty) = true
    · refine call_meets F.slot_tuple_mul ⟨_, ho, rfl⟩ F.entry_tuple_mul (F.args_tuple_mul_2 _ _) (tup_mul_nil a its.toArray n dd sl k t hfit hsame hn) ⟨ho, ?_⟩
      have h0 : (List.replicate k.toNat xs).flatten = [] := by
        rcases Bool.or_eq_true_iff.mp hn with e | e
        · have : k.toNat = 0 := by have := of_decide_eq_true e; omega
          rw [this]; rfl
        · exact absurd (by rw [e]; rfl) hsame
      have q2 := q1 _ I.fresh
      rw [h0] at q2
      exact ⟨.ref s.heap.objs.size, _, I.laid (t' := s.toks) (o := .tup []) (fun b ob q => Heap.get?_push_of_some _ q) (Nat.le_refl _) ⟨Nat.zero_le _, [], .nil, IsTup.new _ _⟩, rfl, q2⟩
    · have e1 : (its.toArray.size : Int) * k ≤ sizeLine := by
        rw [List.size_toArray, ← hl]
        have hk : ¬ k ≤ 0 := fun q => hn (by simp [q])
        have : (xs.length : Int) * k = ((xs.length * k.toNat : Nat) : Int) := by
          rw [Int.natCast_mul, Int.toNat_of_nonneg (by omega)]
        rw [this]
        exact Int.ofNat_le.mpr hz
      have e2 : (sizeLine : Int) ≤ (2 ^ 63 - 1) / 8 := by decide
      refine call_meets F.slot_tuple_mul ⟨_, ho, rfl⟩ F.entry_tuple_mul (F.args_tuple_mul_2 _ _) (tup_mul_new a its.toArray n dd sl k t hfit hsame hn (by omega)
        (by unfold Builtin.Tuple.tupleTooMany; simp only [decide_eq_true_eq, gt_iff_lt]; omega) (by rw [hrep, List.size_toArray]; exact hrl)) ⟨ho, ?_⟩
      rw [hrep]
      exact ⟨.ref s.heap.objs.size, _, I.laid (t' := s.toks) (o := .tup (List.replicate k.toNat xs).flatten) (fun b ob q => Heap.get?_push_of_some _ q) (Nat.le_refl _)
        ⟨by rw [PyProof.Rows.lm_len_rep_flat, Nat.mul_comm]; exact hz, _, r.rep k.toNat, IsTup.new _ _⟩, rfl, q1 _ I.fresh⟩
theorem s_bin (hK : X.K = g.K) (op : BOp) : OpR X (binaryOp (bop op)) (r2M g (wpBin op)) := by
  intro pins s σ H v u vv uu Q I rv ru hh
  obtain ⟨x, y, h, μ, Q', R, rx, ry, z, q⟩ := hh
  cases op with
  | add =>
    cases rx <;> cases ry <;> first | exact False.elim z | skip
    · exact op_add pins s σ H _ _ _ _ _ I rv ru ⟨_, _, rfl, rfl, q _ _ _ _ _ z R .refl (.int _)⟩
    · exact op_add_str pins s σ H _ _ _ _ _ I rv ru ⟨_, _, rfl, rfl, z.1, q _ _ _ _ _ z.2 R .refl (.str _)⟩
    · rename_i xs vs a h1 r1 ys us b h2 r2
      obtain ⟨hz, z⟩ := z
      have l1 := r1.length
      have l2 := r2.length
      refine op_catA pins s σ H _ _ _ _ _ I rv ru ⟨a, b, vs, us, rfl, rfl, by rw [hK]; exact h1, by rw [hK]; exact h2, by rw [l1, l2]; exact hz, fun e => ?_, fun _ e => ?_, fun _ _ p hp => ?_⟩
      · subst e
        obtain rfl : xs = [] := List.length_eq_zero_iff.mp l1.symm
        exact q _ _ _ _ _ z R .refl (.tup h2 r2)
      · subst e
        obtain rfl : ys = [] := List.length_eq_zero_iff.mp l2.symm
        rw [List.append_nil] at z
        exact q _ _ _ _ _ z R .refl (.tup h1 r1)
      · obtain ⟨a1, a2, a3⟩ := R.newTup hp (r1.append r2)
        exact q _ _ _ _ _ z a1 a2 a3
    · rename_i m hm n hn
      obtain ⟨xs, ys, e1, e2, hz, z⟩ := z
      obtain ⟨_, vs, f1, r1⟩ := R.lst e1
      obtain ⟨_, us, f2, r2⟩ := R.lst e2
      refine op_cat pins s σ H _ _ _ _ _ I rv ru ⟨_, _, vs, us, rfl, rfl, f1, f2, by rw [r1.length, r2.length]; exact hz, fun p hp => ?_⟩
      obtain ⟨a1, a2, a3⟩ := R.newList hp (r1.append r2)
      exact q _ _ _ _ _ z a1 a2 a3
  | sub => cases rx <;> cases ry <;> first | exact False.elim z | exact op_sub pins s σ H _ _ _ _ _ I rv ru ⟨_, _, rfl, rfl, q _ _ _ _ _ z R .refl (.int _)⟩
  | mul =>
    cases rx <;> cases ry <;> first | exact False.elim z | skip
    · obtain ⟨hm, z⟩ := z
      rcases hm with hm | hm
      · exact op_mul pins s σ H _ _ _ _ _ I rv ru ⟨_, _, rfl, rfl, hm, q _ _ _ _ _ z R .refl (.int _)⟩
      · exact op_mulW pins s σ H _ _ _ _ _ I rv ru ⟨_, _, rfl, rfl, hm, q _ _ _ _ _ z R .refl (.int _)⟩
    · rename_i xs vs a h1 r1 k
      obtain ⟨hlo, hhi, hz, z⟩ := z
      refine op_repT pins s σ H _ _ _ _ _ I rv ru ⟨a, _, vs, rfl, rfl, by rw [hK]; exact h1, hlo, hhi, by rw [r1.length]; exact hz, fun e => ?_, fun p hp => ?_⟩
      · refine q _ _ _ _ _ z R .refl (.tup h1 ?_)
        have r2 := r1.rep k.toNat
        rw [e] at r2
        exact r2
      · obtain ⟨a1, a2, a3⟩ := R.newTup hp (r1.rep k.toNat)
        exact q _ _ _ _ _ z a1 a2 a3
    · obtain ⟨xs, e1, h1, h2, hz, z⟩ := z
      obtain ⟨_, vs, f1, r1⟩ := R.lst e1
      refine op_rep pins s σ H _ _ _ _ _ I rv ru ⟨_, _, vs, rfl, rfl, f1, h1, h2, by rw [r1.length]; exact hz, fun p hp => ?_⟩
      obtain ⟨a1, a2, a3⟩ := R.newList hp (r1.rep _)
      exact q _ _ _ _ _ z a1 a2 a3
  | fdiv => cases rx <;> cases ry <;> first | exact False.elim z | exact op_fdivW pins s σ H _ _ _ _ _ I rv ru ⟨_, _, rfl, rfl, z.1, q _ _ _ _ _ z.2 R .refl (.int _)⟩
  | mod => cases rx <;> cases ry <;> first | exact False.elim z | exact op_mod pins s σ H _ _ _ _ _ I rv ru ⟨_, _, rfl, rfl, z.1, q _ _ _ _ _ z.2 R .refl (.int _)⟩
  | pow => cases rx <;> cases ry <;> first | exact False.elim z | exact op_pow pins s σ H _ _ _ _ _ I rv ru ⟨_, _, rfl, rfl, z.1, q _ _ _ _ _ z.2 R .refl (.int _)⟩
  | shl => cases rx <;> cases ry <;> first | exact False.elim z | exact op_shl pins s σ H _ _ _ _ _ I rv ru ⟨_, _, rfl, rfl, z.1, q _ _ _ _ _ z.2 R .refl (.int _)⟩
  | shr => cases rx <;> cases ry <;> first | exact False.elim z | exact op_shr pins s σ H _ _ _ _ _ I rv ru ⟨_, _, rfl, rfl, z.1, q _ _ _ _ _ z.2 R .refl (.int _)⟩
  | band => cases rx <;> cases ry <;> first | exact False.elim z | exact op_and pins s σ H _ _ _ _ _ I rv ru ⟨_, _, rfl, rfl, q _ _ _ _ _ z R .refl (.int _)⟩
  | bor => cases rx <;> cases ry <;> first | exact False.elim z | exact op_or pins s σ H _ _ _ _ _ I rv ru ⟨_, _, rfl, rfl, q _ _ _ _ _ z R .refl (.int _)⟩
  | bxor => cases rx <;> cases ry <;> first | exact False.elim z | exact op_xor pins s σ H _ _ _ _ _ I rv ru ⟨_, _, rfl, rfl, q _ _ _ _ _ z R .refl (.int _)⟩
theorem s_ip (op : BOp) : OpR X (inplaceOp (bop op)) (r2M g (wpIp op)) := by
  intro pins s σ H v u vv uu Q I rv ru hh
  obtain ⟨x, y, h, μ, Q', R, rx, ry, z, q⟩ := hh
  cases op with
  | add =>
    cases rx <;> cases ry <;> first | exact False.elim z | skip
    · exact iop_add pins s σ H _ _ _ _ _ I rv ru ⟨_, _, rfl, rfl, q _ _ _ _ _ z R .refl (.int _)⟩
    · exact iop_add_str pins s σ H _ _ _ _ _ I rv ru ⟨_, _, rfl, rfl, z.1, q _ _ _ _ _ z.2 R .refl (.str _)⟩
  | sub => cases rx <;> cases ry <;> first | exact False.elim z | exact iop_sub pins s σ H _ _ _ _ _ I rv ru ⟨_, _, rfl, rfl, q _ _ _ _ _ z R .refl (.int _)⟩
  | _ => cases rx <;> cases ry <;> exact False.elim z
end
end MP
set_option Elab.async false
set_option linter.all false
set_option maxRecDepth 100000
set_option maxHeartbeats 1000000
/-! Ops2: comparisons, subscripts, slices, fields, truth. -/
namespace MP
open PySem L2 PySem.Spec PyProof.Rows
section
variable {g : GE} {X : Cx} {μ : Nat → Addr} {H : Hp} {h : MH}
mutual
theorem DatH.dp (R : Rl g h μ H) : ∀ {w : W} {d : PyData} {v : V}, DatH h w d → RW g.K h.n μ H w v → Dp g.K H v d
  | _, _, _, .non, r => by cases r; exact .non
  | _, _, _, .bl b, r => by cases r; exact .bl b
  | _, _, _, .int i, r => by cases r; exact .int i
  | _, _, _, .str x, r => by cases r; exact .str x
  | _, _, _, .tup ds, r => by cases r with | tup h1 h2 => exact .tup h1 (DatHs.dp R ds h2)
  | _, _, _, .scr ds, r => by cases r with | scr h1 h2 => exact .lst h1.sq (DatHs.dp R ds h2)
  | _, _, _, .lst e ds, r => by
    cases r with
    | obj hn =>
      obtain ⟨_, vs, h1, h2⟩ := R.lst e
      exact .lst (.of h1) (DatHs.dp R ds h2)
theorem DatHs.dp (R : Rl g h μ H) : ∀ {ws : List W} {ds : List PyData} {vs : List V}, DatHs h ws ds → RWs g.K h.n μ H ws vs → DpAll g.K H vs ds
  | _, _, _, .nil, r => by cases r; exact .nil
  | _, _, _, .cons d ds, r => by
    cases r with
    | cons r1 r2 => exact .cons (DatH.dp R d r1) (DatHs.dp R ds r2)
end
theorem flat_rw {N : Nat} {w : W} {v : V} (r : RW g.K N μ H w v) (f : flatW w = true) : flatV v = true ∧ ∀ {u : W} {x : V}, RW g.K N μ H u x → flatW u = true → eqV x v = eqF u w := by
  refine ⟨?_, fun {u x} r2 f2 => ?_⟩
  · cases r <;> first | rfl | cases f
  · cases r <;> first | (cases r2 <;> first | rfl | cases f2) | cases f
theorem flat_all {N : Nat} {w : W} {v : V} (r : RW g.K N μ H w v) (f : flatW w = true) : ∀ {ws : List W} {vs : List V}, RWs g.K N μ H ws vs → ws.all flatW = true → vs.all flatV = true ∧ (vs.any fun y => eqV y v) = ws.any fun y => eqF y w
  | _, _, .nil, _ => ⟨rfl, rfl⟩
  | _, _, .cons r1 r2, hf => by
    rw [List.all_cons, Bool.and_eq_true] at hf
    obtain ⟨a, b⟩ := flat_all r f r2 hf.2
    refine ⟨?_, ?_⟩
    · rw [List.all_cons, (flat_rw r1 hf.1).1, a]; rfl
    · rw [List.any_cons, List.any_cons, b, (flat_rw r f).2 r1 hf.1]
theorem s_cmp (hK : X.K = g.K) (hu : X.A.units + 64 < cLine) (op : COp) : OpR X (compareOp (cop op)) (r2M g (fun x y h Q => ∃ r, CmpR h op x y r ∧ Q (.bl r) h)) := by
  intro pins s σ H v u vv uu Q I rv ru hh
  obtain ⟨x, y, h, μ, Q', R, rx, ry, ⟨r, c, z⟩, q⟩ := hh
  have fin : ∀ {b : Bool}, r = b → Q (.bl b) H := fun e => e ▸ q _ _ _ _ _ z R .refl (.bl _)
  have data : ∀ {t : Bool}, (∃ d e, DatH h x d ∧ DatH h y e ∧ SeqAt.shaped d = true ∧ SeqAt.shaped e = true ∧ t = PyData.eqv d e) → ∃ d e, Dp X.K H v d ∧ Dp X.K H u e ∧ SeqAt.shaped d = true ∧ SeqAt.shaped e = true ∧ t = PyData.eqv d e :=
    fun ⟨d, e, h1, h2, h3, h4, h5⟩ => ⟨d, e, by rw [hK]; exact h1.dp R rx, by rw [hK]; exact h2.dp R ry, h3, h4, h5⟩
  cases op with
  | eq =>
    have c' : EqR h x y r := c
    have deep : (∃ d e, DatH h x d ∧ DatH h y e ∧ SeqAt.shaped d = true ∧ SeqAt.shaped e = true ∧ r = PyData.eqv d e) → wpAny (model X.prog X.w) X.A (compareOp (cop .eq) vv uu) (EP X pins σ Q) X.xe s := fun dd => by
      obtain ⟨d, e, h1, h2, h3, h4, h5⟩ := data dd
      exact op_eqD hu pins s σ H _ _ _ _ _ I rv ru ⟨d, e, h1, h2, h3, h4, fin h5⟩
    cases rx <;> cases ry <;> first
      | exact deep c'
      | exact op_eq pins s σ H _ _ _ _ _ I rv ru ⟨rfl, fin (by rw [show r = _ from c']; simp)⟩
  | ne =>
    have c' : EqR h x y (!r) := c
    have deep : (∃ d e, DatH h x d ∧ DatH h y e ∧ SeqAt.shaped d = true ∧ SeqAt.shaped e = true ∧ (!r) = PyData.eqv d e) → wpAny (model X.prog X.w) X.A (compareOp (cop .ne) vv uu) (EP X pins σ Q) X.xe s := fun dd => by
      obtain ⟨d, e, h1, h2, h3, h4, h5⟩ := data dd
      exact op_neD hu pins s σ H _ _ _ _ _ I rv ru ⟨d, e, h1, h2, h3, h4, fin (by rw [← h5]; simp)⟩
    cases rx <;> cases ry <;> first
      | exact deep c'
      | exact op_ne pins s σ H _ _ _ _ _ I rv ru ⟨rfl, fin (by have e : (!r) = _ := c'; rw [← Bool.not_not r, e]; simp)⟩
  | lt =>
    obtain ⟨i, j, rfl, rfl, e⟩ := c
    cases rx; cases ry
    exact op_lt pins s σ H _ _ _ _ _ I rv ru ⟨_, _, rfl, rfl, fin e⟩
  | le =>
    obtain ⟨i, j, rfl, rfl, e⟩ := c
    cases rx; cases ry
    exact op_le pins s σ H _ _ _ _ _ I rv ru ⟨_, _, rfl, rfl, fin e⟩
  | gt =>
    obtain ⟨i, j, rfl, rfl, e⟩ := c
    cases rx; cases ry
    exact op_gt pins s σ H _ _ _ _ _ I rv ru ⟨_, _, rfl, rfl, fin e⟩
  | ge =>
    obtain ⟨i, j, rfl, rfl, e⟩ := c
    cases rx; cases ry
    exact op_ge pins s σ H _ _ _ _ _ I rv ru ⟨_, _, rfl, rfl, fin e⟩
  | is =>
    obtain ⟨rfl, e⟩ := c
    cases ry
    refine op_isN pins s σ H _ _ _ _ _ I rv ru ⟨rfl, fin ?_⟩
    cases rx <;> first | exact e | (simp at e; simp [e])
  | nis =>
    obtain ⟨rfl, e⟩ := c
    cases ry
    refine op_notN pins s σ H _ _ _ _ _ I rv ru ⟨rfl, fin ?_⟩
    cases rx <;> first | exact e | (simp at e; simp [e])
  | isin =>
    have c' : InR h x y r := c
    have seq : (∃ xs, Seq h y xs ∧ flatW x = true ∧ xs.all flatW = true ∧ r = xs.any fun y => eqF y x) → wpAny (model X.prog X.w) X.A (compareOp (cop .isin) vv uu) (EP X pins σ Q) X.xe s := fun ⟨xs, hs, h1, h2, h3⟩ => by
      obtain ⟨a, vs, rfl, hsq, rs⟩ := hs.rd R ry
      obtain ⟨a1, a2⟩ := flat_all rx h1 rs h2
      refine op_in_seq pins s σ H _ _ _ _ _ I rv ru ⟨a, vs, rfl, by rw [hK]; exact hsq, (flat_rw rx h1).1, a1, fin ?_⟩
      rw [h3, ← a2]; rfl
    cases rx <;> cases ry <;> first
      | exact seq c'
      | exact op_in_str pins s σ H _ _ _ _ _ I rv ru ⟨_, _, rfl, rfl, fin c'⟩
  | nin =>
    have c' : InR h x y (!r) := c
    have seq : (∃ xs, Seq h y xs ∧ flatW x = true ∧ xs.all flatW = true ∧ (!r) = xs.any fun y => eqF y x) → wpAny (model X.prog X.w) X.A (compareOp (cop .nin) vv uu) (EP X pins σ Q) X.xe s := fun ⟨xs, hs, h1, h2, h3⟩ => by
      obtain ⟨a, vs, rfl, hsq, rs⟩ := hs.rd R ry
      obtain ⟨a1, a2⟩ := flat_all rx h1 rs h2
      refine op_notIn_seq pins s σ H _ _ _ _ _ I rv ru ⟨a, vs, rfl, by rw [hK]; exact hsq, (flat_rw rx h1).1, a1, fin ?_⟩
      show r = !(vs.any fun y => eqV y v)
      rw [a2, ← h3, Bool.not_not]
    cases rx <;> cases ry <;> first
      | exact seq c'
      | exact op_notin_str pins s σ H _ _ _ _ _ I rv ru ⟨_, _, rfl, rfl, fin (by have e : (!r) = _ := c'; rw [← Bool.not_not r, e]; rfl)⟩
/-! ### truth -/
theorem Tru.inj {w : W} {k k' : Bool} (a : Tru h w k) (b : Tru h w k') : k = k' := by
  cases w with
  | obj n =>
    obtain ⟨xs, e, a⟩ := a
    obtain ⟨ys, e2, b⟩ := b
    rw [e] at e2; cases e2
    rw [a, b]
  | str x => rw [a.2, b.2]
  | _ => exact (show k = _ from a).trans (show k' = _ from b).symm
theorem isE_rws {N : Nat} {xs : List W} {vs : List V} (r : RWs g.K N μ H xs vs) : (!xs.isEmpty) = !vs.isEmpty := by
  cases r <;> rfl
theorem Tru.v (R : Rl g h μ H) {w : W} {v : V} {k : Bool} (r : RW g.K h.n μ H w v) (t : Tru h w k) : TruV g.K v H k := by
  cases r with
  | non => exact t
  | bl b => exact t
  | int i => exact t
  | str x => exact t
  | tup h1 h2 => exact .inr (.inl ⟨_, h1, (show k = _ from t).trans (isE_rws h2)⟩)
  | scr h1 h2 => exact .inl ⟨_, h1.sq, (show k = _ from t).trans (isE_rws h2)⟩
  | obj hn =>
    obtain ⟨xs, e, t⟩ := t
    obtain ⟨_, vs, f, rs⟩ := R.lst e
    exact .inl ⟨vs, .of f, t.trans (isE_rws rs)⟩
/-! ### subscripts -/
theorem atI_rw {N : Nat} {xs : List W} {vs : List V} {i : Int} {w : W} (r : RWs g.K N μ H xs vs) (e : atI xs i = some w) : ∃ v, atI vs i = some v ∧ RW g.K N μ H w v := by
  unfold atI at e ⊢
  rw [r.length]
  cases hj : ixN xs.length i with
  | none => rw [hj] at e; cases e
  | some j =>
    rw [hj] at e
    exact r.get e
theorem s_idx (hK : X.K = g.K) : IxR X (r2M g wpIdx) := by
  intro value slice pins s σ H v u vv uu Q I rv ru hh hs
  obtain ⟨x, y, h, μ, Q', R, rx, ry, z, q⟩ := hh
  have seq : ∀ {k : Int}, y = .int k → (∃ xs w, Seq h x xs ∧ atI xs k = some w ∧ Q' w h) → wpAny (model X.prog X.w) X.A (subscriptTail value slice vv uu) (EP X pins σ Q) X.xe s := fun {k} ey ⟨xs, w, hx, e, zq⟩ => by
    subst ey
    cases ry
    obtain ⟨a, vs, rfl, hsq, rs⟩ := hx.rd R rx
    obtain ⟨w', e', rw'⟩ := atI_rw rs e
    rcases hsq with hsq | hsq
    · exact ix_list value slice pins s σ H _ _ _ _ _ I rv ru ⟨a, vs, _, w', rfl, rfl, by rw [hK]; exact hsq, e', q _ _ _ _ _ zq R .refl rw'⟩ hs
    · exact ix_tup value slice pins s σ H _ _ _ _ _ I rv ru ⟨a, vs, _, w', rfl, rfl, by rw [hK]; exact hsq, e', q _ _ _ _ _ zq R .refl rw'⟩ hs
  cases ry with
  | int k =>
    cases rx with
    | str zz =>
      obtain ⟨hz, c, e, z⟩ := z
      exact ix_str value slice pins s σ H _ _ _ _ _ I rv ru ⟨_, _, c, rfl, rfl, hz, e, q _ _ _ _ _ z R .refl (.str _)⟩ hs
    | _ => exact seq rfl z
  | _ => cases rx <;> exact False.elim z
/-- t[a:b], the whole: t itself -/
theorem sl_tupA : SlR X (fun x lo hi H Q => ∃ a xs, x = V.ref a ∧ SqT X.K H a xs ∧ (cutV xs lo hi = xs → Q (.ref a) H) ∧ ∀ p, H p = none → Q (.ref p) (upd H p (.tup (cutV xs lo hi)))) := by
  intro pins s σ H x v vl vu lo hi sl Q I rx hs pl pu h
  obtain ⟨a, xs, rfl, hx, q0, q1⟩ := h
  cases rx
  obtain ⟨its, r, ht, hz⟩ := I.tuple hx
  have hlen : its.toArray.size = xs.length := by rw [List.size_toArray]; exact r.length.symm
  by_cases hw : HT.sIx xs.length 0 lo = 0 ∧ HT.sIx xs.length xs.length hi = xs.length
  · refine ⟨"tuple", _, PyProof.Rows.slot_tuple_getitem.lookup, ht.typeIs, ?_⟩
    refine getItem_tuple_whole ht hs pl pu (by rw [hlen]; exact hw) ⟨.ref a, H, I, rfl, q0 ?_⟩
    unfold cutV
    rw [hw.1, hw.2]
    simp
  · exact sl_tup pins s σ H (.ref a) _ vl vu lo hi sl Q I rfl hs pl pu ⟨a, xs, rfl, hx, hw, q1⟩
def slM (g : GE) : V → Option Int → Option Int → Hp → VK → Prop := fun v lo hi H Q => ∃ x h μ Q', Rl g h μ H ∧ RW g.K h.n μ H x v ∧ wpSlc x lo hi h Q' ∧ QOk g h.n μ H Q' Q
theorem s_slc (hK : X.K = g.K) : SlR X (slM g) := by
  intro pins s σ H v vv vl vu lo hi sl Q I rv hs pl pu hh
  obtain ⟨x, h, μ, Q', R, rx, z, q⟩ := hh
  cases rx with
  | str zz => exact sl_str pins s σ H _ _ vl vu lo hi sl Q I rv hs pl pu ⟨zz, rfl, z.1, q _ _ _ _ _ z.2 R .refl (.str _)⟩
  | tup h1 r1 =>
    refine sl_tupA pins s σ H _ _ vl vu lo hi sl Q I rv hs pl pu ⟨_, _, rfl, by rw [hK]; exact h1, fun e => ?_, fun p hp => ?_⟩
    · refine q _ _ _ _ _ z R .refl (.tup h1 ?_)
      have r2 := r1.cut lo hi
      rw [e] at r2
      exact r2
    · obtain ⟨a1, a2, a3⟩ := R.newTup hp (r1.cut lo hi)
      exact q _ _ _ _ _ z a1 a2 a3
  | scr h1 r1 =>
    refine sl_list pins s σ H _ _ vl vu lo hi sl Q I rv hs pl pu ⟨_, _, rfl, by rw [hK]; exact h1.sq, fun p hp => ?_⟩
    obtain ⟨a1, a2, a3⟩ := R.newList hp (r1.cut lo hi)
    exact q _ _ _ _ _ z a1 a2 a3
  | obj hn =>
    obtain ⟨xs, e, z⟩ := z
    obtain ⟨_, vs, f, rs⟩ := R.lst e
    refine sl_list pins s σ H _ _ vl vu lo hi sl Q I rv hs pl pu ⟨_, vs, rfl, .of f, fun p hp => ?_⟩
    obtain ⟨a1, a2, a3⟩ := R.newList hp (rs.cut lo hi)
    exact q _ _ _ _ _ z a1 a2 a3
  | _ => exact False.elim z
/-- o[i] = v -/
def setM (g : GE) (n : Nat) (μ : Nat → Addr) (H0 : Hp) : TSet := fun o i v H Q => ∃ x y w h μ' Q', Rl g h μ' H ∧ Up n μ H0 h.n μ' H ∧ RW g.K h.n μ' H x o ∧ RW g.K h.n μ' H y i ∧ RW g.K h.n μ' H w v ∧ wpSet x y w h Q' ∧
  ∀ h2 μ2 H2, Q' h2 → Rl g h2 μ2 H2 → Up n μ H0 h2.n μ2 H2 → Q H2
def setM0 (g : GE) : TSet := fun o i v H Q => ∃ x y w h μ' Q', Rl g h μ' H ∧ RW g.K h.n μ' H x o ∧ RW g.K h.n μ' H y i ∧ RW g.K h.n μ' H w v ∧ wpSet x y w h Q' ∧
  ∀ h2 μ2 H2, Q' h2 → Rl g h2 μ2 H2 → Up h.n μ' H h2.n μ2 H2 → Q H2
theorem s_set : PSet X (setM0 g) := by
  intro pins s σ H o i v ov iv u Q I ro ri rv hh
  obtain ⟨x, y, w, h, μ, Q', R, rx, ry, rw', z, q⟩ := hh
  cases rx <;> cases ry <;> first | exact False.elim z | skip
  obtain ⟨xs, j, e1, e2, z⟩ := z
  obtain ⟨_, vs, f, rs⟩ := R.lst e1
  refine set_list pins s σ H _ _ _ _ _ _ _ I ro ri rv ⟨_, vs, _, j, rfl, rfl, f, by rw [rs.length]; exact e2, ?_⟩
  obtain ⟨a1, a2⟩ := R.putList e1 f (rs.set rw' j)
  exact q _ _ _ z a1 a2
end
end MP
set_option Elab.async false
set_option linter.all false
set_option maxRecDepth 100000
set_option maxHeartbeats 1000000
/-! Ops3: built-ins, methods of built-in types, isinstance, fields. -/
namespace MP
open PySem L2 PySem.Spec PyProof.Rows
def biV : Bi → Value
  | .len => .builtin "len" | .all => .builtin "all" | .max => .builtin "max" | .min => .builtin "min" | .str => .type "str" | .int => .type "int" | .tuple => .type "tuple" | .list => .type "list"
theorem vals_at : ∀ {xs : List V} {us : List Value}, us.length = xs.length → (∀ (j : Nat) (u : Value), us[j]? = some u → ∃ x, xs[j]? = some x ∧ RelV x u) → Vals xs us
  | [], [], _, _ => .nil
  | [], _ :: _, e, _ => by simp at e
  | _ :: _, [], e, _ => by simp at e
  | x :: xs, u :: us, e, k => by
    obtain ⟨y, h1, h2⟩ := k 0 u rfl
    obtain rfl : x = y := by simpa using h1
    exact .cons h2 (vals_at (by simpa using e) fun j u' hu => by simpa using k (j + 1) u' (by simpa using hu))
theorem items_signs {x : Str} {acc : Array Value} (h : ItemsOf (SignAt x) acc x.cps.size) : Vals (x.cps.toList.map fun c => V.str ⟨#[c]⟩) acc.toList := by
  obtain ⟨hl, hi⟩ := h
  refine vals_at (by simp [hl]) fun j u e => ?_
  obtain ⟨c, t, h1, rfl⟩ := hi j u (by simpa using e)
  exact ⟨.str ⟨#[c]⟩, by simp [h1], t, rfl⟩
section
variable {g : GE} {X : Cx}
theorem one_rw {K : PySem.W.Frag} {N : Nat} {μ : Nat → Addr} {H : Hp} {w : W} {vs : List V} (r : RWs K N μ H [w] vs) : ∃ v, vs = [v] ∧ RW K N μ H w v := by
  cases r with
  | cons r1 r2 => cases r2; exact ⟨_, rfl, r1⟩
theorem two_rw {K : PySem.W.Frag} {N : Nat} {μ : Nat → Addr} {H : Hp} {w u : W} {vs : List V} (r : RWs K N μ H [w, u] vs) : ∃ v x, vs = [v, x] ∧ RW K N μ H w v ∧ RW K N μ H u x := by
  cases r with
  | cons r1 r2 =>
    cases r2 with
    | cons r3 r4 => cases r4; exact ⟨_, _, rfl, r1, r3⟩
theorem s_bi (hK : X.K = g.K) (hc : X.calm = true) (b : Bi) : CallR X (biV b) (rsM g (wpBi b)) := by
  intro pins s σ H vs us Q I r hh
  obtain ⟨ws, h, μ, Q', R, rw', z, q⟩ := hh
  unfold wpBi at z
  split at z
  · obtain ⟨n, hl, z⟩ := z
    obtain ⟨v, rfl, rv⟩ := one_rw rw'
    cases rv with
    | str x => exact call_len pins s σ H _ us Q I r ⟨_, n, rfl, hl, q _ _ _ _ _ z R .refl (.int _)⟩
    | tup h1 h2 => exact call_len pins s σ H _ us Q I r ⟨_, n, rfl, .inr ⟨_, by rw [hK]; exact h1, by rw [h2.length]; exact hl⟩, q _ _ _ _ _ z R .refl (.int _)⟩
    | scr h1 h2 => exact call_len pins s σ H _ us Q I r ⟨_, n, rfl, .inl ⟨_, by rw [hK]; exact h1.sq, by rw [h2.length]; exact hl⟩, q _ _ _ _ _ z R .refl (.int _)⟩
    | obj hn =>
      obtain ⟨xs, e, hl⟩ := hl
      obtain ⟨_, vs', f, rs⟩ := R.lst e
      exact call_len pins s σ H _ us Q I r ⟨_, n, rfl, .inl ⟨vs', .of f, by rw [rs.length]; exact hl⟩, q _ _ _ _ _ z R .refl (.int _)⟩
    | _ => exact hl.elim
  · obtain ⟨bs, e, z⟩ := z
    obtain ⟨v, rfl, rv⟩ := one_rw rw'
    cases rv with
    | obj hn =>
      obtain ⟨_, vs', f, rs⟩ := R.lst e
      obtain rfl := rs.bls
      exact cr_all hc pins s σ H _ us Q I r ⟨_, bs, rfl, .of f, q _ _ _ _ _ z R .refl (.bl _)⟩
  · obtain ⟨v, x, rfl, rv, rx⟩ := two_rw rw'
    cases rv; cases rx
    exact call_max2 hc pins s σ H _ us Q I r ⟨_, _, rfl, q _ _ _ _ _ z R .refl (.int _)⟩
  · obtain ⟨v, x, rfl, rv, rx⟩ := two_rw rw'
    cases rv; cases rx
    exact call_min2 hc pins s σ H _ us Q I r ⟨_, _, rfl, q _ _ _ _ _ z R .refl (.int _)⟩
  · obtain ⟨v, rfl, rv⟩ := one_rw rw'
    cases rv
    exact call_str_int pins s σ H _ us Q I r ⟨_, rfl, z.1, q _ _ _ _ _ z.2 R .refl (.str _)⟩
  · obtain ⟨v, rfl, rv⟩ := one_rw rw'
    cases rv
    exact call_int1 pins s σ H _ us Q I r (.inl ⟨_, rfl, q _ _ _ _ _ z R .refl (.int _)⟩)
  · obtain ⟨v, rfl, rv⟩ := one_rw rw'
    cases rv
    exact call_int1 pins s σ H _ us Q I r (.inr ⟨_, rfl, q _ _ _ _ _ z R .refl (.int _)⟩)
  · obtain ⟨xs, hs, z⟩ := z
    obtain ⟨v, rfl, rv⟩ := one_rw rw'
    cases rv with
    | tup h1 h2 => exact call_tuple_of pins s σ H _ us Q I r ⟨_, _, rfl, .inr ⟨by rw [hK]; exact h1, q _ _ _ _ _ z R .refl (.tup h1 (by rw [← show _ = xs from hs]; exact h2))⟩⟩
    | scr h1 h2 =>
      refine call_tuple_of pins s σ H _ us Q I r ⟨_, _, rfl, .inl ⟨by rw [hK]; exact h1.sq, fun l hl => ?_⟩⟩
      obtain ⟨a1, a2, a3⟩ := R.newTup hl (show RWs g.K h.n μ H xs _ by rw [← show _ = xs from hs]; exact h2)
      exact q _ _ _ _ _ z a1 a2 a3
    | obj hn =>
      obtain ⟨_, vs', f, rs⟩ := R.lst hs
      refine call_tuple_of pins s σ H _ us Q I r ⟨_, _, rfl, .inl ⟨.of f, fun l hl => ?_⟩⟩
      obtain ⟨a1, a2, a3⟩ := R.newTup hl rs
      exact q _ _ _ _ _ z a1 a2 a3
    | _ => exact hs.elim
  · rename_i x
    obtain ⟨hz, z⟩ := z
    obtain ⟨v, rfl, rv⟩ := one_rw rw'
    cases rv
    obtain ⟨u, rfl, ru⟩ := vals1 r
    obtain ⟨t, rfl⟩ := ru
    refine call_list_str (I.ok.hd hc) x t (fun h' tk acc' c' kp e it => ?_) hz
    have hp := I.fresh
    have hv := items_signs it
    have rws : RWs g.K h.n μ H (x.cps.toList.map fun c => W.str ⟨#[c]⟩) (x.cps.toList.map fun c => V.str ⟨#[c]⟩) := by
      have := rws_strs (K := g.K) (N := h.n) (μ := μ) (H := H) (x.cps.toList.map fun c => (⟨#[c]⟩ : Str))
      rw [List.map_map, List.map_map] at this
      exact this
    obtain ⟨a1, a2, a3⟩ := R.newList hp rws
    have hz' : (x.cps.toList.map fun c => V.str ⟨#[c]⟩).length ≤ sizeLine := by rw [List.length_map, Array.length_toList]; exact hz
    refine ⟨.ref s.heap.objs.size, _, I.laid (t' := tk) (o := .lst (x.cps.toList.map fun c => V.str ⟨#[c]⟩)) kp (Nat.le_refl _) ⟨hz', acc'.toList, c', hv, by simpa using e⟩, rfl, q _ _ _ _ _ z a1 a2 a3⟩
  · obtain ⟨xs, hs, z⟩ := z
    obtain ⟨v, rfl, rv⟩ := one_rw rw'
    obtain ⟨a, vs', rfl, hsq, rs⟩ := hs.rd R rv
    refine call_list_of pins s σ H _ us Q I r ⟨a, vs', rfl, by rw [hK]; exact hsq, fun l hl => ?_⟩
    obtain ⟨a1, a2, a3⟩ := R.newList hl rs
    exact q _ _ _ _ _ z a1 a2 a3
  · exact z.elim
end

/-! ### methods of built-in types -/
def tkN : Tk → String
  | .str => "str" | .list => "list" | .tuple => "tuple" | .int => "int"
def meId : Me → Tk → String
  | .join, .str => "str.join" | .upper, .str => "str.upper" | .index, .str => "str.index" | .append, .list => "list.append"
  | _, _ => ""
def meN : Me → Str
  | .own => "" | .join => "join" | .upper => "upper" | .index => "index" | .append => "append"
theorem me_facts (k : Me) (t : Tk) (h : meOk k t = true) : PlainAttrs (tkN t) ∧ Slot (tkN t) (meN k) (meId k t) ∧ typeOf (.builtin (meId k t)) = pure (.type "method_descriptor") := by
  cases k <;> cases t <;> first | (exact absurd h (by decide)) | skip
  · exact ⟨PySem.F.plainAttrs_str, PySem.F.slot_str_join, PySem.F.type_str_join⟩
  · exact ⟨PySem.F.plainAttrs_str, PySem.F.slot_str_upper, PySem.F.type_str_upper⟩
  · exact ⟨PySem.F.plainAttrs_str, PySem.F.slot_str_index, PySem.F.type_str_index⟩
  · exact ⟨PySem.F.plainAttrs_list, PySem.F.slot_list_append, PySem.F.type_list_append⟩
section
variable {g : GE} {X : Cx}
/-- the receiver's type in the machine -/
theorem KindR.is {pins : List (Addr × Obj)} {s : Shared} {σ : L2.St} {μ : Nat → Addr} {H : Hp} {h : MH} {w : W} {t : Tk} {v : V} {u : Value} (hK : X.K = g.K) (I : Inv X pins σ H s) (R : Rl g h μ H) (r : RW g.K h.n μ H w v) (rv : RelV v u) (k : KindR h w t) {m : Me} (ht : meOk m t = true) :
    s.TypeIs u (tkN t) ∧ ∀ a, u = .ref a → ∃ ob, s.heap.get? a = some ob ∧ ob.dict = none := by
  cases r <;> cases t <;> first | exact False.elim k | skip
  · exact tyV_is I rv (T := "int") rfl
  · exact tyV_is I rv (T := "str") rfl
  · cases m <;> exact absurd ht (by decide)
  · obtain ⟨xs, e⟩ := k
    obtain ⟨_, vs, f, _⟩ := R.lst e
    exact tyV_is I rv (T := "list") (.inl ⟨rfl, vs, .of f⟩)
theorem s_me (hK : X.K = g.K) (k : Me) (t : Tk) {pins : List (Addr × Obj)} {s : Shared} {σ : L2.St} {H : Hp} {v : V} {vs : List V} {u : Value} {us : List Value} {Q : VK} {w : W} {ws : List W} {h : MH} {μ : Nat → Addr} {Q' : QW}
    (hc : X.calm = true) (I : Inv X pins σ H s) (rv : RelV v u) (rs : Vals vs us) (R : Rl g h μ H) (r : RW g.K h.n μ H w v) (rr : RWs g.K h.n μ H ws vs) (z : wpMe k t w ws h Q') (q : QOk g h.n μ H Q' Q) :
    wpAny (model X.prog X.w) X.A (call (.builtin (meId k t)) (u :: us)) (EP X pins σ Q) X.xe s := by
  unfold wpMe at z
  split at z
  · obtain ⟨ys, hs, hz, z⟩ := z
    obtain ⟨x, rfl, rx⟩ := one_rw rr
    cases r
    obtain ⟨a, xs, rfl, hsq, rxs⟩ := hs.rd R rx
    obtain rfl := rxs.strs
    exact mt_join pins s σ H _ _ _ _ Q I rv rs ⟨_, a, ys, rfl, rfl, by rw [hK]; exact hsq, hz, q _ _ _ _ _ z R .refl (.str _)⟩
  · cases r
    cases rr
    exact mt_upper pins s σ H _ _ _ _ Q I rv rs ⟨_, rfl, rfl, z.1, q _ _ _ _ _ z.2 R .refl (.str _)⟩
  · obtain ⟨n, hn, z⟩ := z
    cases r
    obtain ⟨x, rfl, rx⟩ := one_rw rr
    cases rx
    obtain ⟨u2, rfl, ru⟩ := vals1 rs
    obtain ⟨t1, rfl⟩ := rv
    obtain ⟨t2, rfl⟩ := ru
    have tk : Takes (X.wish X.xe) (fun _ _ _ _ => False) := takes0
    exact mt_indexX (X := X) (W := fun _ _ _ _ => False) hc tk pins s σ H (.str _) [.str _] _ _ Q I ⟨_, rfl⟩ (.cons ⟨_, rfl⟩ .nil) ⟨_, _, rfl, rfl, fun k' hk => by rw [hn] at hk; cases hk; exact q _ _ _ _ _ z R .refl (.int _), fun hk => by rw [hn] at hk; cases hk⟩
  · obtain ⟨xs, e, hz, z⟩ := z
    obtain ⟨x, rfl, rx⟩ := one_rw rr
    cases r
    obtain ⟨_, vs', f, rs'⟩ := R.lst e
    refine mt_append pins s σ H _ _ _ _ Q I rv rs ⟨_, vs', x, rfl, rfl, f, by rw [rs'.length]; exact hz, ?_⟩
    obtain ⟨a1, a2⟩ := R.putList e f (rs'.append (.cons rx .nil))
    exact q _ _ _ _ _ z a1 a2 .non
  · exact z.elim
end
end MP
set_option Elab.async false
set_option linter.all false
set_option maxRecDepth 100000
set_option maxHeartbeats 1000000
/-! Ops4: isinstance, fields read and stored. -/
namespace PySem.W
open PySem PySem.Spec PySem.Calls PyProof.Rows
section
variable {prog : Program} {w : World} {A : Around} {E : Value → Shared → Prop} {s : Shared} {K : Frag} {x D : Addr} {ox : Obj} {od : Option Obj}
theorem mp_class_any {C : Addr} {name : Str} {a g : Value} (hc : (clsIn K C).isSome = true) (ha : findIn K (.ref C) name = some (some a)) (hg : specialIn K a "__get__" = some (some g)) (ht : takesIn K a = some true) : findObj K C od name = some (.bind g a) := by
  cases od with
  | none => exact findObj_dataN hc ha hg ht
  | some o => exact findObj_data hc ha hg ht
/-- an exception's class is asked, with or without a dict of its own -/
theorem mp_kin_class {Q : Option Value → Shared → Prop} (hga : findIn K (.ref D) "__getattribute__" = some (some (.builtin "BaseException.__getattribute__"))) (hgt : findIn K (.ref D) "__getattr__" = some none) (hsub : subIn K (.ref D) (.type "BaseException") = some true)
    (hf : findObj K D od "__class__" = some (.bind (.builtin "getset_descriptor.__get__") (.builtin "object.__class__"))) (hm : mroIn K D (.type "object") = some true)
    (X : K.In s.heap) (I : InstAt s.heap x ox D od) (h : Q (some (.ref D)) { s with toks := s.toks + 1 }) : wpAny (model prog w) A (getAttr? (.ref x) "__class__") Q E s := by
  obtain ⟨hp, g, d, t, os⟩ := s
  have l0 := I.type (M := model prog w)
  have l1 := looks_findIn (M := model prog w) X hga
  have l2 := looks_findIn (M := model prog w) X hgt
  have l3 := looks_find (M := model prog w) X I hf
  have sub : Looks (model prog w) hp (isInstance (.ref x) (.type "BaseException")) true := l0.andThen (looks_subIn X hsub)
  have n0 : (false && onTheHeap (Value.builtin "BaseException.__getattribute__")) = false := rfl
  have n2 : (Value.builtin "BaseException.__getattribute__" == Value.builtin "object.__getattribute__") = false := by decide +kernel
  have n1 : (onTheHeap (Value.ref D) && Value.builtin "BaseException.__getattribute__" == Value.builtin "object.__getattribute__") = false := by rw [n2]; rfl
  unfold getAttr? getAttrBy? getAttrBy
  refine wpAny_bind (wpAny_mkText (wpAny_bind (wpAny_attempt (wpAny_holding (wpAny_bind (l0.at (wpAny_bind (l1.at ?_))))))))
  show wpAny _ _ (if (onTheHeap (Value.ref D) && Value.builtin "BaseException.__getattribute__" == Value.builtin "object.__getattribute__") = true then _ else _) _ _ _
  rw [n1, if_neg Bool.false_ne_true]
  unfold getAttrByItsOwn hookBefore
  refine wpAny_bind ?_
  rw [if_pos (show onTheHeap (Value.ref D) = true from rfl)]
  refine l2.at (wpAny_bind (wpAny_attempt (wpAny_holding ?_)))
  unfold callGetattribute
  rw [n0, if_neg Bool.false_ne_true]
  unfold boundAndCalled
  rw [PySem.F.excAttr_ValueError.ga.bind (.ref x)]
  refine wpAny_bind (wpAny_pure ?_)
  show wpAny _ _ (call (.builtin "BaseException.__getattribute__") [.ref x, .str "__class__" t]) _ _ _
  refine wpAny_call (codeAny_call_builtin PySem.F.excAttr_ValueError.ga.plain PySem.F.entry_bexc_ga ?_)
  refine @check_slot (model prog w) _ _ ⟨hp, g, d, t + 1, os⟩ "BaseException.__getattribute__" "BaseException" "__getattribute__" (.ref x) [.str "__class__" t] [] _ (by decide +kernel) (by decide +kernel) sub (PySem.F.args_bexc_ga (.ref x) (.str "__class__" t)) ?_
  unfold Builtin.«object.__getattribute__»
  refine wpAny_bind (wpAny_of_eq (a := ((Value.ref x : Value), [Value.str "__class__" t])) (by first | rfl | (simp only [slotArgs]; rfl)) ?_)
  refine wpAny_bind (wpAny_pure (wpAny_bind (l0.at (wpAny_bind (l3.at ?_)))))
  show wpAny _ _ (holding [Value.builtin "object.__class__"] (call (.builtin "getset_descriptor.__get__") [.builtin "object.__class__", .ref x, .ref D]) >>= ret) _ _ _
  refine wpAny_bind (wpAny_holding (wpAny_call (class_get (s := ⟨hp, g, d, t + 1, os⟩) (ox := ox) (od := od) X I hm ?_)))
  refine wpAny_pure ?_
  show wpAny _ _ (handedOut (.ref D)) _ _ _
  rw [handedOut_of (v := .ref D) rfl]
  first
    | exact wpAny_pure (wpAny_pure h)
    | exact wpAny_pure h
    | exact wpAny_pure (wpAny_bind (wpAny_pure (wpAny_pure h)))
theorem mp_kitx_exc (hga : findIn K (.ref D) "__getattribute__" = some (some (.builtin "BaseException.__getattribute__"))) (hgt : findIn K (.ref D) "__getattr__" = some none) (hsub : subIn K (.ref D) (.type "BaseException") = some true) (hdct : hasDictIn K D = true) (ha : findIn K (.ref D) "__class__" = some (some (.builtin "object.__class__")))
    (hn : specialIn K (.builtin "object.__class__") "__get__" = some (some (.builtin "getset_descriptor.__get__"))) (htk : takesIn K (.builtin "object.__class__") = some true) (hm : mroIn K D (.type "object") = some true) :
    KitX K (.ref x) (.ref D) (fun h => InstAt h x ox D od) where
  ty := fun _ _ _ I => I.type
  it := fun M h X _ => by
    obtain ⟨cd, e, _⟩ := any_some hdct
    unfold clsIn at e
    split at e
    · rename_i c1 d1 cd1 sl1 lk
      intro A1 Q1 E1 s1 k q
      unfold isType loadHead
      exact wpAny_bind (wpAny_loadPart (k _ _ (X _ _ lk)) (wpAny_pure q))
    · cases e
  ne := (handS_kitx_exc (x := x) (ox := ox) hga hgt hsub hdct ha hn htk hm).ne
  ca := fun X I k => mp_kin_class hga hgt hsub (mp_class_any (by obtain ⟨cd, hc, _⟩ := any_some hdct; rw [hc]; rfl) ha hn htk) hm X I k
end
end PySem.W

namespace MP
open PySem L2 PySem.Spec PyProof.Rows
def tyV' (g : GE) : Ty → V
  | .int => .ty "int" | .bool => .ty "bool" | .str => .ty "str" | .tuple => .ty "tuple" | .list => .ty "list" | .dict => .ty "dict"
  | .own c => .ref (g.ca c)
def tyU (g : GE) : Ty → Value
  | .int => .type "int" | .bool => .type "bool" | .str => .type "str" | .tuple => .type "tuple" | .list => .type "list" | .dict => .type "dict"
  | .own c => .ref (g.ca c)
/-- an own class is a known one -/
def tyOk (g : GE) : Ty → Prop
  | .own c => c ∈ g.G.cls ++ g.G.exs
  | _ => True
section
variable {g : GE} {X : Cx}
theorem exT_at {P : Program} {w : World} {H : Hp} {h : Heap} {a : Addr} {cls : Value} {d : Option Addr} (hok : HOk P w H h) (e : H a = some (exT a cls d)) : ∃ oe vs, h.get? a = some oe ∧ oe.cls = cls ∧ oe.dict = d ∧ oe.data = .fields vs :=
  (hok a _ e).1
/-- an exception where it stands -/
theorem exT_inst {pins : List (Addr × Obj)} {s : Shared} {σ : L2.St} {H : Hp} {a D : Addr} {d : Option Addr} (I : Inv X pins σ H s) (e : H a = some (exT a (.ref D) d)) (hd : ∀ dx, d = some dx → ∃ vs, H dx = some (.xd vs)) :
    ∃ ox od, PySem.W.InstAt s.heap a ox D od := by
  obtain ⟨oe, vs, h1, h2, h3, h4⟩ := exT_at I.hok e
  have hn : PySem.W.notCls oe = true := by unfold PySem.W.notCls; rw [h4]
  cases d with
  | none => exact ⟨oe, none, h1, h2, hn, by rw [h3]; trivial⟩
  | some dx =>
    obtain ⟨ws, e2⟩ := hd dx rfl
    obtain ⟨mA, ⟨o, es, ep, ho, _⟩, _⟩ := (show ObjOk X.prog X.w H s.heap dx (.xd ws) from I.hok dx _ e2)
    exact ⟨oe, some o, h1, h2, hn, by rw [h3]; exact ho⟩
/-- isinstance(x, t) -/
theorem s_isi (hg : KOk g) (hK : X.K = g.K) (t : Ty) (ht : tyOk g t) : CallR X (.builtin "isinstance") (fun vs H Q => ∃ v w h μ Q' b, vs = [v, tyV' g t] ∧ Rl g h μ H ∧ RW g.K h.n μ H w v ∧ isTy g.G h w t = some b ∧ Q' (.bl b) h ∧ QOk g h.n μ H Q' Q) := by
  intro pins s σ H vs us Q I r hh
  obtain ⟨v, w, h, μ, Q', b, rfl, R, rw', e, z, q⟩ := hh
  have fin : Q (.bl b) H := q _ _ _ _ _ z R .refl (.bl b)
  have cls : ClsV (tyV' g t) (tyU g t) := by cases t <;> first | exact .ty _ | exact .own _
  have built : ∀ T ∈ ["NoneType", "bool", "int", "str", "list", "tuple", "dict"], TyX X.K H v (.type T) → (∀ c, t = .own c → b = false) → ((∀ c, t ≠ .own c) → PySem.W.kitOne X.K (.type T) (tyU g t) = some b) → wpAny (model X.prog X.w) X.A (call (.builtin "isinstance") us) (EP X pins σ Q) X.xe s := fun T hT ty h1 h2 => by
    refine call_isi pins s σ H _ us Q I r ⟨v, _, _, _, b, rfl, cls, ty, ?_, fin⟩
    by_cases ho : ∃ c, t = .own c
    · obtain ⟨c, rfl⟩ := ho
      rw [h1 c rfl, hK]
      exact hg.bo T hT c ht
    · exact h2 fun c hc => ho ⟨c, hc⟩
  cases rw' with
  | non => cases e; exact built "NoneType" (by simp) (.base .non) (fun _ _ => rfl) (fun hn => by cases t <;> first | exact kit_ty (by decide +kernel) | exact absurd rfl (hn _))
  | bl k => cases e; exact built "bool" (by simp) (.base (.bl _)) (fun c hc => by subst hc; rfl) (fun hn => by cases t <;> first | exact kit_ty (by decide +kernel) | exact absurd rfl (hn _))
  | int k => cases e; exact built "int" (by simp) (.base (.int _)) (fun c hc => by subst hc; rfl) (fun hn => by cases t <;> first | exact kit_ty (by decide +kernel) | exact absurd rfl (hn _))
  | str k => cases e; exact built "str" (by simp) (.base (.str _)) (fun c hc => by subst hc; rfl) (fun hn => by cases t <;> first | exact kit_ty (by decide +kernel) | exact absurd rfl (hn _))
  | tup h1 h2 =>
    cases e
    refine built "tuple" (by simp) ?_ (fun c hc => by subst hc; rfl) (fun hn => by cases t <;> first | exact kit_ty (by decide +kernel) | exact absurd rfl (hn _))
    rcases h1 with (h1 | ⟨o, h1⟩) | ⟨o, its, n, h1, hc, _⟩
    · exact .base (.tup h1)
    · exact .fTuple h1
    · rw [hK]; exact .kTuple h1 hc
  | scr h1 h2 =>
    cases e
    refine built "list" (by simp) ?_ (fun c hc => by subst hc; rfl) (fun hn => by cases t <;> first | exact kit_ty (by decide +kernel) | exact absurd rfl (hn _))
    rcases h1 with ⟨o, h1⟩ | ⟨o, its, n, h1, hc, _⟩
    · exact .base (.frz h1)
    · rw [hK]; exact .kList h1 hc
  | @obj n hn =>
    cases he : h.g n with
    | none => simp [isTy, he] at e
    | some c =>
      cases c with
      | lst xs =>
        simp only [isTy, he] at e
        obtain ⟨_, vs', f, _⟩ := R.lst he
        cases e
        exact built "list" (by simp) (.base (.lst f)) (fun c hc => by subst hc; rfl) (fun hn => by cases t <;> first | exact kit_ty (by decide +kernel) | exact absurd rfl (hn _))
      | ins c fs =>
        simp only [isTy, he] at e
        obtain ⟨_, dx, vs', f, _, hc, _⟩ := R.cell n _ he
        have hc' : c ∈ g.G.cls ++ g.G.exs := List.mem_append_left _ hc
        refine call_isi pins s σ H _ us Q I r ⟨_, _, .ref (g.ca c), _, b, rfl, cls, .base (.ins f (by rw [hK]; exact hg.cls c hc) (by rw [hK]; exact hg.ha c hc') (by rw [hK]; exact hg.hn) (by rw [hK]; exact hg.ht) (by rw [hK]; exact hg.hm c hc')), ?_, fin⟩
        rw [hK]
        cases t with
        | own d => exact (hg.oo c hc' d ht).trans e
        | _ => cases e; exact hg.ob c hc' _ (by simp)
      | exc c fs =>
        simp only [isTy, he] at e
        obtain ⟨_, d, f, hdx, hc, _⟩ := R.cell n _ he
        have hc' : c ∈ g.G.cls ++ g.G.exs := List.mem_append_right _ hc
        obtain ⟨u1, u2, rfl, r1, r2⟩ := vals2 r
        cases (show u1 = Value.ref (μ n) from r1)
        have e2 := cls.eq r2
        subst e2
        obtain ⟨ox, od, J⟩ := exT_inst I f fun dx hd => by
          subst hd
          cases fs with
          | nil => cases hdx
          | cons p ps => obtain ⟨dx', vs, h1, h2, _⟩ := hdx; cases h1; exact ⟨vs, h2⟩
        have Z := PySem.W.mp_kitx_exc (K := X.K) (x := μ n) (D := g.ca c) (ox := ox) (od := od) (by rw [hK]; exact hg.ga c hc) (by rw [hK]; exact hg.gg c hc) (by rw [hK]; exact hg.be c hc) (by rw [hK]; exact hg.hd c hc)
          (by rw [hK]; exact hg.ha c hc') (by rw [hK]; exact hg.hn) (by rw [hK]; exact hg.ht) (by rw [hK]; exact hg.hm c hc')
        refine PySem.W.kia_one Z I.kIn J ?_ (fun z => nomatch z) fun tk => ⟨.bl b, H, I.tok tk, rfl, fin⟩
        rw [hK]
        cases t with
        | own d => exact (hg.oo c hc' d ht).trans e
        | _ => cases e; exact hg.ob c hc' _ (by simp)
/-! ### fields -/
theorem lookup_has {f : Str} {x : W} : ∀ {fs : List (Str × W)}, fs.lookup f = some x → ∃ p ∈ fs, p.1 = f
  | [], e => by simp at e
  | p :: ps, e => by
    rw [List.lookup_cons] at e
    cases hx : f == p.1 with
    | true => exact ⟨p, List.mem_cons_self, (eq_of_beq hx).symm⟩
    | false =>
      rw [hx] at e
      obtain ⟨p', h1, h2⟩ := lookup_has e
      exact ⟨p', List.mem_cons_of_mem _ h1, h2⟩
/-- x.f -/
theorem s_fld (hg : KOk g) (hK : X.K = g.K) {pins : List (Addr × Obj)} {s : Shared} {σ : L2.St} {μ : Nat → Addr} {H : Hp} {h : MH} {w : W} {v : V} {u : Value} {f : Str} {b : Bool} {Q : VK} {Q' : QW} (I : Inv X pins σ H s) (rv : RelV v u) (R : Rl g h μ H) (r : RW g.K h.n μ H w v)
    (z : wpFld w f h Q') (q : QOk g h.n μ H Q' Q) : wpAny (model X.prog X.w) X.A (getAttr u f b) (EP X pins σ Q) X.xe s := by
  obtain ⟨n, c, fs, x, rfl, hc, e, z⟩ := z
  cases r with
  | obj hn =>
    cases (show u = Value.ref (μ n) from rv)
    rcases hc with hc | hc
    · obtain ⟨_, dx, vs, e1, fr, hcl, hno⟩ := R.cell n _ hc
      obtain ⟨y, l1, l2⟩ := fr.lookup e
      refine getattr_ok I e1 (by rw [hK]; exact hg.cls c hcl) (by
        rw [hK]
        obtain ⟨p, hp, rfl⟩ := lookup_has e
        exact hno p hp) l1 fun u' s' I' ru => ⟨y, H, I', ru, q _ _ _ _ _ z R .refl l2⟩
    · obtain ⟨_, d, e1, hdx, hcl, hno⟩ := R.cell n _ hc
      cases fs with
      | nil => simp at e
      | cons p ps =>
        obtain ⟨dx, vs, rfl, e2, fr, _⟩ := hdx
        obtain ⟨y, l1, l2⟩ := fr.lookup e
        obtain ⟨oe, ws, h1, h2, h3, h4⟩ := exT_at I.hok e1
        obtain ⟨mA, hns, hr⟩ := (show ObjOk X.prog X.w H s.heap dx (.xd vs) from I.hok dx _ e2)
        obtain ⟨od, ho, hl⟩ := lookIn_ns hns
        obtain ⟨uu, hu, ru⟩ := RelO.some_of (v := y) (o := mA f) (by rw [← l1]; exact hr f)
        have J : PySem.W.InstAt s.heap (μ n) oe (g.ca c) (some od) := ⟨h1, h2, by unfold PySem.W.notCls; rw [h4], by rw [h3]; exact ho⟩
        exact HandSPX.exc_get I.kIn J (by rw [hK]; exact hg.ga c hcl) (by rw [hK]; exact hg.gg c hcl) (by rw [hK]; exact hg.be c hcl) (PySem.W.findObj_own (by rw [hK]; exact hg.hd c hcl) (by
          rw [hK]
          obtain ⟨p', hp', rfl⟩ := lookup_has e
          exact hno p' hp') rfl (by rw [hl, hu])) (handed_of ru) ⟨y, H, I.tok _, ru, q _ _ _ _ _ z R .refl l2⟩
end
end MP
set_option Elab.async false
set_option linter.all false
set_option maxRecDepth 100000
/-! Cmp: from the program's terms to the small language. -/
namespace MP
open PySem L2
def bopOf : Operator → Option BOp
  | .Add => some .add | .Sub => some .sub | .Mult => some .mul | .FloorDiv => some .fdiv | .Mod => some .mod | .Pow => some .pow | .LShift => some .shl | .RShift => some .shr
  | .BitAnd => some .band | .BitOr => some .bor | .BitXor => some .bxor | _ => none
def copOf : CmpOp → COp
  | .Eq => .eq | .NotEq => .ne | .Lt => .lt | .LtE => .le | .Gt => .gt | .GtE => .ge | .Is => .is | .IsNot => .nis | .In => .isin | .NotIn => .nin
def constOf : Const → Option W
  | .none => some .non | .bool b => some (.bl b) | .int i => some (.int i) | .str x => some (.str x) | _ => none
def biTab : List (Str × Bi) := [("len", .len), ("all", .all), ("max", .max), ("min", .min), ("str", .str), ("int", .int), ("tuple", .tuple), ("list", .list)]
def meTab : List (Str × Me) := [("join", .join), ("upper", .upper), ("index", .index), ("append", .append)]
def tyTab : List (Str × Ty) := [("int", .int), ("bool", .bool), ("str", .str), ("tuple", .tuple), ("list", .list), ("dict", .dict)]
/-- the built-in names that the module must not bind -/
def freeNames : List Str := ["len", "all", "max", "min", "str", "int", "tuple", "list", "isinstance", "range", "enumerate", "bool", "dict", "ValueError"]
def isGlob (sc : Scope) (x : Str) : Bool := sc.names.lookup x == some .globalImplicit && !(x == ("__debug__" : Str))
/-- the place of a name of the def -/
def slotOf (N : List Str) (sc : Scope) (x : Str) : Option Nat :=
  if x == ("__debug__" : Str) || x == ("__classdict__" : Str) then none else
  match sc.names.lookup x with
  | some .local => N.idxOf? x | some .cell => N.idxOf? x | some .free => N.idxOf? x
  | _ => none
def notStar : Expr → Bool
  | .Starred .. => false
  | _ => true
def notSlice : Expr → Bool
  | .Slice .. => false
  | _ => true
def notSuper : Expr → Bool
  | .Call (.Name ..) [] [] _ => false
  | _ => true
def esOf (f : Expr → Option E) : List Expr → Option Es
  | [] => some .nil
  | e :: es => if notStar e then match f e, esOf f es with
    | some x, some xs => some (.cons x xs)
    | _, _ => none
    else none
def boOf (op : E → E → E) (f : Expr → Option E) : List Expr → Option E
  | [] => none
  | [a] => f a
  | a :: b :: r => match f a, boOf op f (b :: r) with
    | some x, some y => some (op x y)
    | _, _ => none
def optOf (f : Expr → Option E) : Option Expr → Option E
  | none => some .nop
  | some e => f e
/-- a target: names that may be stored -/
def tgOf (N : List Str) (st : Str → Bool) : Expr → Option Tg
  | .Name x _ => if st x then (N.idxOf? x).map .one else none
  | .Tuple es _ _ => (names es).map .many
  | _ => none
where names : List Expr → Option (List Nat)
  | [] => some []
  | .Name x _ :: r => if st x then match N.idxOf? x, names r with
    | some i, some is => some (i :: is)
    | _, _ => none
    else none
  | _ => none
def isTup : Expr → Bool
  | .Tuple .. => true
  | _ => false
def itOf (G : MG) (sc : Scope) (tg : Expr) (f : Expr → Option E) : Expr → Option I
  | .Call (.Name x p) [a] [] pos =>
    if isGlob sc x && (G.fn Str.empty x).isNone && x == ("range" : Str) then (if notStar a then (f a).map .rng1 else none)
    else if isGlob sc x && (G.fn Str.empty x).isNone && x == ("enumerate" : Str) then (if notStar a && isTup tg then (f a).map .enum else none)
    else (f (.Call (.Name x p) [a] [] pos)).map .e
  | .Call (.Name x p) [a, b] [] pos =>
    if isGlob sc x && (G.fn Str.empty x).isNone && x == ("range" : Str) then (if notStar a && notStar b then match f a, f b with
      | some i, some j => some (.rng2 i j)
      | _, _ => none else none)
    else (f (.Call (.Name x p) [a, b] [] pos)).map .e
  | .Call (.Name x p) [a, b, c] [] pos =>
    if isGlob sc x && (G.fn Str.empty x).isNone && x == ("range" : Str) then (if notStar a && notStar b && notStar c then match f a, f b, f c with
      | some i, some j, some k => some (.rng3 i j k)
      | _, _, _ => none else none)
    else (f (.Call (.Name x p) [a, b, c] [] pos)).map .e
  | e => (f e).map .e
/-- a comprehension's own names -/
def ownOf' (N : List Str) (sc : Scope) : List (Str × Nat) := sc.names.filterMap fun y => if y.2 == .local || y.2 == .cell then (N.idxOf? y.1).map fun i => (y.1, i) else none
def storable (sc : Scope) (x : Str) : Bool := sc.names.lookup x == some .local || sc.names.lookup x == some .cell
def tyOf (G : MG) (x : Str) : Option Ty := match tyTab.lookup x with
  | some t => some t
  | none => if (G.cls ++ G.exs).contains x then some (.own x) else none
def callOf (G : MG) (sc : Scope) (f : Expr → Option E) (x : Str) (args : List Expr) : Option E :=
  if isGlob sc x then
    if (G.fn Str.empty x).isSome then (esOf f args).map (.call x)
    else if G.cls.contains x then (if (G.fn x "__init__").isSome then (esOf f args).map (.mk x) else none)
    else if x == ("isinstance" : Str) then match args with
      | [a, .Name t _] => if isGlob sc t && notStar a then match f a, tyOf G t with
        | some e, some ty => some (.isi e ty)
        | _, _ => none else none
      | _ => none
    else match biTab.lookup x, args with
      | some b, _ :: _ => (esOf f args).map (.blt b)
      | _, _ => none
  else none
def compE (G : MG) (N : List Str) : Nat → Scope → Expr → Option E
  | 0, _, _ => none
  | n + 1, sc, e => match e with
    | .Constant c _ _ => (constOf c).map .lit
    | .Name x _ => match slotOf N sc x with
      | some i => some (.var i)
      | none => if isGlob sc x && (G.con x).isSome then some (.glo x) else none
    | .BinOp a op b _ => match compE G N n sc a, bopOf op, compE G N n sc b with
      | some x, some o, some y => some (.bin o x y)
      | _, _, _ => none
    | .UnaryOp .USub a _ => (compE G N n sc a).map .neg
    | .UnaryOp .Not a _ => (compE G N n sc a).map .not
    | .BoolOp .And vs _ => boOf .and (compE G N n sc) vs
    | .BoolOp .Or vs _ => boOf .or (compE G N n sc) vs
    | .Compare a [op] [b] _ => if behindInMarks op b then none else match compE G N n sc a, compE G N n sc b with
      | some x, some y => some (.cmp (copOf op) x y)
      | _, _ => none
    | .Compare a [o1, o2] [b, c] _ => if lastMarks [o1, o2] [b, c] then none else match compE G N n sc a, compE G N n sc b, compE G N n sc c with
      | some x, some y, some z => some (.chn (copOf o1) (copOf o2) x y z)
      | _, _, _ => none
    | .IfExp c a b _ => match compE G N n sc c, compE G N n sc a, compE G N n sc b with
      | some x, some y, some z => some (.ife x y z)
      | _, _, _ => none
    | .Tuple es _ _ => (esOf (compE G N n sc) es).map .tup
    | .List es _ => (esOf (compE G N n sc) es).map .lst
    | .Subscript a (.Slice lo hi none _) _ => match compE G N n sc a, optOf (compE G N n sc) lo, optOf (compE G N n sc) hi with
      | some x, some y, some z => some (.slc x y z)
      | _, _, _ => none
    | .Subscript a i _ => if notSlice i then match compE G N n sc a, compE G N n sc i with
      | some x, some y => some (.idx x y)
      | _, _ => none else none
    | .Attribute a f _ => if notSuper a then (compE G N n sc a).map fun x => .fld x f else none
    | .Call (.Attribute o m apos) args [] pos => if notSuper o && apos.endLine == pos.line && decide (args.length < 20) then match compE G N n sc o, esOf (compE G N n sc) args with
      | some x, some xs => some (.meth x m ((meTab.lookup m).getD .own) xs)
      | _, _ => none else none
    | .Call (.Name x _) args [] _ => callOf G sc (compE G N n sc) x args
    | .ListComp elt [⟨tg, it, ifs, 0⟩] bsc _ =>
      if blkC N sc bsc (ownOf' N bsc) then
        match tgOf N (storable bsc) tg, itOf G sc tg (compE G N n sc) it, compE G N n (relS bsc sc) elt with
        | some t, some i, some x => match ifs with
          | [] => some (.lc x t ((ownOf' N bsc).map (·.2)) i)
          | [c] => match compE G N n (relS bsc sc) c with
            | some y => some (.lcif x t ((ownOf' N bsc).map (·.2)) i y)
            | none => none
          | _ => none
        | _, _, _ => none
      else none
    | _ => none
end MP
set_option Elab.async false
set_option linter.all false
set_option maxRecDepth 100000
set_option maxHeartbeats 1000000
/-! SndE: what the small language's wp of an expression says, holds of the machine. -/
namespace MP
open PySem L2 PySem.Spec PyProof.Rows
/-- a def's promise, by the small language -/
def spM (g : GE) (k : Nat) (c f : Str) : Sp := fun vs H Q E => vs.length = (g.ps c f).length ∧ ∃ ws h μ Q' X', Rl g h μ H ∧ RWs g.K h.n μ H ws vs ∧ callAt g.G k c f ws h Q' X' ∧ QOk g h.n μ H Q' Q ∧
  ∀ e h' μ' H' cls d, X' e h' → Rl g h' μ' H' → Up h.n μ H h'.n μ' H' → RX g h'.n μ' H' e cls d → E cls d H'
/-- what the __init__ of the one class with a row does -/
def spRow (C : Addr) : Sp := fun vs H Q _ => vs.length = 2 ∧ ∃ (a : Addr) (i : Int), vs = [.ref a, .int i] ∧ i.natAbs.log2 < 1920 ∧ H a = some (exo a C none) ∧
  ∀ dx, H dx = none → dx ≠ a → Q .non (upd (upd H dx (exd dx [("row", .int i)])) a (exo a C (some dx)))
structure RowOk (g : GE) : Prop where
  T : OexC g.K (g.ca "NoText")
  ex : ∃ (fI : Addr) (fd : FuncData) (ps : List Str), ps.length = 2 ∧ PySem.W.findIn g.K (.ref (g.ca "NoText")) "__init__" = some (some (.ref fI)) ∧ PySem.W.typeIn g.K (.ref fI) = some (.type "function") ∧ Binds g.K fd ps [] ∧
    FnOk g.P g.w g.K g.mg g.base (L2.CX g.P g.w) 1 fI fd ps (spRow (g.ca "NoText"))
  no : NoAttr g.K (g.ca "NoText") "row"
/-- what stands in the module, whatever the level -/
structure FSt (g : GE) : Prop where
  kok : KOk g
  fnG : ∀ f d, g.G.fn Str.empty f = some d → g.mg f = some (.ref (g.fa Str.empty f)) ∧ PySem.W.keepIn g.K (.ref (g.fa Str.empty f)) = true
  np : ∀ c f d, g.G.fn c f = some d → (g.ps c f).length = d.np
  bind : ∀ c f d, g.G.fn c f = some d → ∀ m, ∃ (dvs : List V) (ds : List Value), Vals dvs ds ∧ (∀ N μ H, RWs g.K N μ H (d.dfl.drop m) dvs) ∧ Binds g.K (g.fd c f) (g.ps c f) ds
  mkC : ∀ c ∈ g.G.cls, ∀ d, g.G.fn c "__init__" = some d → g.mg c = some (.ref (g.ca c)) ∧ Mk g.K (g.ca c) (g.fa c "__init__")
  meth : ∀ c ∈ g.G.cls, ∀ m d, g.G.fn c m = some d → Meth g.K (g.ca c) m (g.fa c m)
  free : ∀ x ∈ freeNames, g.mg x = none
  con : ∀ x w, g.G.con x = some w → ∃ u v, g.mg x = some u ∧ RelV v u ∧ ∀ N μ H, RW g.K N μ H w v
  exP : ∀ c ∈ g.G.exs, g.G.fn c "__init__" = none → c ≠ "NoText" → ∃ B newId initId bmB, ExcBaseFacts B newId initId bmB ∧ PySem.W.excIn g.K (g.ca c) bmB newId = true ∧ PySem.W.keepIn g.K (.ref (g.ca c)) = true
  row : ("NoText" : Str) ∈ g.G.exs → RowOk g
  clsG : ∀ c ∈ g.G.cls ++ g.G.exs, g.mg c = some (.ref (g.ca c))
def FnsOk (g : GE) (k : Nat) : Prop := ∀ c f d, g.G.fn c f = some d → FnOk g.P g.w g.K g.mg g.base (L2.CX g.P g.w) (2 * k + 1) (g.fa c f) (g.fd c f) (g.ps c f) (spM g k c f)
structure CxOk (g : GE) (k : Nat) (N : List Str) (sc : Scope) (Wx : WX) (X : Cx) : Prop where
  P : X.prog = g.P
  w : X.w = g.w
  K : X.K = g.K
  mg : X.mg = g.mg
  base : X.base = g.base
  calm : X.calm = true
  hN : X.N = N
  nd : N.Nodup
  sc : X.env.scope = sc
  takes : Takes X Wx
  po : PassesOwn (model X.prog X.w) X.A X.env X.xe
  room : Room (2 * k + 2) X.A
/-- as a test -/
def TM (g : GE) (Wx : WX) (m : Loc → MH → QW → QX → Prop) : TT := fun σ H Q => ∃ μ loc h, ∃ (Q' : Bool → MH → Prop), ∃ X', Rl g h μ H ∧ LR g.K h.n μ H loc σ ∧ m loc h (fun x h1 => ∃ k, Tru h1 x k ∧ Q' k h1) X' ∧
  (∀ b h' μ' H', Q' b h' → Rl g h' μ' H' → Up h.n μ H h'.n μ' H' → Q b H') ∧ XOk g h.n μ H X' σ Wx
section
variable {g : GE} {k : Nat} {N : List Str} {sc : Scope} {Wx : WX} {X : Cx} {a b c : Expr} {x y z : E} {pos : Pos}
abbrev EW (g : GE) (k : Nat) (Wx : WX) (e : E) : TE := EM g Wx (wpE (callAt g.G k) g.G e)
abbrev TW (g : GE) (k : Nat) (Wx : WX) (e : E) : TT := TM g Wx (wpE (callAt g.G k) g.G e)
abbrev EWs (g : GE) (k : Nat) (Wx : WX) (e : Es) : TA := EMs g Wx (wpEs (callAt g.G k) g.G e)
theorem CxOk.hu (O : CxOk g k N sc Wx X) : X.A.units + 64 < cLine := O.room.units
theorem CxOk.gl (O : CxOk g k N sc Wx X) {n : Str} (h : isGlob sc n = true) : Gl X n ∧ (n == ("__debug__" : Str)) = false := by
  obtain ⟨h1, h2⟩ := Bool.and_eq_true_iff.mp h
  refine ⟨?_, by simpa using h2⟩
  show X.env.scope.names.lookup n = _
  rw [O.sc]
  exact eq_of_beq h1
theorem slotOf_ok {i : Nat} {n : Str} (h : slotOf N sc n = some i) : N[i]? = some n ∧ Vis sc n ∧ (n == ("__debug__" : Str)) = false ∧ (n == ("__classdict__" : Str)) = false := by
  unfold slotOf at h
  split at h
  · cases h
  · rename_i h0
    have h0 := Bool.eq_false_iff.mpr h0
    rw [Bool.or_eq_false_iff] at h0
    have ix : ∀ {i}, N.idxOf? n = some i → N[i]? = some n := fun {i} e => by
      have := List.findIdx?_eq_some_iff_getElem.mp e
      obtain ⟨hl, hb, _⟩ := this
      rw [List.getElem?_eq_getElem hl]
      exact congrArg some (eq_of_beq hb)
    split at h
    · rename_i e; exact ⟨ix h, .inl e, h0⟩
    · rename_i e; exact ⟨ix h, .inr (.inl e), h0⟩
    · rename_i e; exact ⟨ix h, .inr (.inr e), h0⟩
    · cases h
/-! ### names, constants -/
theorem l_var (O : CxOk g k N sc Wx X) {i : Nat} {n : Str} (h : slotOf N sc n = some i) : PE X (.Name n pos) (EW g k Wx (.var i)) := by
  obtain ⟨h1, h2, h3, h4⟩ := slotOf_ok h
  refine (pe_var (i := i) (by rw [O.hN]; exact h1) (by rw [O.sc]; exact h2) h3 h4).imp fun σ H Q hh => ?_
  obtain ⟨μ, loc, h, Q', X', R, L, ⟨w, e, z⟩, q, _⟩ := hh
  obtain ⟨v, e2, r⟩ := L i w e
  exact ⟨v, e2, q _ _ _ _ _ z R .refl r⟩
theorem l_lit {cn : Const} {w : W} {j : Nat} (h : constOf cn = some w) : PE X (.Constant cn j pos) (EW g k Wx (.lit w)) := by
  have go : ∀ {v : V}, PE X (.Constant cn j pos) (tC v) → (∀ N μ H, RW g.K N μ H w v) → PE X (.Constant cn j pos) (EW g k Wx (.lit w)) := fun {v} p r => p.imp fun σ H Q hh => by
    obtain ⟨μ, loc, h, Q', X', R, L, z, q, _⟩ := hh
    exact q _ _ _ _ _ z R .refl (r _ _ _)
  cases cn <;> first | cases h | skip
  · exact go pe_non fun _ _ _ => .non
  · exact go pe_bl fun _ _ _ => .bl _
  · exact go pe_int fun _ _ _ => .int _
  · exact go pe_str fun _ _ _ => .str _
theorem l_glo (F : FSt g) (O : CxOk g k N sc Wx X) {n : Str} (h1 : isGlob sc n = true) : PE X (.Name n pos) (EW g k Wx (.glo n)) := by
  refine ⟨fun pins s σ H Q I hh => ?_⟩
  obtain ⟨μ, loc, h, Q', X', R, L, ⟨w, e, z⟩, q, _⟩ := hh
  obtain ⟨u, v, e1, e2, e3⟩ := F.con n w e
  obtain ⟨g1, g2⟩ := O.gl h1
  exact (pe_glob g1 (by rw [O.mg]; exact e1) e2 g2).run pins s σ H Q I (q _ _ _ _ _ z R .refl (e3 _ _ _))
/-! ### operators -/
theorem l_bin (O : CxOk g k N sc Wx X) {op : Operator} {o : BOp} (ho : bopOf op = some o) (ha : PE X a (EW g k Wx x)) (hb : PE X b (EW g k Wx y)) : PE X (.BinOp a op b pos) (EW g k Wx (.bin o x y)) := by
  have e : op = bop o := by cases op <;> cases ho <;> rfl
  subst e
  refine (pe_op (s_bin O.K o) ha hb).imp fun σ H Q hh => ?_
  obtain ⟨μ, loc, h, Q', X', R, L, z, q, xo⟩ := hh
  exact ⟨μ, loc, h, _, X', R, L, z, fun w h1 μ1 H1 v z1 R1 u1 r1 => ⟨μ1, loc, h1, _, X', R1, L.up u1, z1, fun w2 h2 μ2 H2 v2 z2 R2 u2 r2 => ⟨w, w2, h2, μ2, Q', R2, r1.up u2, r2, z2, q.up (u1.trans u2)⟩, xo.up u1⟩, xo⟩
theorem l_neg (ha : PE X a (EW g k Wx x)) : PE X (.UnaryOp .USub a pos) (EW g k Wx (.neg x)) := by
  refine (pe_un un_neg ha).imp fun σ H Q hh => ?_
  obtain ⟨μ, loc, h, Q', X', R, L, z, q, xo⟩ := hh
  refine ⟨μ, loc, h, _, X', R, L, z, fun w h1 μ1 H1 v z1 R1 u1 r1 => ?_, xo⟩
  obtain ⟨i, rfl, z1⟩ := z1
  cases r1
  exact ⟨i, rfl, q _ _ _ _ _ z1 R1 u1 (.int _)⟩
theorem l_not (O : CxOk g k N sc Wx X) (ha : PE X a (EW g k Wx x)) : PE X (.UnaryOp .Not a pos) (EW g k Wx (.not x)) := by
  refine (pe_notT ha).imp fun σ H Q hh => ?_
  obtain ⟨μ, loc, h, Q', X', R, L, z, q, xo⟩ := hh
  refine ⟨μ, loc, h, _, X', R, L, z, fun w h1 μ1 H1 v z1 R1 u1 r1 => ?_, xo⟩
  obtain ⟨b, t, z1⟩ := z1
  exact ⟨b, by rw [O.K]; exact t.v R1 r1, q _ _ _ _ _ z1 R1 u1 (.bl _)⟩
theorem l_cmp (O : CxOk g k N sc Wx X) {op : CmpOp} (hm : behindInMarks op b = false) (ha : PE X a (EW g k Wx x)) (hb : PE X b (EW g k Wx y)) : PE X (.Compare a [op] [b] pos) (EW g k Wx (.cmp (copOf op) x y)) := by
  have e : op = cop (copOf op) := by cases op <;> rfl
  have ho : OpR X (compareOp op) (r2M g (fun x y h Q => ∃ r, CmpR h (copOf op) x y r ∧ Q (.bl r) h)) := by
    have := s_cmp (g := g) O.K O.hu (copOf op)
    rw [← e] at this
    exact this
  refine (pe_cmpR ho ha hb hm).imp fun σ H Q hh => ?_
  obtain ⟨μ, loc, h, Q', X', R, L, z, q, xo⟩ := hh
  exact ⟨μ, loc, h, _, X', R, L, z, fun w h1 μ1 H1 v z1 R1 u1 r1 => ⟨μ1, loc, h1, _, X', R1, L.up u1, z1, fun w2 h2 μ2 H2 v2 z2 R2 u2 r2 => ⟨w, w2, h2, μ2, Q', R2, r1.up u2, r2, z2, q.up (u1.trans u2)⟩, xo.up u1⟩, xo⟩
end
end MP
set_option Elab.async false
set_option linter.all false
set_option maxRecDepth 100000
set_option maxHeartbeats 1000000
/-! SndE2: tests, displays, subscripts, arguments. -/
namespace MP
open PySem L2 PySem.Spec PyProof.Rows
section
variable {g : GE} {k : Nat} {N : List Str} {sc : Scope} {Wx : WX} {X : Cx} {a b c : Expr} {x y e3 : E} {pos : Pos} {rest : List Expr}
theorem wE_mono {e : E} {loc : Loc} {h : MH} {Q Q' : QW} {Xq : QX} (q : ∀ w h, Q w h → Q' w h) (z : wpE (callAt g.G k) g.G e loc h Q Xq) : wpE (callAt g.G k) g.G e loc h Q' Xq :=
  wpE_mono (callAt_mono k k (Nat.le_refl _)) e loc h Q Q' Xq Xq q (fun _ _ z => z) z
/-! ### and, or as values -/
theorem l_and (O : CxOk g k N sc Wx X) (ha : PE X a (EW g k Wx x)) (hb : PE X (.BoolOp .And (b :: rest) pos) (EW g k Wx y)) : PE X (.BoolOp .And (a :: b :: rest) pos) (EW g k Wx (.and x y)) := by
  refine (pe_andT ha hb).imp fun σ H Q hh => ?_
  obtain ⟨μ, loc, h, Q', X', R, L, z, q, xo⟩ := hh
  refine ⟨μ, loc, h, _, X', R, L, z, fun w h1 μ1 H1 v z1 R1 u1 r1 => ?_, xo⟩
  obtain ⟨t, tr, z1⟩ := z1
  refine ⟨t, by rw [O.K]; exact tr.v R1 r1, ?_⟩
  cases t with
  | true => exact ⟨μ1, loc, h1, Q', X', R1, L.up u1, z1, q.up u1, xo.up u1⟩
  | false => exact q _ _ _ _ _ z1 R1 u1 r1
theorem l_or (O : CxOk g k N sc Wx X) (ha : PE X a (EW g k Wx x)) (hb : PE X (.BoolOp .Or (b :: rest) pos) (EW g k Wx y)) : PE X (.BoolOp .Or (a :: b :: rest) pos) (EW g k Wx (.or x y)) := by
  refine (pe_orT ha hb).imp fun σ H Q hh => ?_
  obtain ⟨μ, loc, h, Q', X', R, L, z, q, xo⟩ := hh
  refine ⟨μ, loc, h, _, X', R, L, z, fun w h1 μ1 H1 v z1 R1 u1 r1 => ?_, xo⟩
  obtain ⟨t, tr, z1⟩ := z1
  refine ⟨t, by rw [O.K]; exact tr.v R1 r1, ?_⟩
  cases t with
  | true => exact q _ _ _ _ _ z1 R1 u1 r1
  | false => exact ⟨μ1, loc, h1, Q', X', R1, L.up u1, z1, q.up u1, xo.up u1⟩
/-! ### tests -/
theorem t_plain (O : CxOk g k N sc Wx X) (ha : PE X a (EW g k Wx x)) (he : ∀ whole, PySem.isTrue a X.env whole = (do let v ← whole; standAt a.pos; holding [v] (truthy v))) : PT X a (TW g k Wx x) := by
  refine (pt_truth ha he).imp fun σ H Q hh => ?_
  obtain ⟨μ, loc, h, Q', X', R, L, z, q, xo⟩ := hh
  refine ⟨μ, loc, h, _, X', R, L, z, fun w h1 μ1 H1 v z1 R1 u1 r1 => ?_, xo⟩
  obtain ⟨t, tr, z1⟩ := z1
  exact ⟨t, by rw [O.K]; exact tr.v R1 r1, q _ _ _ _ z1 R1 u1⟩
theorem t_not (ha : PT X a (TW g k Wx x)) : PT X (.UnaryOp .Not a pos) (TW g k Wx (.not x)) := by
  refine (pt_not ha).imp fun σ H Q hh => ?_
  obtain ⟨μ, loc, h, Q', X', R, L, z, q, xo⟩ := hh
  refine ⟨μ, loc, h, fun t h1 => Q' (!t) h1, X', R, L, wE_mono (fun w h1 zz => ?_) z, fun t h1 μ1 H1 z1 R1 u1 => q _ _ _ _ z1 R1 u1, xo⟩
  obtain ⟨t, tr, t2, tr2, z1⟩ := zz
  obtain rfl : t2 = !t := tr2
  exact ⟨t, tr, z1⟩
theorem t_and (ha : PT X a (TW g k Wx x)) (hb : PW X (.BoolOp .And (b :: rest) pos) (TW g k Wx y)) : PW X (.BoolOp .And (a :: b :: rest) pos) (TW g k Wx (.and x y)) := by
  have p := pw_and ha hb
  refine ⟨fun whole pins s σ H Q I hh => p.run whole pins s σ H Q I ?_⟩
  obtain ⟨μ, loc, h, Q', X', R, L, z, q, xo⟩ := hh
  refine ⟨μ, loc, h, fun t h1 => if t = true then wpE (callAt g.G k) g.G y loc h1 (fun w h2 => ∃ r, Tru h2 w r ∧ Q' r h2) X' else Q' false h1, X', R, L, wE_mono (fun w h1 zz => ?_) z, fun t h1 μ1 H1 z1 R1 u1 => ?_, xo⟩
  · obtain ⟨t, tr, z1⟩ := zz
    refine ⟨t, tr, ?_⟩
    cases t with
    | true => exact z1
    | false =>
      obtain ⟨r, tr2, z2⟩ := z1
      obtain rfl := tr.inj tr2
      exact z2
  · cases t with
    | true => exact ⟨μ1, loc, h1, Q', X', R1, L.up u1, z1, fun b h' μ' H' z2 R2 u2 => q _ _ _ _ z2 R2 (u1.trans u2), xo.up u1⟩
    | false => exact q _ _ _ _ z1 R1 u1
theorem t_or (ha : PT X a (TW g k Wx x)) (hb : PW X (.BoolOp .Or (b :: rest) pos) (TW g k Wx y)) : PW X (.BoolOp .Or (a :: b :: rest) pos) (TW g k Wx (.or x y)) := by
  have p := pw_or ha hb
  refine ⟨fun whole pins s σ H Q I hh => p.run whole pins s σ H Q I ?_⟩
  obtain ⟨μ, loc, h, Q', X', R, L, z, q, xo⟩ := hh
  refine ⟨μ, loc, h, fun t h1 => if t = true then Q' true h1 else wpE (callAt g.G k) g.G y loc h1 (fun w h2 => ∃ r, Tru h2 w r ∧ Q' r h2) X', X', R, L, wE_mono (fun w h1 zz => ?_) z, fun t h1 μ1 H1 z1 R1 u1 => ?_, xo⟩
  · obtain ⟨t, tr, z1⟩ := zz
    refine ⟨t, tr, ?_⟩
    cases t with
    | false => exact z1
    | true =>
      obtain ⟨r, tr2, z2⟩ := z1
      obtain rfl := tr.inj tr2
      exact z2
  · cases t with
    | false => exact ⟨μ1, loc, h1, Q', X', R1, L.up u1, z1, fun b h' μ' H' z2 R2 u2 => q _ _ _ _ z2 R2 (u1.trans u2), xo.up u1⟩
    | true => exact q _ _ _ _ z1 R1 u1
theorem s_cmp' (O : CxOk g k N sc Wx X) (op : CmpOp) : OpR X (compareOp op) (r2M g (fun x y h Q => ∃ r, CmpR h (copOf op) x y r ∧ Q (.bl r) h)) := by
  have e : op = cop (copOf op) := by cases op <;> rfl
  have := s_cmp (g := g) O.K O.hu (copOf op)
  rw [← e] at this
  exact this
theorem t_cmp (O : CxOk g k N sc Wx X) {op : CmpOp} (hm : behindInMarks op b = false) (ha : PE X a (EW g k Wx x)) (hb : PE X b (EW g k Wx y)) : PT X (.Compare a [op] [b] pos) (TW g k Wx (.cmp (copOf op) x y)) := by
  refine (pt_cmpR (s_cmp' (g := g) O op) ha hb hm).imp fun σ H Q hh => ?_
  obtain ⟨μ, loc, h, Q', X', R, L, z, q, xo⟩ := hh
  refine ⟨μ, loc, h, _, X', R, L, z, fun w h1 μ1 H1 v z1 R1 u1 r1 => ⟨μ1, loc, h1, _, X', R1, L.up u1, z1, fun w2 h2 μ2 H2 v2 z2 R2 u2 r2 => ?_, xo.up u1⟩, xo⟩
  obtain ⟨t, cr, t2, tr, z3⟩ := z2
  obtain rfl : t2 = t := tr
  exact ⟨w, w2, h2, μ2, fun u h3 => u = .bl t2 ∧ Q' t2 h3, R2, r1.up u2, r2, ⟨t2, cr, rfl, z3⟩, fun w3 h3 μ3 H3 v3 z4 R3 u3 r3 => by
    obtain ⟨rfl, z4⟩ := z4
    cases r3
    exact ⟨t2, rfl, q _ _ _ _ z4 R3 ((u1.trans u2).trans u3)⟩⟩
theorem l_chn (O : CxOk g k N sc Wx X) {o1 o2 : CmpOp} (hm : lastMarks [o1, o2] [b, c] = false) (ha : PE X a (EW g k Wx x)) (hb : PE X b (EW g k Wx y)) (hc : PE X c (EW g k Wx e3)) :
    PE X (.Compare a [o1, o2] [b, c] pos) (EW g k Wx (.chn (copOf o1) (copOf o2) x y e3)) := by
  refine (pe_chain (s_cmp' (g := g) O o1) (s_cmp' (g := g) O o2) ha hb hc hm).imp fun σ H Q hh => ?_
  obtain ⟨μ, loc, h, Q', X', R, L, z, q, xo⟩ := hh
  refine ⟨μ, loc, h, _, X', R, L, z, fun w h1 μ1 H1 v z1 R1 u1 r1 => ⟨μ1, loc, h1, _, X', R1, L.up u1, z1, fun w2 h2 μ2 H2 v2 z2 R2 u2 r2 => ?_, xo.up u1⟩, xo⟩
  obtain ⟨t, cr, z2⟩ := z2
  refine ⟨w, w2, h2, μ2, fun u h3 => u = .bl t ∧ h3 = h2, R2, r1.up u2, r2, ⟨t, cr, rfl, rfl⟩, fun w3 h3 μ3 H3 v3 z4 R3 u3 r3 => ?_⟩
  obtain ⟨rfl, rfl⟩ := z4
  cases r3
  have u13 := (u1.trans u2).trans u3
  refine ⟨t, rfl, ?_⟩
  cases t with
  | true => exact ⟨μ3, loc, h3, _, X', R3, L.up u13, z2, fun w4 h4 μ4 H4 v4 z5 R4 u4 r4 => ⟨w2, w4, h4, μ4, Q', R4, (r2.up u3).up u4, r4, z5, q.up (u13.trans u4)⟩, xo.up u13⟩
  | false => exact q _ _ _ _ _ z2 R3 u13 (.bl _)
theorem t_chn (O : CxOk g k N sc Wx X) {o1 o2 : CmpOp} (hm : lastMarks [o1, o2] [b, c] = false) (ha : PE X a (EW g k Wx x)) (hb : PE X b (EW g k Wx y)) (hc : PE X c (EW g k Wx e3)) :
    PT X (.Compare a [o1, o2] [b, c] pos) (TW g k Wx (.chn (copOf o1) (copOf o2) x y e3)) := by
  refine (pt_chain (s_cmp' (g := g) O o1) (s_cmp' (g := g) O o2) ha hb hc hm).imp fun σ H Q hh => ?_
  obtain ⟨μ, loc, h, Q', X', R, L, z, q, xo⟩ := hh
  refine ⟨μ, loc, h, _, X', R, L, z, fun w h1 μ1 H1 v z1 R1 u1 r1 => ⟨μ1, loc, h1, _, X', R1, L.up u1, z1, fun w2 h2 μ2 H2 v2 z2 R2 u2 r2 => ?_, xo.up u1⟩, xo⟩
  obtain ⟨t, cr, z2⟩ := z2
  refine ⟨w, w2, h2, μ2, fun u h3 => u = .bl t ∧ h3 = h2, R2, r1.up u2, r2, ⟨t, cr, rfl, rfl⟩, fun w3 h3 μ3 H3 v3 z4 R3 u3 r3 => ?_⟩
  obtain ⟨rfl, rfl⟩ := z4
  cases r3
  have u13 := (u1.trans u2).trans u3
  refine ⟨t, rfl, ?_⟩
  cases t with
  | true =>
    refine ⟨μ3, loc, h3, _, X', R3, L.up u13, z2, fun w4 h4 μ4 H4 v4 z5 R4 u4 r4 => ?_, xo.up u13⟩
    obtain ⟨t2, cr2, t3, tr3, z5⟩ := z5
    obtain rfl : t3 = t2 := tr3
    exact ⟨w2, w4, h4, μ4, fun u h5 => u = .bl t3 ∧ Q' t3 h5, R4, (r2.up u3).up u4, r4, ⟨t3, cr2, rfl, z5⟩, fun w5 h5 μ5 H5 v5 z6 R5 u5 r5 => by
      obtain ⟨rfl, z6⟩ := z6
      cases r5
      exact ⟨t3, rfl, q _ _ _ _ z6 R5 ((u13.trans u4).trans u5)⟩⟩
  | false =>
    obtain ⟨t3, tr3, z5⟩ := z2
    obtain rfl : t3 = false := tr3
    exact ⟨false, rfl, q _ _ _ _ z5 R3 u13⟩
theorem l_ife (ha : PT X c (TW g k Wx x)) (hb : PE X a (EW g k Wx y)) (hc : PE X b (EW g k Wx e3)) : PE X (.IfExp c a b pos) (EW g k Wx (.ife x y e3)) := by
  refine (pe_ifExp ha hb hc).imp fun σ H Q hh => ?_
  obtain ⟨μ, loc, h, Q', X', R, L, z, q, xo⟩ := hh
  refine ⟨μ, loc, h, _, X', R, L, z, fun t h1 μ1 H1 z1 R1 u1 => ?_, xo⟩
  cases t with
  | true => exact ⟨μ1, loc, h1, Q', X', R1, L.up u1, z1, q.up u1, xo.up u1⟩
  | false => exact ⟨μ1, loc, h1, Q', X', R1, L.up u1, z1, q.up u1, xo.up u1⟩
theorem t_ife (ha : PT X c (TW g k Wx x)) (hb : PT X a (TW g k Wx y)) (hc : PT X b (TW g k Wx e3)) : PT X (.IfExp c a b pos) (TW g k Wx (.ife x y e3)) := by
  refine ⟨fun pins s σ H Q I hh => ?_⟩
  obtain ⟨μ, loc, h, Q', X', R, L, z, q, xo⟩ := hh
  show wpAny _ _ (do if ← PySem.isTrue c X.env (eval c X.env) then PySem.isTrue a X.env (eval a X.env) else PySem.isTrue b X.env (eval b X.env)) _ _ s
  refine wpAny_bind (thn (ha.run pins s σ H (fun t H1 => if t = true then TW g k Wx y σ H1 Q else TW g k Wx e3 σ H1 Q) I ?_) fun t s1 ⟨H1, I1, q1⟩ => ?_)
  · refine ⟨μ, loc, h, _, X', R, L, z, fun t h1 μ1 H1 z1 R1 u1 => ?_, xo⟩
    cases t with
    | true => exact ⟨μ1, loc, h1, Q', X', R1, L.up u1, z1, fun b h' μ' H' z2 R2 u2 => q _ _ _ _ z2 R2 (u1.trans u2), xo.up u1⟩
    | false => exact ⟨μ1, loc, h1, Q', X', R1, L.up u1, z1, fun b h' μ' H' z2 R2 u2 => q _ _ _ _ z2 R2 (u1.trans u2), xo.up u1⟩
  · cases t with
    | true => exact hb.run pins s1 σ H1 Q I1 q1
    | false => exact hc.run pins s1 σ H1 Q I1 q1
/-! ### displays, subscripts, slices -/
theorem l_tup {es : List Expr} {xs : Es} {j : Nat} (h : PA X es (EWs g k Wx xs)) : PE X (.Tuple es j pos) (EW g k Wx (.tup xs)) := by
  refine (pe_tup h).imp fun σ H Q hh => ?_
  obtain ⟨μ, loc, h, Q', X', R, L, z, q, xo⟩ := hh
  refine ⟨μ, loc, h, _, X', R, L, z, fun ws h1 μ1 H1 vs z1 R1 u1 r1 => ⟨by rw [r1.length]; exact z1.1, fun p hp => ?_⟩, xo⟩
  obtain ⟨a1, a2, a3⟩ := R1.newTup hp r1
  exact q _ _ _ _ _ z1.2 a1 (u1.trans a2) a3
theorem l_lst {es : List Expr} {xs : Es} (h : PA X es (EWs g k Wx xs)) : PE X (.List es pos) (EW g k Wx (.lst xs)) := by
  refine (pe_lst h).imp fun σ H Q hh => ?_
  obtain ⟨μ, loc, h, Q', X', R, L, z, q, xo⟩ := hh
  refine ⟨μ, loc, h, _, X', R, L, z, fun ws h1 μ1 H1 vs z1 R1 u1 r1 => ⟨by rw [r1.length]; exact z1.1, fun p hp => ?_⟩, xo⟩
  obtain ⟨a1, a2, a3⟩ := R1.newList hp r1
  exact q _ _ _ _ _ z1.2 a1 (u1.trans a2) a3
theorem l_idx (O : CxOk g k N sc Wx X) (hs : PlainIx b) (ha : PE X a (EW g k Wx x)) (hb : PE X b (EW g k Wx y)) : PE X (.Subscript a b pos) (EW g k Wx (.idx x y)) := by
  refine (pe_ix (s_idx (g := g) O.K) ha hb hs).imp fun σ H Q hh => ?_
  obtain ⟨μ, loc, h, Q', X', R, L, z, q, xo⟩ := hh
  exact ⟨μ, loc, h, _, X', R, L, z, fun w h1 μ1 H1 v z1 R1 u1 r1 => ⟨μ1, loc, h1, _, X', R1, L.up u1, z1, fun w2 h2 μ2 H2 v2 z2 R2 u2 r2 => ⟨w, w2, h2, μ2, Q', R2, r1.up u2, r2, z2, q.up (u1.trans u2)⟩, xo.up u1⟩, xo⟩
/-- a slice's part -/
def OM (g : GE) (k : Nat) (Wx : WX) (e : E) : TO := fun σ H Q => ∃ μ loc h, ∃ (Q' : Option Int → MH → Prop), ∃ X', Rl g h μ H ∧ LR g.K h.n μ H loc σ ∧ wpE (callAt g.G k) g.G e loc h (fun w h1 => ∃ o, optI w = some o ∧ Q' o h1) X' ∧
  (∀ o h' μ' H', Q' o h' → Rl g h' μ' H' → Up h.n μ H h'.n μ' H' → Q o H') ∧ XOk g h.n μ H X' σ Wx
theorem o_none : PO X none (OM g k Wx .nop) := ⟨fun pins s σ H Q I hh => by
  obtain ⟨μ, loc, h, Q', X', R, L, z, q, xo⟩ := hh
  obtain ⟨o, e, z⟩ := (show ∃ o, optI .non = some o ∧ Q' o h from z)
  cases e
  exact po_none.run pins s σ H Q I (q _ _ _ _ z R .refl)⟩
theorem o_some (ha : PE X a (EW g k Wx x)) : PO X (some a) (OM g k Wx x) := ⟨fun pins s σ H Q I hh => by
  obtain ⟨μ, loc, h, Q', X', R, L, z, q, xo⟩ := hh
  rw [evalPart_some]
  refine thn (ha.run pins s σ H (fun v H1 => ∃ w h1 μ1 o, Rl g h1 μ1 H1 ∧ Up h.n μ H h1.n μ1 H1 ∧ RW g.K h1.n μ1 H1 w v ∧ optI w = some o ∧ Q' o h1) I ⟨μ, loc, h, _, X', R, L, z, fun w h1 μ1 H1 v z1 R1 u1 r1 => ?_, xo⟩) fun u s1 ⟨v, H1, I1, rv, w, h1, μ1, o, R1, u1, r1, e, z1⟩ => ?_
  · obtain ⟨o, e, z1⟩ := z1
    exact ⟨w, h1, μ1, o, R1, u1, r1, e, z1⟩
  · cases r1 <;> first | cases e | skip
    · cases rv
      exact ⟨none, H1, I1, .none, q _ _ _ _ z1 R1 u1⟩
    · obtain ⟨t, rfl⟩ := rv
      exact ⟨some _, H1, I1, .int _ _, q _ _ _ _ z1 R1 u1⟩⟩
theorem l_slc {lo hi : Option Expr} {p2 : Pos} (O : CxOk g k N sc Wx X) (ha : PE X a (EW g k Wx x)) (hb : PO X lo (OM g k Wx y)) (hc : PO X hi (OM g k Wx e3)) : PE X (.Subscript a (.Slice lo hi none p2) pos) (EW g k Wx (.slc x y e3)) := by
  refine (pe_slice (s_slc (g := g) O.K) ha hb hc).imp fun σ H Q hh => ?_
  obtain ⟨μ, loc, h, Q', X', R, L, z, q, xo⟩ := hh
  refine ⟨μ, loc, h, _, X', R, L, z, fun w h1 μ1 H1 v z1 R1 u1 r1 => ?_, xo⟩
  refine ⟨μ1, loc, h1, fun l h2 => wpE (callAt g.G k) g.G e3 loc h2 (fun z h3 => ∃ u, optI z = some u ∧ wpSlc w l u h3 Q') X', X', R1, L.up u1, z1, fun l h2 μ2 H2 z2 R2 u2 => ?_, xo.up u1⟩
  exact ⟨μ2, loc, h2, fun u h3 => wpSlc w l u h3 Q', X', R2, L.up (u1.trans u2), z2, fun u h3 μ3 H3 z3 R3 u3 => ⟨w, h3, μ3, Q', R3, (r1.up u2).up u3, z3, q.up ((u1.trans u2).trans u3)⟩, xo.up (u1.trans u2)⟩
/-! ### arguments -/
theorem starEach_ns {e : Expr} {es : List Expr} {env : Env} (h : notStar e = true) : starEach (e :: es) env = (false, eval e env) :: starEach es env := by
  cases e <;> first | rfl | cases h
theorem back_plain {env : Env} {es : List Expr} (h : es.all notStar = true) : (backTo pos (starEach es env)).any (·.1) = false := by
  induction es with
  | nil => rfl
  | cons e es ih =>
    rw [List.all_cons, Bool.and_eq_true] at h
    rw [starEach_ns h.1]
    show (false || (backTo pos (starEach es env)).any (·.1)) = false
    rw [ih h.2]; rfl
theorem a_nil : PA X [] (EWs g k Wx .nil) := pa_nil.imp fun σ H Q hh => by
  obtain ⟨μ, loc, h, Q', X', R, L, z, q, xo⟩ := hh
  exact q _ _ _ _ _ z R .refl .nil
theorem a_cons {es : List Expr} {xs : Es} (hs : notStar a = true) (ha : PE X a (EW g k Wx x)) (hr : PA X es (EWs g k Wx xs)) : PA X (a :: es) (EWs g k Wx (.cons x xs)) := by
  refine (pa_cons ha hr (starEach_ns hs)).imp fun σ H Q hh => ?_
  obtain ⟨μ, loc, h, Q', X', R, L, z, q, xo⟩ := hh
  exact ⟨μ, loc, h, _, X', R, L, z, fun w h1 μ1 H1 v z1 R1 u1 r1 => ⟨μ1, loc, h1, _, X', R1, L.up u1, z1, fun ws h2 μ2 H2 vs z2 R2 u2 r2 => q _ _ _ _ _ z2 R2 (u1.trans u2) (.cons (r1.up u2) r2), xo.up u1⟩, xo⟩
/-! ### fields -/
theorem base_plain {f : Str} {env : Env} (h : notSuper a = true) : attributeBase a f env (eval a env) = eval a env := by
  cases a <;> first | rfl | skip
  rename_i fn args kws p
  cases fn <;> cases args <;> cases kws <;> first | rfl | cases h
theorem l_fld (F : FSt g) (O : CxOk g k N sc Wx X) {f : Str} (hb : notSuper a = true) (ha : PE X a (EW g k Wx x)) : PE X (.Attribute a f pos) (EW g k Wx (.fld x f)) := by
  refine ⟨fun pins s σ H Q I hh => ?_⟩
  obtain ⟨μ, loc, h, Q', X', R, L, z, q, xo⟩ := hh
  refine attr_of (base_plain hb) (thn (ha.run pins s σ H (fun v H1 => ∃ w h1 μ1, Rl g h1 μ1 H1 ∧ Up h.n μ H h1.n μ1 H1 ∧ RW g.K h1.n μ1 H1 w v ∧ wpFld w f h1 Q') I ⟨μ, loc, h, _, X', R, L, z, fun w h1 μ1 H1 v z1 R1 u1 r1 => ⟨w, h1, μ1, R1, u1, r1, z1⟩, xo⟩) fun u s1 ⟨v, H1, I1, rv, w, h1, μ1, R1, u1, r1, z1⟩ => ?_)
  exact s_fld F.kok O.K I1 rv R1 r1 z1 (q.up u1)
end
end MP
set_option Elab.async false
set_option linter.all false
set_option maxRecDepth 100000
set_option maxHeartbeats 1000000
/-! SndE3: calls. -/
namespace MP
open PySem L2 PySem.Spec PyProof.Rows
theorem callAt_fill {G : MG} {k : Nat} {c f : Str} {ws : List W} {h : MH} {Q : QW} {Xq : QX} (z : callAt G k c f ws h Q Xq) : ∃ d, G.fn c f = some d ∧ (fillD d ws).length = d.np ∧ callAt G k c f (fillD d ws) h Q Xq := by
  cases k with
  | zero => exact z.elim
  | succ k =>
    obtain ⟨d, e, l, z⟩ := z
    have ff : fillD d (fillD d ws) = fillD d ws := by
      show fillD d ws ++ d.dfl.drop ((fillD d ws).length + d.dfl.length - d.np) = _
      rw [l, Nat.add_sub_cancel_left, List.drop_length, List.append_nil]
    exact ⟨d, e, l, d, e, by rw [ff]; exact l, by rw [ff]; exact z⟩
section
variable {M : Model} {A : Around} {E : Value → Shared → Prop} {s : Shared}
/-- arguments that are no stars -/
theorem args_any {f : Value} {args : List (Bool × Sem Value)} {Q : Args → Shared → Prop} (hp : args.any (·.1) = false) (h : wpAny M A (spliced args) (fun vs s' => Q ⟨vs, []⟩ s') E s) : wpAny M A (evalArgs f true args []) Q E s := by
  cases args with
  | nil => exact fun Γ p hΓ => evalArgs_nil3 (show Q ⟨[], []⟩ s from h Γ p hΓ) Γ p hΓ
  | cons a r =>
    obtain ⟨b, x⟩ := a
    rw [List.any_cons, Bool.or_eq_false_iff] at hp
    obtain rfl : b = false := hp.1
    exact Calls.evalArgs_plain h
end
section
variable {g : GE} {k : Nat} {N : List Str} {sc : Scope} {Wx : WX} {X : Cx} {a b c : Expr} {x y e3 : E} {pos p apos : Pos} {es : List Expr} {xs : Es}
/-- f(..), f a thing that is kept -/
theorem callWith_es {f : Value} {first : List Value} {pins : List (Addr × Obj)} {s : Shared} {σ : L2.St} {H : Hp} {Q : VK} {t : TA} (I : Inv X pins σ H s) (hk : PySem.W.keepIn X.K f = true) (hs : es.all notStar = true) (ha : PA X es t)
    (h : t σ H fun vs H1 => ∀ us s1, Inv X pins σ H1 s1 → Vals vs us → wpAny (model X.prog X.w) X.A (call f (first ++ us)) (EP X pins σ Q) X.xe s1) :
    wpAny (model X.prog X.w) X.A (callWith pos f first (backTo pos (starEach es X.env)) []) (EP X pins σ Q) X.xe s := by
  refine PySem.W.callWith_of (P := fun h => X.K.In h) (by rw [back_plain hs]; rfl) (PySem.W.keeps_K hk) (args_any (back_plain hs) (thn (ha.run pos pins s σ H _ I h) fun us s1 ⟨vs, H1, I1, r, q⟩ => ⟨I1.kIn, q us s1 I1 r⟩))
theorem callWith_bt {id : String} {first : List Value} {pins : List (Addr × Obj)} {s : Shared} {σ : L2.St} {H : Hp} {Q : VK} {t : TA} (I : Inv X pins σ H s) (hs : es.all notStar = true) (ha : PA X es t)
    (h : t σ H fun vs H1 => ∀ us s1, Inv X pins σ H1 s1 → Vals vs us → wpAny (model X.prog X.w) X.A (call (.builtin id) (first ++ us)) (EP X pins σ Q) X.xe s1) :
    wpAny (model X.prog X.w) X.A (callWith pos (.builtin id) first (backTo pos (starEach es X.env)) []) (EP X pins σ Q) X.xe s := by
  refine Calls.callWith_builtin (back_plain hs) (args_any (back_plain hs) (thn (ha.run pos pins s σ H _ I h) fun us s1 ⟨vs, H1, I1, r, q⟩ => q us s1 I1 r))
theorem run_own (F : FSt g) (FN : FnsOk g k) (O : CxOk g k N sc Wx X) {pins : List (Addr × Obj)} {s : Shared} {σ : L2.St} {H : Hp} {Q : VK} {us : List Value} {vs : List V} {ws : List W} {c f : Str} {h : MH} {μ : Nat → Addr} {Q' : QW} {X' : QX}
    (I : Inv X pins σ H s) (rv : Vals vs us) (R : Rl g h μ H) (r : RWs g.K h.n μ H ws vs) (z : callAt g.G k c f ws h Q' X') (q : QOk g h.n μ H Q' Q) (xo : XOk g h.n μ H X' σ Wx) :
    wpAny (model X.prog X.w) X.A (call (.ref (g.fa c f)) us) (EP X pins σ Q) X.xe s := by
  obtain ⟨d, e, l, z⟩ := callAt_fill z
  obtain ⟨dvs, ds, hd, hr, hb⟩ := F.bind c f d e (ws.length + d.dfl.length - d.np)
  have FF := FN c f d e
  rw [← O.P, ← O.w, ← O.K, ← O.mg, ← O.base] at FF
  rw [← O.K] at hb
  have rr : RWs g.K h.n μ H (fillD d ws) (vs ++ dvs) := r.append (hr _ _ _)
  exact run_fnSD (E := WE Wx) FF (O.room.mono (Nat.le_succ _)) hb hd (passAt O.takes σ) I rv ⟨by rw [rr.length, l, F.np c f d e], fillD d ws, h, μ, Q', X', R, rr, z, q, xo⟩
theorem l_call (F : FSt g) (FN : FnsOk g k) (O : CxOk g k N sc Wx X) {n : Str} (hg : isGlob sc n = true) (hf : (g.G.fn Str.empty n).isSome = true) (hs : es.all notStar = true) (ha : PA X es (EWs g k Wx xs)) :
    PE X (.Call (.Name n p) es [] pos) (EW g k Wx (.call n xs)) := by
  refine ⟨fun pins s σ H Q I hh => ?_⟩
  obtain ⟨μ, loc, h, Q', X', R, L, z, q, xo⟩ := hh
  obtain ⟨d, hd⟩ := Option.isSome_iff_exists.mp hf
  obtain ⟨g1, g2⟩ := O.gl hg
  obtain ⟨m1, m2⟩ := F.fnG n d hd
  refine wpAny_Call_Name_kw (ld_glob I g1 (by rw [O.mg]; exact m1) ?_ g2)
  refine callWith_es I (by rw [O.K]; exact m2) hs ha ⟨μ, loc, h, _, X', R, L, z, fun ws h1 μ1 H1 vs z1 R1 u1 r1 us s1 I1 rv => ?_, xo⟩
  exact run_own F FN O I1 rv R1 r1 z1 (q.up u1) (xo.up u1)
/-- C(..) -/
theorem run_mk (F : FSt g) (FN : FnsOk g k) (O : CxOk g k N sc Wx X) {pins : List (Addr × Obj)} {s : Shared} {σ : L2.St} {H : Hp} {Q : VK} {us : List Value} {vs : List V} {ws : List W} {c : Str} {h : MH} {μ : Nat → Addr} {Q' : QW} {X' : QX} (hc : c ∈ g.G.cls)
    (I : Inv X pins σ H s) (rv : Vals vs us) (R : Rl g h μ H) (r : RWs g.K h.n μ H ws vs) (z : callAt g.G k c "__init__" (.obj h.n :: ws) (h.alloc (.ins c [])) (fun w h2 => w = .non ∧ Q' (.obj h.n) h2) X') (q : QOk g h.n μ H Q' Q) (xo : XOk g h.n μ H X' σ Wx) :
    wpAny (model X.prog X.w) X.A (call (.ref (g.ca c)) us) (EP X pins σ Q) X.xe s := by
  obtain ⟨d, e, l, z⟩ := callAt_fill z
  obtain ⟨dvs, ds, hd, hr, hb⟩ := F.bind c _ d e ((W.obj h.n :: ws).length + d.dfl.length - d.np)
  obtain ⟨hmg, M⟩ := F.mkC c hc d e
  have FF := FN c _ d e
  rw [← O.P, ← O.w, ← O.K, ← O.mg, ← O.base] at FF
  rw [← O.K] at hb M
  have I2 := Inv.made (C := g.ca c) I
  have f1 : H (s.heap.objs.size + 1) = none := I.hok.fresh (Nat.le_succ _)
  have f2 : H s.heap.objs.size = none := I.hok.fresh (Nat.le_refl _)
  have hne : s.heap.objs.size + 1 ≠ s.heap.objs.size := Nat.ne_of_gt (Nat.lt_succ_self _)
  have more : ∀ a o, H a = some o → upd (upd H s.heap.objs.size (.own (s.heap.objs.size + 1))) (s.heap.objs.size + 1) (.ins (g.ca c) s.heap.objs.size []) a = some o := fun a o q =>
    upd_more (by rw [upd_ne hne]; exact f1) a o (upd_more f2 a o q)
  have R2 : Rl g (h.alloc (.ins c [])) (seat μ h.n (s.heap.objs.size + 1)) _ := R.alloc f1 more ⟨s.heap.objs.size, [], upd_same, .nil, hc, fun p hp => absurd hp (by simp)⟩
  have u2 : Up h.n μ H (h.n + 1) (seat μ h.n (s.heap.objs.size + 1)) _ := Up.alloc f1 more
  have ro : RW g.K (h.n + 1) (seat μ h.n (s.heap.objs.size + 1)) (upd (upd H s.heap.objs.size (.own (s.heap.objs.size + 1))) (s.heap.objs.size + 1) (.ins (g.ca c) s.heap.objs.size [])) (.obj h.n) (.ref (s.heap.objs.size + 1)) := by
    have e : s.heap.objs.size + 1 = seat μ h.n (s.heap.objs.size + 1) h.n := seat_same.symm
    conv => rhs; rw [e]
    exact .obj (Nat.lt_succ_self _)
  have rr : RWs g.K (h.n + 1) (seat μ h.n (s.heap.objs.size + 1)) (upd (upd H s.heap.objs.size (.own (s.heap.objs.size + 1))) (s.heap.objs.size + 1) (.ins (g.ca c) s.heap.objs.size [])) (fillD d (.obj h.n :: ws)) (V.ref (s.heap.objs.size + 1) :: (vs ++ dvs)) :=
    .cons ro ((r.up u2).append (hr _ _ _))
  have hs : spM g k c "__init__" (V.ref (s.heap.objs.size + 1) :: (vs ++ dvs)) (upd (upd H s.heap.objs.size (.own (s.heap.objs.size + 1))) (s.heap.objs.size + 1) (.ins (g.ca c) s.heap.objs.size [])) (fun v H2 => v = .non ∧ Q (.ref (s.heap.objs.size + 1)) H2) (WE Wx σ) :=
    ⟨by rw [rr.length, l, F.np c _ d e], _, _, _, _, X', R2, rr, z, fun w h' μ' H' v zz R' u' r' => by
      obtain ⟨rfl, zz⟩ := zz
      cases r'
      exact ⟨rfl, q _ _ _ _ _ zz R' (u2.trans u') (ro.up u')⟩, xo.up u2⟩
  have r2 : Vals (V.ref (s.heap.objs.size + 1) :: (vs ++ dvs)) (Value.ref (s.heap.objs.size + 1) :: (us ++ ds)) := .cons rfl (rv.append hd)
  have hl : (Value.ref (s.heap.objs.size + 1) :: us ++ ds).length = (g.ps c "__init__").length := r2.length.symm.trans (FF.len _ _ _ _ hs)
  refine wpAny_call (make_map (f := g.fa c "__init__") I.kIn M.makes M.init (beq_iff_eq.mp M.fn) (codeAny_mono (FF.run _ X.stack _ _ ⟨Value.ref (s.heap.objs.size + 1) :: us, []⟩ (Value.ref (s.heap.objs.size + 1) :: (us ++ ds)) _ _ _ (O.room.make (g.ca c) us [])
    (I2.env0.make (g.ca c) us []) (hb _ (Value.ref (s.heap.objs.size + 1) :: us) I2.kIn hl) r2 hs) fun r s' hq => ?_))
  match r, hq with
  | .error e, hq => exact passAt O.takes σ pins _ _ e s' I2 hq
  | .ok (.ret u), hq =>
    obtain ⟨v, H', I3, rv, ev, q3⟩ := I2.after hq
    subst ev
    exact ⟨rv, ⟨V.ref (s.heap.objs.size + 1), H', I3, rfl, q3⟩⟩
  | .ok .next, hq => exact False.elim hq
  | .ok .brk, hq => exact False.elim hq
  | .ok .cont, hq => exact False.elim hq
theorem l_mk (F : FSt g) (FN : FnsOk g k) (O : CxOk g k N sc Wx X) {n : Str} (hg : isGlob sc n = true) (hc : n ∈ g.G.cls) (hf : (g.G.fn n "__init__").isSome = true) (hs : es.all notStar = true) (ha : PA X es (EWs g k Wx xs)) :
    PE X (.Call (.Name n p) es [] pos) (EW g k Wx (.mk n xs)) := by
  refine ⟨fun pins s σ H Q I hh => ?_⟩
  obtain ⟨μ, loc, h, Q', X', R, L, z, q, xo⟩ := hh
  obtain ⟨d, hd⟩ := Option.isSome_iff_exists.mp hf
  obtain ⟨g1, g2⟩ := O.gl hg
  obtain ⟨m1, M⟩ := F.mkC n hc d hd
  refine wpAny_Call_Name_kw (ld_glob I g1 (by rw [O.mg]; exact m1) ?_ g2)
  refine callWith_es I (by rw [O.K]; exact M.kp) hs ha ⟨μ, loc, h, _, X', R, L, z, fun ws h1 μ1 H1 vs z1 R1 u1 r1 us s1 I1 rv => ?_, xo⟩
  exact run_mk F FN O hc I1 rv R1 r1 z1 (q.up u1) (xo.up u1)
/-! ### built-ins by name -/
theorem biTab_ok {n : Str} {b : Bi} (h : biTab.lookup n = some b) : bootBuiltins n = some (biV b) ∧ n ∈ freeNames ∧ n ≠ "__name__" := by
  have := PySem.mem_of_lookup h
  simp only [biTab, List.mem_cons, Prod.mk.injEq, List.not_mem_nil, or_false] at this
  rcases this with ⟨rfl, rfl⟩ | ⟨rfl, rfl⟩ | ⟨rfl, rfl⟩ | ⟨rfl, rfl⟩ | ⟨rfl, rfl⟩ | ⟨rfl, rfl⟩ | ⟨rfl, rfl⟩ | ⟨rfl, rfl⟩ <;> exact ⟨by rfl, by decide, by decide⟩
theorem l_blt (F : FSt g) (O : CxOk g k N sc Wx X) {n : Str} {bi : Bi} (hg : isGlob sc n = true) (hb : biTab.lookup n = some bi) (hs : (a :: es).all notStar = true) (ha : PA X (a :: es) (EWs g k Wx xs)) :
    PE X (.Call (.Name n p) (a :: es) [] pos) (EW g k Wx (.blt bi xs)) := by
  obtain ⟨b1, b2, b3⟩ := biTab_ok hb
  obtain ⟨g1, g2⟩ := O.gl hg
  have hm : X.mg n = none := by rw [O.mg]; exact F.free n b2
  rw [List.all_cons, Bool.and_eq_true] at hs
  have hst := starEach_ns (es := es) (env := X.env) hs.1
  have hpl : (backTo pos (starEach es X.env)).any (·.1) = false := back_plain hs.2
  have go : PE X (.Call (.Name n p) (a :: es) [] pos) (tCB (rsM g (wpBi bi)) (EWs g k Wx xs)) := by
    have cr : CallR X (biV bi) (rsM g (wpBi bi)) := s_bi O.K O.calm bi
    cases bi <;> first | exact pe_callB cr g1 hm b1 ha b3 g2 hst hpl | exact pe_callTy cr g1 hm b1 ha b3 g2 hst hpl
  refine go.imp fun σ H Q hh => ?_
  obtain ⟨μ, loc, h, Q', X', R, L, z, q, xo⟩ := hh
  exact ⟨μ, loc, h, _, X', R, L, z, fun ws h1 μ1 H1 vs z1 R1 u1 r1 => ⟨ws, h1, μ1, Q', R1, r1, z1, q.up u1⟩, xo⟩
end
end MP
set_option Elab.async false
set_option linter.all false
set_option maxRecDepth 100000
set_option maxHeartbeats 1000000
/-! SndE4: methods, isinstance. -/
namespace MP
open PySem L2 PySem.Spec PyProof.Rows
section
variable {g : GE} {k : Nat} {N : List Str} {sc : Scope} {Wx : WX} {X : Cx} {a b c : Expr} {x y e3 : E} {pos p apos : Pos} {es : List Expr} {xs : Es}
theorem back_len {es : List Expr} {env : Env} (h : es.all notStar = true) : (backTo pos (starEach es env)).all (!·.1) = true := by
  have := back_plain (pos := pos) (env := env) h
  rw [List.all_eq_not_any_not]
  simp only [Bool.not_not]
  rw [this]; rfl
theorem meth_tree {env : Env} {o : Expr} {m : Str} (ho : notSuper o = true) (hl : (apos.endLine == pos.line) = true) (hs : es.all notStar = true) (hn : es.length < 20) :
    eval (.Call (.Attribute o m apos) es [] pos) env = (do
      let ov ← eval o env
      standAt apos.atName
      let (f, first) ← holding [ov] (getMethod ov m (plainOf o env))
      callWith pos f first (backTo pos (starEach es env)) (backToKw pos (keywordEach [] env))) := by
  refine mcall_of (base_plain ho) fun ov => ?_
  refine mcall_line ?_ hl
  unfold methodCallForm
  rw [back_len hs]
  have e : backToKw pos (keywordEach [] env) = [] := rfl
  rw [e]
  simp only [List.all_nil, List.isEmpty_nil, Bool.true_and, if_true, List.length_nil, Nat.add_zero, decide_eq_true_eq]
  omega
theorem meTab_ok {m : Str} {t : Tk} (h : meOk ((meTab.lookup m).getD .own) t = true) : m = meN ((meTab.lookup m).getD .own) := by
  cases e : meTab.lookup m with
  | none => rw [e] at h; cases t <;> cases h
  | some v =>
    have := PySem.mem_of_lookup e
    simp only [meTab, List.mem_cons, Prod.mk.injEq, List.not_mem_nil, or_false] at this
    rcases this with ⟨rfl, rfl⟩ | ⟨rfl, rfl⟩ | ⟨rfl, rfl⟩ | ⟨rfl, rfl⟩ <;> rfl
theorem Rl.insAt {h : MH} {μ : Nat → Addr} {H : Hp} {n : Nat} {c : Str} {fs : List (Str × W)} (R : Rl g h μ H) (e : h.g n = some (.ins c fs)) : n < h.n ∧ ∃ dx vs, H (μ n) = some (.ins (g.ca c) dx vs) ∧ FR g.K h.n μ H fs vs ∧ c ∈ g.G.cls := by
  obtain ⟨h1, dx, vs, h2, h3, h4, _⟩ := R.cell n _ e
  exact ⟨h1, dx, vs, h2, h3, h4⟩
theorem l_meth (F : FSt g) (FN : FnsOk g k) (O : CxOk g k N sc Wx X) {m : Str} (ho : notSuper a = true) (hl : (apos.endLine == pos.line) = true) (hs : es.all notStar = true) (hn : es.length < 20) (hx : PE X a (EW g k Wx x)) (ha : PA X es (EWs g k Wx xs)) :
    PE X (.Call (.Attribute a m apos) es [] pos) (EW g k Wx (.meth x m ((meTab.lookup m).getD .own) xs)) := by
  refine ⟨fun pins s σ H Q I hh => ?_⟩
  obtain ⟨μ, loc, h, Q', X', R, L, z, q, xo⟩ := hh
  refine PySem.W.methodCall_KW (pl := plainOf a X.env) (thn (hx.run pins s σ H (fun v H1 => ∃ w h1 μ1, Rl g h1 μ1 H1 ∧ Up h.n μ H h1.n μ1 H1 ∧ RW g.K h1.n μ1 H1 w v ∧
      ((∃ n c fs, w = .obj n ∧ h1.g n = some (.ins c fs) ∧ (fs.lookup m = none ∧ (g.G.fn c m).isSome = true) ∧ wpEs (callAt g.G k) g.G xs loc h1 (fun ws h2 => callAt g.G k c m (w :: ws) h2 Q' X') X') ∨
      (∃ t, (KindR h1 w t ∧ meOk ((meTab.lookup m).getD .own) t = true) ∧ wpEs (callAt g.G k) g.G xs loc h1 (fun ws h2 => wpMe ((meTab.lookup m).getD .own) t w ws h2 Q') X')))
    I ⟨μ, loc, h, _, X', R, L, z, fun w h1 μ1 H1 v z1 R1 u1 r1 => ⟨w, h1, μ1, R1, u1, r1, z1⟩, xo⟩) fun u s1 ⟨v, H1, I1, rv, w, h1, μ1, R1, u1, r1, z1⟩ => ?_) (meth_tree ho hl hs hn)
  rcases z1 with ⟨n, c, fs, rfl, e1, ⟨e2, e3⟩, z1⟩ | ⟨t, ⟨kr, ok⟩, z1⟩
  · obtain ⟨d, hd⟩ := Option.isSome_iff_exists.mp e3
    obtain ⟨h2, dx, vs, h3, h4, h5⟩ := R1.insAt e1
    cases r1
    obtain rfl : u = Value.ref (μ1 n) := rv
    have M := F.meth c h5 m d hd
    rw [← O.K] at M
    refine getmeth_ok I1 h3 (by rw [O.K]; exact F.kok.cls c h5) M (h4.lookup_none e2) ?_
    refine callWith_es (first := [.ref (μ1 n)]) I1 M.kp hs ha ⟨μ1, loc, h1, _, X', R1, L.up u1, z1, fun ws h2 μ2 H2 vs z2 R2 u2 r2 us s2 I2 rv2 => ?_, xo.up u1⟩
    exact run_own F FN O I2 (.cons (show RelV (V.ref (μ1 n)) (Value.ref (μ1 n)) from rfl) rv2) R2 (.cons ((RW.obj (by assumption)).up u2) r2) z2 (q.up (u1.trans u2)) (xo.up (u1.trans u2))
  · obtain ⟨f1, f2, f3⟩ := me_facts _ t ok
    obtain ⟨k1, k2⟩ := KindR.is O.K I1 R1 r1 rv kr ok
    rw [← meTab_ok ok] at f2
    refine PySem.getMethod_builtin k1 f1 f2 f3 k2 ?_
    refine callWith_bt (first := [u]) I1 hs ha ⟨μ1, loc, h1, _, X', R1, L.up u1, z1, fun ws h2 μ2 H2 vs z2 R2 u2 r2 us s2 I2 rv2 => ?_, xo.up u1⟩
    exact s_me O.K _ t O.calm I2 rv rv2 R2 (r1.up u2) r2 z2 (q.up (u1.trans u2))
/-! ### isinstance -/
theorem tyTab_ok {n : Str} {t : Ty} (h : tyTab.lookup n = some t) : (∃ T, bootBuiltins n = some (.type T) ∧ ∀ g, tyV' g t = .ty T) ∧ n ∈ freeNames ∧ n ≠ "__name__" ∧ ∀ g, tyOk g t := by
  have := PySem.mem_of_lookup h
  simp only [tyTab, List.mem_cons, Prod.mk.injEq, List.not_mem_nil, or_false] at this
  rcases this with ⟨rfl, rfl⟩ | ⟨rfl, rfl⟩ | ⟨rfl, rfl⟩ | ⟨rfl, rfl⟩ | ⟨rfl, rfl⟩ | ⟨rfl, rfl⟩ <;> exact ⟨⟨_, by rfl, fun _ => rfl⟩, by decide, by decide, fun _ => trivial⟩
theorem e_ty (F : FSt g) (O : CxOk g k N sc Wx X) {n : Str} {t : Ty} (hg : isGlob sc n = true) (h : tyOf g.G n = some t) : PE X (.Name n p) (fun _ H Q => Q (tyV' g t) H) ∧ tyOk g t := by
  obtain ⟨g1, g2⟩ := O.gl hg
  unfold tyOf at h
  split at h
  · rename_i t' e
    cases h
    obtain ⟨⟨T, b1, b2⟩, b3, b4, b5⟩ := tyTab_ok e
    refine ⟨⟨fun pins s σ H Q I hh => ?_⟩, b5 g⟩
    have hm : X.mg n = none := by rw [O.mg]; exact F.free n b3
    rw [b2] at hh
    exact ld_blt I g1 hm b1 ⟨.ty T, H, I, rfl, hh⟩ b4 g2
  · split at h
    · rename_i e
      cases h
      have e' : n ∈ g.G.cls ++ g.G.exs := List.contains_iff_mem.mp e
      refine ⟨⟨fun pins s σ H Q I hh => ?_⟩, e'⟩
      exact ld_glob I g1 (by rw [O.mg]; exact F.clsG n e') ⟨.ref (g.ca n), H, I, rfl, hh⟩ g2
    · cases h
theorem l_isi (F : FSt g) (O : CxOk g k N sc Wx X) {t : Str} {ty : Ty} {p2 : Pos} (hg : isGlob sc "isinstance" = true) (ht : isGlob sc t = true) (hty : tyOf g.G t = some ty) (hs : notStar a = true) (ha : PE X a (EW g k Wx x)) :
    PE X (.Call (.Name "isinstance" p) [a, .Name t p2] [] pos) (EW g k Wx (.isi x ty)) := by
  obtain ⟨e1, e2⟩ := e_ty (p := p2) F O ht hty
  obtain ⟨g1, g2⟩ := O.gl hg
  have hm : X.mg "isinstance" = none := by rw [O.mg]; exact F.free _ (by decide)
  refine (pe_callB (s_isi F.kok O.K ty e2) g1 hm rfl (pa_cons ha (pa_cons e1 pa_nil) (starEach_ns hs)) (he := starEach_ns hs)).imp fun σ H Q hh => ?_
  obtain ⟨μ, loc, h, Q', X', R, L, z, q, xo⟩ := hh
  refine ⟨μ, loc, h, _, X', R, L, z, fun w h1 μ1 H1 v z1 R1 u1 r1 => ?_, xo⟩
  obtain ⟨b, e, z1⟩ := z1
  exact ⟨v, w, h1, μ1, Q', b, rfl, R1, r1, e, z1, q.up u1⟩
end
end MP
set_option Elab.async false
set_option linter.all false
set_option maxRecDepth 100000
set_option maxHeartbeats 1000000
/-! SndE5: what a loop walks; targets. -/
namespace MP
open PySem L2 PySem.Spec PyProof.Rows
/-- an iterator that walks these items -/
def ItOk (g : GE) (xs : List W) (gd : MH → Prop) (J : It) (n : Nat) (μ : Nat → Addr) (H : Hp) : Prop := ∀ h2 μ2 H2, Rl g h2 μ2 H2 → Up n μ H h2.n μ2 H2 → gd h2 → ∀ i, (xs.length ≤ i → J.stop i H2) ∧
  ∀ x, xs[i]? = some x → J.go i H2 ∧ ∀ v H3, J.yld i H2 v H3 → Rl g h2 μ2 H3 ∧ Up h2.n μ2 H2 h2.n μ2 H3 ∧ RW g.K h2.n μ2 H3 x v
def IM (g : GE) (Wx : WX) (m : Loc → MH → QI → QX → Prop) : TI := fun σ H R => ∃ μ loc h R' X', Rl g h μ H ∧ LR g.K h.n μ H loc σ ∧ m loc h R' X' ∧
  (∀ xs gd h' μ' H' J, R' xs gd h' → Rl g h' μ' H' → Up h.n μ H h'.n μ' H' → ItOk g xs gd J h'.n μ' H' → R J H') ∧ XOk g h.n μ H X' σ Wx
section
variable {g : GE} {k : Nat} {N : List Str} {sc : Scope} {Wx : WX} {X : Cx} {a b c tg : Expr} {x y e3 : E} {pos p apos : Pos} {es : List Expr} {xs : Es}
theorem itt_ok {xs : List W} {vs : List V} {a : Addr} {gd : MH → Prop} {h : MH} {μ : Nat → Addr} {H : Hp} (hs : SqT g.K H a vs) (r : RWs g.K h.n μ H xs vs) : ItOk g xs gd (Itt g.K a) h.n μ H := fun h2 μ2 H2 R u _ i => by
  have hs2 := rd_up u hs
  have r2 := r.up u
  refine ⟨fun hl => ⟨vs, hs2, by rw [r2.length]; exact hl⟩, fun x hx => ?_⟩
  obtain ⟨v, hv, rv⟩ := r2.get hx
  refine ⟨⟨vs, v, hs2, hv⟩, fun v' H3 ⟨e, y⟩ => ?_⟩
  subst e
  have := (y vs hs2).symm.trans hv
  cases this
  exact ⟨R, .refl, rv⟩
theorem itl_ok {xs : List W} {vs : List V} {a : Addr} {gd : MH → Prop} {h : MH} {μ : Nat → Addr} {H : Hp}
    (hs : ∀ h2 μ2 H2, Rl g h2 μ2 H2 → Up h.n μ H h2.n μ2 H2 → gd h2 → ∃ vs, SqL g.K H2 a vs ∧ RWs g.K h2.n μ2 H2 xs vs) : ItOk g xs gd (Itl g.K a) h.n μ H := fun h2 μ2 H2 R u gg i => by
  obtain ⟨vs, hs2, r2⟩ := hs h2 μ2 H2 R u gg
  refine ⟨fun hl => ⟨vs, hs2, by rw [r2.length]; exact hl⟩, fun x hx => ?_⟩
  obtain ⟨v, hv, rv⟩ := r2.get hx
  refine ⟨⟨vs, v, hs2, hv⟩, fun v' H3 ⟨e, y⟩ => ?_⟩
  subst e
  have := (y vs hs2).symm.trans hv
  cases this
  exact ⟨R, .refl, rv⟩
theorem lstR_later {xs : List W} {w : W} {v : V} {h : MH} {μ : Nat → Addr} {H : Hp} (R : Rl g h μ H) (r : RW g.K h.n μ H w v) (l : LstR h w xs) : ∃ a vs, v = .ref a ∧ SqL g.K H a vs ∧ RWs g.K h.n μ H xs vs ∧
    ∀ h2 μ2 H2, Rl g h2 μ2 H2 → Up h.n μ H h2.n μ2 H2 → LstR h2 w xs → ∃ vs, SqL g.K H2 a vs ∧ RWs g.K h2.n μ2 H2 xs vs := by
  cases r with
  | scr h1 h2 =>
    obtain rfl : _ = xs := l
    exact ⟨_, _, rfl, h1.sq, h2, fun h2' μ2 H2 R2 u _ => ⟨_, (fz_up u h1).sq, h2.up u⟩⟩
  | @obj n hn =>
    obtain ⟨_, vs, f, rs⟩ := R.lst l
    refine ⟨_, vs, rfl, .of f, rs, fun h2 μ2 H2 R2 u l2 => ?_⟩
    obtain ⟨_, vs2, f2, rs2⟩ := R2.lst l2
    exact ⟨vs2, by rw [← u.ag n hn]; exact .of f2, rs2⟩
  | _ => exact l.elim
theorem i_e (O : CxOk g k N sc Wx X) (ha : PE X a (EW g k Wx x)) : PI X tg a (IM g Wx (wpI (callAt g.G k) g.G (.e x))) := by
  refine ⟨fun pins s σ H Rr I hh => ?_⟩
  obtain ⟨μ, loc, h, R', X', R, L, z, q, xo⟩ := hh
  refine thn (ha.run pins s σ H (fun v H1 => ∃ w h1 μ1 xs gd, Rl g h1 μ1 H1 ∧ Up h.n μ H h1.n μ1 H1 ∧ RW g.K h1.n μ1 H1 w v ∧ ItemsR h1 w xs gd ∧ R' xs gd h1) I ⟨μ, loc, h, _, X', R, L, z, fun w h1 μ1 H1 v z1 R1 u1 r1 => ?_, xo⟩) fun u s1 ⟨v, H1, I1, rv, w, h1, μ1, xs, gd, R1, u1, r1, it, z1⟩ => ?_
  · obtain ⟨xs, gd, it, z1⟩ := z1
    exact ⟨w, h1, μ1, xs, gd, R1, u1, r1, it, z1⟩
  have lst : ∀ {a : Addr} {vs : List V}, v = .ref a → SqL g.K H1 a vs → ItOk g xs gd (Itl g.K a) h1.n μ1 H1 → wpAny (model X.prog X.w) X.A (pyIter u) (PIE X pins σ tg Rr) X.xe s1 := fun {a vs} ev hq ok => by
    subst ev
    cases rv
    obtain ⟨its, _, p, hz⟩ := I1.list (by rw [O.K]; exact hq)
    refine wpAny_pyIter_list p.isList (pi_one (tk := s1.toks) I1 _ (turn_list a _) ⟨_, Heap.get?_push_size _ rfl, rfl, rfl⟩ ?_)
    rw [O.K]
    exact q _ _ _ _ _ _ z1 R1 u1 ok
  cases r1 with
  | tup h1' h2' =>
    obtain ⟨rfl, rfl⟩ := it
    cases rv
    obtain ⟨its, _, p, hz⟩ := I1.tuple (by rw [O.K]; exact h1')
    refine wpAny_pyIter_tuple (show s1.heap.IsTuple _ its.toArray from p) (pi_one (tk := s1.toks) I1 _ (turn_tuple _ _) ⟨_, Heap.get?_push_size _ rfl, rfl, rfl⟩ ?_)
    rw [O.K]
    exact q _ _ _ _ _ _ z1 R1 u1 (itt_ok h1' h2')
  | scr h1' h2' =>
    obtain ⟨rfl, rfl⟩ := it
    exact lst rfl h1'.sq (itl_ok (vs := []) fun h2 μ2 H2 R2 u2 _ => ⟨_, (fz_up u2 h1').sq, h2'.up u2⟩)
  | @obj n hn =>
    obtain ⟨e, rfl⟩ := it
    obtain ⟨_, vs, f, rs⟩ := R1.lst e
    refine lst rfl (.of f) (itl_ok (vs := []) fun h2 μ2 H2 R2 u2 l2 => ?_)
    obtain ⟨_, vs2, f2, rs2⟩ := R2.lst l2
    exact ⟨vs2, by rw [← u2.ag n hn]; exact .of f2, rs2⟩
  | str t =>
    obtain ⟨rfl, rfl⟩ := it
    obtain ⟨tk, rfl⟩ := rv
    have ok : ItOk g (t.cps.toList.map fun c => W.str ⟨#[c]⟩) (fun _ => True) (Its t) h1.n μ1 H1 := fun h2 μ2 H2 R2 u2 _ i => by
      refine ⟨fun hl => (by simpa using hl : t.cps.size ≤ i), fun x hx => ?_⟩
      rw [List.getElem?_map, Array.getElem?_toList] at hx
      cases e : t.cps[i]? with
      | none => rw [e] at hx; cases hx
      | some c =>
        rw [e] at hx
        cases hx
        refine ⟨(Array.getElem?_eq_some_iff.mp e).1, fun v H3 ⟨e3, c', e4, e5⟩ => ?_⟩
        subst e3 e5
        rw [e] at e4
        cases e4
        exact ⟨R2, .refl, .str _⟩
    have fin := q _ _ _ _ _ _ z1 R1 u1 ok
    cases ha : t.cps.all (· < 128)
    · exact wpAny_pyIter_wide ha (pi_one (tk := s1.toks) I1 _ (turn_str _ t tk "str_iterator" (.inr rfl)) ⟨_, Heap.get?_push_size _ rfl, rfl, rfl⟩ fin)
    · exact wpAny_pyIter_ascii ha (pi_one (tk := s1.toks) I1 _ (turn_str _ t tk "str_ascii_iterator" (.inl rfl)) ⟨_, Heap.get?_push_size _ rfl, rfl, rfl⟩ fin)
  | _ => exact it.elim
theorem itr_ok {lo : Int} {n : Nat} {gd : MH → Prop} {h : MH} {μ : Nat → Addr} {H : Hp} : ItOk g ((List.range n).map fun i => W.int (lo + (i : Nat))) gd (Itr lo n) h.n μ H := fun h2 μ2 H2 R2 u2 _ i => by
  refine ⟨fun hl => (by simpa using hl : n ≤ i), fun x hx => ?_⟩
  rw [List.getElem?_map] at hx
  by_cases hi : i < n
  · rw [List.getElem?_range hi] at hx
    cases hx
    refine ⟨hi, fun v H3 ⟨e3, e4⟩ => ?_⟩
    subst e3 e4
    exact ⟨R2, .refl, .int _⟩
  · rw [List.getElem?_eq_none (by simpa using hi)] at hx; cases hx
theorem itc_ok {lo c : Int} {n : Nat} {gd : MH → Prop} {h : MH} {μ : Nat → Addr} {H : Hp} : ItOk g ((List.range n).map fun i => W.int (lo + (i : Nat) * c)) gd (Itc lo c n) h.n μ H := fun h2 μ2 H2 R2 u2 _ i => by
  refine ⟨fun hl => (by simpa using hl : n ≤ i), fun x hx => ?_⟩
  rw [List.getElem?_map] at hx
  by_cases hi : i < n
  · rw [List.getElem?_range hi] at hx
    cases hx
    refine ⟨hi, fun v H3 ⟨e3, e4⟩ => ?_⟩
    subst e3 e4
    exact ⟨R2, .refl, .int _⟩
  · rw [List.getElem?_eq_none (by simpa using hi)] at hx; cases hx
theorem ite_ok {xs : List W} {w : W} {a : Addr} {h : MH} {μ : Nat → Addr} {H : Hp}
    (hs : ∀ h2 μ2 H2, Rl g h2 μ2 H2 → Up h.n μ H h2.n μ2 H2 → LstR h2 w xs → ∃ vs, SqL g.K H2 a vs ∧ RWs g.K h2.n μ2 H2 xs vs) : ItOk g (numbered xs) (fun h' => LstR h' w xs) (Ite g.K a) h.n μ H := fun h2 μ2 H2 R u gg i => by
  obtain ⟨vs, hs2, r2⟩ := hs h2 μ2 H2 R u gg
  have hln : (numbered xs).length = xs.length := by simp [numbered]
  refine ⟨fun hl => ⟨vs, hs2, by rw [r2.length, ← hln]; exact hl⟩, fun x hx => ?_⟩
  unfold numbered at hx
  rw [List.getElem?_map, List.getElem?_zipIdx] at hx
  cases e : xs[i]? with
  | none => rw [e] at hx; cases hx
  | some y =>
    rw [e] at hx
    have hx' : W.tup [.int ((0 + i : Nat) : Int), y] = x := Option.some.inj hx
    obtain ⟨v, hv, rv⟩ := r2.get e
    refine ⟨⟨vs, v, hs2, hv⟩, fun v' H3 ⟨T, x', e1, e2, e3, e4⟩ => ?_⟩
    have := (e4 vs hs2).symm.trans hv
    cases this
    subst e1 e3
    obtain ⟨a1, a2, a3⟩ := R.newTup e2 (.cons (.int (i : Nat)) (.cons rv .nil))
    rw [← hx', Nat.zero_add]
    exact ⟨a1, a2, a3⟩
theorem boot_free (F : FSt g) (O : CxOk g k N sc Wx X) {n : Str} (hg : isGlob sc n = true) (hn : n ∈ freeNames) : Gl X n ∧ X.mg n = none := ⟨(O.gl hg).1, by rw [O.mg]; exact F.free n hn⟩
theorem i_rng1 (F : FSt g) (O : CxOk g k N sc Wx X) (hg : isGlob sc "range" = true) (hs : notStar a = true) (ha : PE X a (EW g k Wx x)) : PI X tg (.Call (.Name "range" p) [a] [] pos) (IM g Wx (wpI (callAt g.G k) g.G (.rng1 x))) := by
  obtain ⟨g1, g2⟩ := boot_free F O hg (by decide)
  have pi : PI X tg (.Call (.Name "range" p) [a] [] pos) _ := pi_range1 g1 g2 (pa_cons ha pa_nil (starEach_ns hs)) (starEach_ns hs)
  refine ⟨fun pins s σ H Rr I hh => pi.run pins s σ H Rr I ?_⟩
  obtain ⟨μ, loc, h, R', X', R, L, z, q, xo⟩ := hh
  refine ⟨μ, loc, h, _, X', R, L, z, fun w h1 μ1 H1 v z1 R1 u1 r1 => ?_, xo⟩
  obtain ⟨j, rfl, b1, b2, z1⟩ := z1
  cases r1
  refine ⟨j, rfl, b1, b2, q _ _ _ _ _ _ z1 R1 u1 ?_⟩
  have := @itr_ok g 0 j.toNat (fun _ => True) h1 μ1 H1
  simpa using this
theorem i_rng2 (F : FSt g) (O : CxOk g k N sc Wx X) (hg : isGlob sc "range" = true) (hs : notStar a = true) (hs2 : notStar b = true) (ha : PE X a (EW g k Wx x)) (hb : PE X b (EW g k Wx y)) :
    PI X tg (.Call (.Name "range" p) [a, b] [] pos) (IM g Wx (wpI (callAt g.G k) g.G (.rng2 x y))) := by
  obtain ⟨g1, g2⟩ := boot_free F O hg (by decide)
  have e2 : starEach [b] X.env = [(false, eval b X.env)] := starEach_ns hs2
  have e1 : starEach [a, b] X.env = [(false, eval a X.env), (false, eval b X.env)] := by rw [starEach_ns hs, e2]
  have pi : PI X tg (.Call (.Name "range" p) [a, b] [] pos) _ := pi_range2 g1 g2 (pa_cons ha (pa_cons hb pa_nil e2) (starEach_ns hs)) e1 e2
  refine ⟨fun pins s σ H Rr I hh => pi.run pins s σ H Rr I ?_⟩
  obtain ⟨μ, loc, h, R', X', R, L, z, q, xo⟩ := hh
  refine ⟨μ, loc, h, _, X', R, L, z, fun w h1 μ1 H1 v z1 R1 u1 r1 => ⟨μ1, loc, h1, _, X', R1, L.up u1, z1, fun w2 h2 μ2 H2 v2 z2 R2 u2 r2 => ?_, xo.up u1⟩, xo⟩
  obtain ⟨i, j, rfl, rfl, b1, b2, b3, b4, z2⟩ := z2
  cases r1
  cases r2
  exact ⟨i, j, rfl, ⟨b1, b2, b3, b4⟩, q _ _ _ _ _ _ z2 R2 (u1.trans u2) itr_ok⟩
theorem i_rng3 (F : FSt g) (O : CxOk g k N sc Wx X) (hg : isGlob sc "range" = true) (hs : notStar a = true) (hs2 : notStar b = true) (hs3 : notStar c = true) (ha : PE X a (EW g k Wx x)) (hb : PE X b (EW g k Wx y)) (hc : PE X c (EW g k Wx e3)) :
    PI X tg (.Call (.Name "range" p) [a, b, c] [] pos) (IM g Wx (wpI (callAt g.G k) g.G (.rng3 x y e3))) := by
  obtain ⟨g1, g2⟩ := boot_free F O hg (by decide)
  have pi : PI X tg (.Call (.Name "range" p) [a, b, c] [] pos) _ := pi_range3 g1 g2 (pa_cons ha (pa_cons hb (pa_cons hc pa_nil (starEach_ns hs3)) (starEach_ns hs2)) (starEach_ns hs)) (starEach_ns hs) (back_plain (by rw [List.all_cons, List.all_cons, hs2, hs3]; rfl))
  refine ⟨fun pins s σ H Rr I hh => pi.run pins s σ H Rr I ?_⟩
  obtain ⟨μ, loc, h, R', X', R, L, z, q, xo⟩ := hh
  refine ⟨μ, loc, h, _, X', R, L, z, fun w h1 μ1 H1 v z1 R1 u1 r1 => ⟨μ1, loc, h1, _, X', R1, L.up u1, z1, fun w2 h2 μ2 H2 v2 z2 R2 u2 r2 => ⟨μ2, loc, h2, _, X', R2, L.up (u1.trans u2), z2, fun w3 h3 μ3 H3 v3 z3 R3 u3 r3 => ?_, xo.up (u1.trans u2)⟩, xo.up u1⟩, xo⟩
  obtain ⟨i, j, s', n, rfl, rfl, rfl, rg, z3⟩ := z3
  cases r1
  cases r2
  cases r3
  exact ⟨i, j, s', n, rfl, rg, q _ _ _ _ _ _ z3 R3 ((u1.trans u2).trans u3) itc_ok⟩
theorem i_enum (F : FSt g) (O : CxOk g k N sc Wx X) {elts : List Expr} {kk : Nat} {tpos : Pos} (hg : isGlob sc "enumerate" = true) (hs : notStar a = true) (ha : PE X a (EW g k Wx x)) :
    PI X (.Tuple elts kk tpos) (.Call (.Name "enumerate" p) [a] [] pos) (IM g Wx (wpI (callAt g.G k) g.G (.enum x))) := by
  obtain ⟨g1, g2⟩ := boot_free F O hg (by decide)
  have pi : PI X (.Tuple elts kk tpos) (.Call (.Name "enumerate" p) [a] [] pos) _ := pi_enum g1 g2 (pa_cons ha pa_nil (starEach_ns hs)) (starEach_ns hs)
  refine ⟨fun pins s σ H Rr I hh => pi.run pins s σ H Rr I ?_⟩
  obtain ⟨μ, loc, h, R', X', R, L, z, q, xo⟩ := hh
  refine ⟨μ, loc, h, _, X', R, L, z, fun w h1 μ1 H1 v z1 R1 u1 r1 => ?_, xo⟩
  obtain ⟨xs, l, z1⟩ := z1
  obtain ⟨a', vs, rfl, hq, _, later⟩ := lstR_later R1 r1 l
  refine ⟨a', vs, rfl, by rw [O.K]; exact hq, ?_⟩
  rw [O.K]
  exact q _ _ _ _ _ _ z1 R1 u1 (ite_ok later)
end
end MP
set_option Elab.async false
set_option linter.all false
set_option maxRecDepth 100000
set_option maxHeartbeats 1000000
/-! SndE6: targets, comprehensions. -/
namespace MP
open PySem L2 PySem.Spec PyProof.Rows
/-! ### targets -/
def setV : List Nat → List V → L2.St → L2.St
  | i :: is, v :: vs, σ => setV is vs (σ.set i (some v))
  | _, _, σ => σ
theorem setV_length : ∀ {is : List Nat} {vs : List V} {σ : L2.St}, (setV is vs σ).length = σ.length
  | [], _, _ => rfl
  | _ :: _, [], _ => rfl
  | i :: is, v :: vs, σ => by show (setV is vs _).length = _; rw [setV_length, List.length_set]
theorem setV_other {j : Nat} : ∀ {is : List Nat} {vs : List V} {σ : L2.St}, j ∉ is → (setV is vs σ)[j]? = σ[j]?
  | [], _, _, _ => rfl
  | _ :: _, [], _, _ => rfl
  | i :: is, v :: vs, σ, h => by
    simp only [List.mem_cons, not_or] at h
    show (setV is vs _)[j]? = _
    rw [setV_other h.2, List.getElem?_set_ne (Ne.symm h.1)]
def gAll (is : List Nat) : TGs := fun vs σ H Q => vs.length = is.length ∧ Q (setV is vs σ) H
section
variable {g : GE} {k : Nat} {N : List Str} {sc : Scope} {Wx : WX} {X : Cx} {K : PySem.W.Frag} {n : Nat} {μ : Nat → Addr} {H : Hp} {a b c tg : Expr} {x y e3 : E} {pos p apos : Pos} {es : List Expr} {xs : Es}
theorem LR.set2 {loc : Loc} {σ : L2.St} {i : Nat} {w : W} {v : V} (r : LR K n μ H loc σ) (hw : RW K n μ H w v) (hi : i < σ.length) : LR K n μ H (loc.set i (some w)) (σ.set i (some v)) := fun j x e => by
  by_cases hj : j = i
  · subst hj
    by_cases hl : j < loc.length
    · rw [List.getElem?_set_self hl] at e
      cases e
      exact ⟨v, by rw [List.getElem?_set_self hi], hw⟩
    · rw [List.getElem?_eq_none (by simpa using hl)] at e; cases e
  · rw [List.getElem?_set_ne (Ne.symm hj)] at e ⊢
    exact r j x e
theorem LR.setAll : ∀ {is : List Nat} {xs : List W} {vs : List V} {loc : Loc} {σ : L2.St}, LR K n μ H loc σ → RWs K n μ H xs vs → (∀ i ∈ is, i < σ.length) → LR K n μ H (setAll is xs loc) (setV is vs σ)
  | [], _, _, _, _, L, _, _ => by simpa [MP.setAll, setV] using L
  | i :: is, _, _, loc, σ, L, .nil, _ => by simpa [MP.setAll, setV] using L
  | i :: is, _, _, loc, σ, L, .cons (x := x) (v := v) (xs := xs) (vs := vs) hw r, hi => by
    show LR K n μ H (MP.setAll is xs (loc.set i (some x))) (setV is vs (σ.set i (some v)))
    exact LR.setAll (L.set2 hw (hi i List.mem_cons_self)) r fun j hj => by rw [List.length_set]; exact hi j (List.mem_cons_of_mem _ hj)
def tgIx : Tg → List Nat
  | .one i => [i] | .many is => is
/-- a target's reading -/
def GM (g : GE) (tg : Tg) : TG := fun v σ H Q => ∃ μ h x loc loc', Rl g h μ H ∧ LR g.K h.n μ H loc σ ∧ RW g.K h.n μ H x v ∧ BindR h tg x loc loc' ∧
  ∀ σ', σ'.length = σ.length → (∀ j, j ∉ tgIx tg → σ'[j]? = σ[j]?) → LR g.K h.n μ H loc' σ' → Q σ' H
/-- names that may be stored -/
def StOk (X : Cx) (st : Str → Bool) : Prop := ∀ x, st x = true → L2.Loc X.env.scope x ∧ (X.fn x = true ∨ X.env.scope.names.lookup x = some .local)
theorem idxOf_get {x : Str} {i : Nat} (e : N.idxOf? x = some i) : N[i]? = some x := by
  have := List.findIdx?_eq_some_iff_getElem.mp e
  obtain ⟨hl, hb, _⟩ := this
  rw [List.getElem?_eq_getElem hl]
  exact congrArg some (eq_of_beq hb)
theorem pg_one (hN : X.N = N) (nd : N.Nodup) {st : Str → Bool} (hs : StOk X st) {x : Str} {i : Nat} (h1 : st x = true) (h2 : N.idxOf? x = some i) : PG X (.Name x pos) (gName i) := by
  obtain ⟨h3, h4⟩ := hs x h1
  exact pg_name (by rw [hN]; exact nd) (by rw [hN]; exact idxOf_get h2) h3 h4
theorem pgs_all (hN : X.N = N) (nd : N.Nodup) {st : Str → Bool} (hs : StOk X st) : ∀ {es : List Expr} {is : List Nat}, tgOf.names N st es = some is →
    PGs X es (gAll is) ∧ (assignEach es X.env).length = is.length ∧ (assignEach es X.env).findIdx? (·.1) = none ∧ ∀ i ∈ is, ∃ x, N.idxOf? x = some i ∧ st x = true
  | [], is, h => by
    cases h
    refine ⟨⟨fun pins s σ H vs us Q I r hh => ?_⟩, rfl, rfl, fun i hi => by cases hi⟩
    obtain ⟨l, q⟩ := hh
    have : vs = [] := List.length_eq_zero_iff.mp l
    subst this
    exact pgs_nil.run pins s σ H _ us Q I r ⟨rfl, q⟩
  | .Name x p :: r, is, h => by
    unfold tgOf.names at h
    split at h
    · rename_i h0
      split at h
      · rename_i i is' h1 h2
        cases h
        obtain ⟨a1, a2, a3, a4⟩ := pgs_all hN nd hs h2
        refine ⟨⟨fun pins s σ H vs us Q I rr hh => ?_⟩, ?_, ?_, fun j hj => ?_⟩
        · obtain ⟨l, q⟩ := hh
          cases vs with
          | nil => cases l
          | cons v vs => exact (pgs_cons (pg_one hN nd hs h0 h1) a1).run pins s σ H _ us Q I rr ⟨v, vs, rfl, by simpa using l, q⟩
        · show (assignEach r X.env).length + 1 = _
          rw [a2]; rfl
        · show List.findIdx? (·.1) ((false, assign (.Name x p) X.env) :: assignEach r X.env) = none
          rw [List.findIdx?_cons]
          simp only [Bool.false_eq_true, if_false]
          rw [a3]; rfl
        · rcases List.mem_cons.mp hj with rfl | hj
          · exact ⟨x, h1, h0⟩
          · exact a4 j hj
      · cases h
    · cases h
theorem g_ok (O : CxOk g k N sc Wx X) {st : Str → Bool} (hs : StOk X st) {t : Tg} (h : tgOf N st tg = some t) : PG X tg (GM g t) ∧ ∀ i ∈ tgIx t, ∃ x, N.idxOf? x = some i ∧ st x = true := by
  unfold tgOf at h
  split at h
  · rename_i x p
    split at h
    · rename_i h0
      cases e : N.idxOf? x with
      | none => rw [e] at h; cases h
      | some i =>
        rw [e] at h
        cases h
        refine ⟨⟨fun pins s σ H v u Q I r hh => ?_⟩, fun j hj => ?_⟩
        · obtain ⟨μ, h, w, loc, loc', R, L, rw', bd, q⟩ := hh
          obtain rfl : loc' = loc.set i (some w) := bd
          have hi : i < σ.length := by
            rw [I.len, O.hN]
            exact (List.getElem?_eq_some_iff.mp (idxOf_get e)).1
          exact (pg_one O.hN O.nd hs h0 e).run pins s σ H v u Q I r (q _ (by rw [List.length_set]) (fun j hj => by rw [List.getElem?_set_ne]; intro z; exact hj (by rw [← z]; exact List.mem_cons_self)) (L.set2 rw' hi))
        · obtain rfl : j = i := by simpa [tgIx] using hj
          exact ⟨x, e, h0⟩
    · cases h
  · rename_i es kk p
    cases e : tgOf.names N st es with
    | none => rw [e] at h; cases h
    | some is =>
      rw [e] at h
      cases h
      obtain ⟨a1, a2, a3, a4⟩ := pgs_all O.hN O.nd hs e
      refine ⟨⟨fun pins s σ H v u Q I r hh => ?_⟩, a4⟩
      obtain ⟨μ, h, w, loc, loc', R, L, rw', ⟨ws, sq, hl, rfl⟩, q⟩ := hh
      obtain ⟨a, vs, rfl, hsq, rs⟩ := sq.rd R rw'
      have hi : ∀ i ∈ is, i < σ.length := fun i hi => by
        obtain ⟨x, e, _⟩ := a4 i hi
        rw [I.len, O.hN]
        exact (List.getElem?_eq_some_iff.mp (idxOf_get e)).1
      have fin : gAll is vs σ H Q := ⟨by rw [rs.length]; exact hl, q _ setV_length (fun j hj => setV_other hj) (L.setAll rs hi)⟩
      have hvl : vs.length = is.length := by rw [rs.length]; exact hl
      rcases hsq with hsq | hsq
      · exact (pg_lst O.calm a1 a2 a3).run pins s σ H _ u Q I r ⟨a, vs, rfl, by rw [O.K]; exact hsq, hvl, fin⟩
      · exact (pg_tup O.calm a1 a2 a3).run pins s σ H _ u Q I r ⟨a, vs, rfl, by rw [O.K]; exact hsq, hvl, fin⟩
  · cases h
/-! ### a list that is not the small language's yet -/
mutual
theorem RW.kp {n' : Nat} {μ' : Nat → Addr} {H' : Hp} (hl : n ≤ n') (ag : ∀ i, i < n → μ' i = μ i) (ht : ∀ a vs, H a = some (.tup vs) → H' a = some (.tup vs)) (hf : ∀ a o u, H a = some (.frz o u) → H' a = some (.frz o u)) : ∀ {x : W} {v : V}, RW K n μ H x v → RW K n' μ' H' x v
  | _, _, .non => .non
  | _, _, .bl b => .bl b
  | _, _, .int i => .int i
  | _, _, .str x => .str x
  | _, _, .tup h r => .tup (by
      rcases h with (h | ⟨o, h⟩) | h
      · exact .inl (.inl (ht _ _ h))
      · exact .inl (.inr ⟨o, hf _ _ _ h⟩)
      · exact .inr h) (RWs.kp hl ag ht hf r)
  | _, _, .obj (n := i) h => by rw [← ag i h]; exact .obj (Nat.lt_of_lt_of_le h hl)
  | _, _, .scr h r => .scr (by
      rcases h with ⟨o, h⟩ | h
      · exact .inl ⟨o, hf _ _ _ h⟩
      · exact .inr h) (RWs.kp hl ag ht hf r)
theorem RWs.kp {n' : Nat} {μ' : Nat → Addr} {H' : Hp} (hl : n ≤ n') (ag : ∀ i, i < n → μ' i = μ i) (ht : ∀ a vs, H a = some (.tup vs) → H' a = some (.tup vs)) (hf : ∀ a o u, H a = some (.frz o u) → H' a = some (.frz o u)) : ∀ {xs : List W} {vs : List V}, RWs K n μ H xs vs → RWs K n' μ' H' xs vs
  | _, _, .nil => .nil
  | _, _, .cons h r => .cons (RW.kp hl ag ht hf h) (RWs.kp hl ag ht hf r)
end
theorem CR.kp {n' : Nat} {μ' : Nat → Addr} {H' : Hp} {a : Addr} {c : Cell} (hl : n ≤ n') (ag : ∀ i, i < n → μ' i = μ i) (ht : ∀ a vs, H a = some (.tup vs) → H' a = some (.tup vs)) (hf : ∀ a o u, H a = some (.frz o u) → H' a = some (.frz o u))
    (hx : ∀ a vs, H a = some (.xd vs) → H' a = some (.xd vs) ∧ ∀ i, n ≤ i → i < n' → μ' i ≠ a) (ea : H' a = H a) (r : CR g n μ H a c) : CR g n' μ' H' a c := by
  have kf : ∀ {fs vs}, FR g.K n μ H fs vs → FR g.K n' μ' H' fs vs := fun r => Paired.mapP r fun _ _ q => ⟨q.1, q.2.kp hl ag ht hf⟩
  cases c with
  | lst xs =>
    obtain ⟨ws, e1, e2⟩ := r
    exact ⟨ws, ea.trans e1, e2.kp hl ag ht hf⟩
  | ins c fs =>
    obtain ⟨dx, ws, e1, e2, e3⟩ := r
    exact ⟨dx, ws, ea.trans e1, kf e2, e3⟩
  | exc c fs =>
    obtain ⟨d, e1, e2, e3⟩ := r
    refine ⟨d, ea.trans e1, ?_, e3⟩
    cases fs with
    | nil => exact e2
    | cons f fs =>
      obtain ⟨dx, ws, d1, d2, d3, d4⟩ := e2
      refine ⟨dx, ws, d1, (hx _ _ d2).1, kf d3, fun i hi => ?_⟩
      by_cases h1 : i < n
      · rw [ag i h1]; exact d4 i h1
      · exact (hx _ _ d2).2 i (Nat.le_of_not_lt h1) hi
section
variable {h : MH} {D : Addr} {vs us : List V} (hD : H D = some (.lst vs)) (hu : ∀ i, i < h.n → μ i ≠ D)
include hD in
theorem touch_t : ∀ a ws, H a = some (.tup ws) → upd H D (.lst us) a = some (.tup ws) := fun a ws e => by rw [upd_ne]; exact e; intro q; rw [q, hD] at e; cases e
include hD in
theorem touch_f : ∀ a o u, H a = some (.frz o u) → upd H D (.lst us) a = some (.frz o u) := fun a o u e => by rw [upd_ne]; exact e; intro q; rw [q, hD] at e; cases e
include hD in
theorem RWs.touch {xs : List W} {ws : List V} (r : RWs K n μ H xs ws) : RWs K n μ (upd H D (.lst us)) xs ws := r.kp (Nat.le_refl _) (fun _ _ => rfl) (touch_t hD) (touch_f hD)
include hD hu in
theorem Rl.touch (R : Rl g h μ H) : Rl g h μ (upd H D (.lst us)) := by
  refine ⟨R.inj, fun i hi q => ?_, fun i c e => ?_⟩
  · rw [upd_ne (hu i hi)] at q
    exact R.ocp i hi q
  · obtain ⟨h1, h2⟩ := R.cell i c e
    exact ⟨h1, h2.kp (Nat.le_refl _) (fun _ _ => rfl) (touch_t hD) (touch_f hD) (fun a ws e => ⟨(by rw [upd_ne]; exact e; intro q; rw [q, hD] at e; cases e), fun i h1 h2 => absurd h1 (Nat.not_le.mpr h2)⟩) (upd_ne (hu i h1))⟩
include hD hu in
/-- the list is taken up -/
theorem Rl.adopt {xs : List W} (R : Rl g h μ H) (r : RWs g.K h.n μ H xs vs) : Rl g (h.alloc (.lst xs)) (seat μ h.n D) H := by
  have ag : ∀ i, i < h.n → seat μ h.n D i = μ i := fun i hi => seat_ne (Nat.ne_of_lt hi)
  refine ⟨fun i j hi hj e => ?_, fun i hi => ?_, fun i c e => ?_⟩
  · have hi : i < h.n + 1 := hi
    have hj : j < h.n + 1 := hj
    by_cases h1 : i = h.n
    · by_cases h2 : j = h.n
      · rw [h1, h2]
      · rw [h1, seat_same, seat_ne h2] at e
        exact absurd e.symm (hu j (by omega))
    · by_cases h2 : j = h.n
      · rw [h2, seat_same, seat_ne h1] at e
        exact absurd e (hu i (by omega))
      · rw [seat_ne h1, seat_ne h2] at e
        exact R.inj i j (by omega) (by omega) e
  · have hi : i < h.n + 1 := hi
    by_cases h1 : i = h.n
    · rw [h1, seat_same, hD]; intro q; cases q
    · rw [seat_ne h1]; exact R.ocp i (by omega)
  · by_cases h1 : i = h.n
    · subst h1
      have e' : (if h.n = h.n then some (Cell.lst xs) else h.g h.n) = some c := e
      rw [if_pos rfl] at e'
      cases e'
      exact ⟨Nat.lt_succ_self _, vs, by rw [seat_same]; exact hD, r.kp (Nat.le_succ _) ag (fun _ _ z => z) (fun _ _ _ z => z)⟩
    · have e' : (if i = h.n then some (Cell.lst xs) else h.g i) = some c := e
      rw [if_neg h1] at e'
      obtain ⟨h2, h3⟩ := R.cell i c e'
      refine ⟨Nat.lt_succ_of_lt h2, ?_⟩
      rw [ag i h2]
      exact h3.kp (Nat.le_succ _) ag (fun _ _ z => z) (fun _ _ _ z => z) (fun a ws e => ⟨e, fun j h4 h5 => by
        obtain rfl : j = h.n := by have : j < h.n + 1 := h5; omega
        rw [seat_same]; intro q; rw [q, e] at hD; cases hD⟩) rfl
end
theorem Up.touch {N' : Nat} {μ' : Nat → Addr} {H' : Hp} {D : Addr} {o : HO} (u : Up n μ H N' μ' H') (hD : H D = none) : Up n μ H N' μ' (upd H' D o) where
  le := u.le
  ag := u.ag
  new := u.new
  dom := fun a e => by
    by_cases q : a = D
    · rw [q, upd_same] at e; cases e
    · rw [upd_ne q] at e; exact u.dom a e
  tups := fun a vs e => by rw [upd_ne (ne_of_none e hD)]; exact u.tups a vs e
  frzs := fun a x v e => by rw [upd_ne (ne_of_none e hD)]; exact u.frzs a x v e
  rest := fun a x e hn => by rw [upd_ne (ne_of_none e hD)]; exact u.rest a x e hn
theorem Up.adopt {N' : Nat} {μ' : Nat → Addr} {H' : Hp} {D : Addr} (u : Up n μ H N' μ' H') (hD : H D = none) : Up n μ H (N' + 1) (seat μ' N' D) H' where
  le := Nat.le_succ_of_le u.le
  ag := fun i hi => (seat_ne (Nat.ne_of_lt (Nat.lt_of_lt_of_le hi u.le))).trans (u.ag i hi)
  new := fun i h1 h2 => by
    by_cases q : i = N'
    · rw [q, seat_same]; exact hD
    · rw [seat_ne q]; exact u.new i h1 (by omega)
  dom := u.dom
  tups := u.tups
  frzs := u.frzs
  rest := u.rest
/-! ### comprehensions -/
theorem wipeL_LR {loc : MP.Loc} {σ : L2.St} (L : LR K n μ H loc σ) : ∀ vs : List Nat, LR K n μ H (wipeL loc vs) (wipe σ vs)
  | [] => L
  | v :: vs => (wipeL_LR L vs).none
theorem wipe_get {σ : L2.St} {i : Nat} : ∀ {vs : List Nat}, i ∈ vs → i < σ.length → (wipe σ vs)[i]? = some none
  | v :: vs, hm, hi => by
    show ((wipe σ vs).set v none)[i]? = _
    by_cases e : v = i
    · subst e
      rw [List.getElem?_set_self (by rw [wipe_length]; exact hi)]
    · rw [List.getElem?_set_ne e]
      exact wipe_get ((List.mem_cons.mp hm).resolve_left (Ne.symm e)) hi
theorem wipe_out' {σ : L2.St} {i : Nat} : ∀ {vs : List Nat}, i ∉ vs → (wipe σ vs)[i]? = σ[i]?
  | [], _ => rfl
  | v :: vs, h => by
    simp only [List.mem_cons, not_or] at h
    show ((wipe σ vs).set v none)[i]? = _
    rw [List.getElem?_set_ne (Ne.symm h.1), wipe_out' h.2]
theorem wipe_eq {σ σ' : L2.St} {is vs : List Nat} (hl : σ'.length = (wipe σ vs).length) (hs : ∀ j, j ∉ is → σ'[j]? = (wipe σ vs)[j]?) (hi : ∀ i ∈ is, i ∈ vs) : wipe σ' vs = wipe σ vs := by
  rw [wipe_length] at hl
  refine List.ext_getElem? fun j => ?_
  by_cases hj : j < σ.length
  · by_cases hm : j ∈ vs
    · rw [wipe_get hm hj, wipe_get hm (by rw [hl]; exact hj)]
    · rw [wipe_out' hm, hs j fun h => hm (hi j h)]
  · rw [List.getElem?_eq_none (by rw [wipe_length, hl]; omega), List.getElem?_eq_none (by rw [wipe_length]; omega)]
/-- a turn's reading -/
def StepOk (g : GE) (step : MP.Loc → MH → (Option W → MH → Prop) → Prop) (tt : TT) (te : TE) : Prop := ∀ (μ : Nat → Addr) (loc : MP.Loc) (h : MH) (σ : L2.St) (H : Hp) (Kq : Option W → MH → Prop) (Sm : VK) (Nn : Hp → Prop), Rl g h μ H → LR g.K h.n μ H loc σ → step loc h Kq →
  (∀ y h' μ' H' v, Kq (some y) h' → Rl g h' μ' H' → Up h.n μ H h'.n μ' H' → RW g.K h'.n μ' H' y v → Sm v H') → (∀ h' μ' H', Kq none h' → Rl g h' μ' H' → Up h.n μ H h'.n μ' H' → Nn H') →
  tt σ H fun b H3 => if b = true then te σ H3 Sm else Nn H3
theorem lc_turns {i : I} {t : Tg} {own : List Nat} {step : MP.Loc → MH → (Option W → MH → Prop) → Prop} {tt : TT} {te : TE} (hst : StepOk g step tt te) (ho : ∀ j ∈ tgIx t, j ∈ own) {σ : L2.St} {Q : VK}
    (hh : ∃ μ loc h Q' X', Rl g h μ H ∧ LR g.K h.n μ H loc σ ∧ wpI (callAt g.G k) g.G i loc h (fun xs gd h1 => wpTurns gd t step (wipeL loc own) xs [] h1 fun ys h3 => Q' (.obj h3.n) (h3.alloc (.lst ys))) X' ∧ QOk g h.n μ H Q' Q ∧ XOk g h.n μ H X' σ Wx) :
    tLc (IM g Wx (wpI (callAt g.G k) g.G i)) (GM g t) tt te own σ H Q := by
  obtain ⟨μ, loc, h, Q', X', R, L, z, q, xo⟩ := hh
  refine ⟨μ, loc, h, _, X', R, L, z, fun xs gd h1 μ1 H1 J z1 R1 u1 ok => ?_, xo⟩
  intro D hD
  let QF : List W → MH → Prop := fun ys h3 => Q' (.obj h3.n) (h3.alloc (.lst ys))
  refine ⟨fun j m H' => ∃ hi μi acc vs, Rl g hi μi H' ∧ Up h1.n μ1 H1 hi.n μi H' ∧ H' D = some (.lst vs) ∧ (∀ l, l < hi.n → μi l ≠ D) ∧ RWs g.K hi.n μi H' acc vs ∧ j ≤ xs.length ∧ m = xs.length - j ∧ wpTurns gd t step (wipeL loc own) (xs.drop j) acc hi QF,
    ⟨xs.length, h1, μ1, [], [], R1.more (upd_more hD), Up.more (upd_more hD), upd_same, fun l hl e => R1.ocp l hl (e ▸ hD), .nil, Nat.zero_le _, by simp, z1⟩, ?_⟩
  rintro j m H' ⟨hi, μi, acc, vs, Ri, ui, hDi, hun, ra, hj, rfl, zt⟩
  by_cases hlt : j < xs.length
  · rw [List.drop_eq_getElem_cons hlt] at zt
    obtain ⟨gg, loc', bd, zs⟩ := zt
    obtain ⟨_, it⟩ := ok hi μi H' Ri ui gg j
    obtain ⟨go, yl⟩ := it xs[j] (List.getElem?_eq_getElem hlt)
    refine .inr ⟨go, _, fun H'' nx => ⟨xs.length - (j + 1), by omega, nx⟩, fun v H3 y3 => ?_⟩
    obtain ⟨R3, u3, r3⟩ := yl v H3 y3
    have L3 : LR g.K hi.n μi H3 (wipeL loc own) (wipe σ own) := wipeL_LR (((L.up u1).up ui).up u3) own
    have hD3 : H3 D = some (.lst vs) := u3.rest D _ hDi hun
    refine ⟨μi, hi, _, _, loc', R3, L3, r3, by
      cases t with
      | one i => exact bd
      | many is => exact bd, fun σ' e1 e2 L' => ⟨wipe_eq e1 e2 ho, ?_⟩⟩
    refine hst μi loc' hi σ' H3 _ _ _ R3 L' zs (fun y h' μ' H'' v' zk R4 u4 r4 => ?_) (fun h' μ' H'' zk R4 u4 => ?_)
    · obtain ⟨hz, zk⟩ := zk
      have hD4 : H'' D = some (.lst vs) := u4.rest D _ hD3 hun
      have hun4 : ∀ l, l < h'.n → μ' l ≠ D := fun l hl e => by
        by_cases h5 : l < hi.n
        · exact hun l h5 ((u4.ag l h5).symm.trans e)
        · have := u4.new l (Nat.le_of_not_lt h5) hl
          rw [e, hD3] at this; cases this
      refine ⟨vs, hD4, by rw [ra.length]; exact hz, h', μ', acc ++ [y], vs ++ [v'], R4.touch hD4 hun4, ((ui.trans u3).trans u4).touch hD, upd_same, hun4, RWs.touch hD4 (((ra.up u3).up u4).append (.cons r4 .nil)), hlt, rfl, zk⟩
    · have hD4 : H'' D = some (.lst vs) := u4.rest D _ hD3 hun
      have hun4 : ∀ l, l < h'.n → μ' l ≠ D := fun l hl e => by
        by_cases h5 : l < hi.n
        · exact hun l h5 ((u4.ag l h5).symm.trans e)
        · have := u4.new l (Nat.le_of_not_lt h5) hl
          rw [e, hD3] at this; cases this
      exact ⟨h', μ', acc, vs, R4, (ui.trans u3).trans u4, hD4, hun4, (ra.up u3).up u4, hlt, rfl, zk⟩
  · have e : xs.drop j = [] := List.drop_eq_nil_of_le (by omega)
    rw [e] at zt
    obtain ⟨gg, zq⟩ := zt
    refine .inl ⟨(ok hi μi H' Ri ui gg j).1 (by omega), ?_⟩
    have ro : RW g.K (hi.n + 1) (seat μi hi.n D) H' (.obj hi.n) (.ref D) := by
      have e : D = seat μi hi.n D hi.n := seat_same.symm
      conv => rhs; rw [e]
      exact .obj (Nat.lt_succ_self _)
    exact q _ _ _ _ _ zq (Ri.adopt hDi hun ra) (u1.trans (ui.adopt hD)) ro
end
end MP
set_option Elab.async false
set_option linter.all false
set_option maxRecDepth 100000
set_option maxHeartbeats 1000000
/-! SndE7: every compiled expression. -/
namespace MP
open PySem L2 PySem.Spec PyProof.Rows
section
variable {g : GE} {k : Nat} {N : List Str} {sc bsc : Scope} {Wx : WX} {X : Cx} {a b c tg iter elt : Expr} {x y e3 : E} {pos p apos : Pos} {es : List Expr} {xs : Es}
abbrev W0 : WX := fun _ _ _ _ => False
theorem blk_ok (O : CxOk g k N sc Wx X) (s : Shared) (H : Hp) (C : Addr) (cl : List (Str × Addr)) (fp : List Addr) : CxOk g k N (relS bsc sc) W0 (X.blk s H bsc (compEnvC bsc cl C X.env) fp) where
  P := O.P
  w := O.w
  K := O.K
  mg := O.mg
  base := O.base
  calm := O.calm
  hN := O.hN
  nd := O.nd
  sc := by rw [← O.sc]; rfl
  takes := takes0
  po := PassesOwn.never
  room := O.room
theorem blk_st (O : CxOk g k N sc Wx X) (s : Shared) (H : Hp) (C : Addr) (cl : List (Str × Addr)) (fp : List Addr) : StOk (X.blk s H bsc (compEnvC bsc cl C X.env) fp) (storable bsc) := fun x h => by
  have h' : bsc.names.lookup x = some .local ∨ bsc.names.lookup x = some .cell := by
    unfold storable at h
    rcases Bool.or_eq_true _ _ |>.mp h with h | h
    · exact .inl (eq_of_beq h)
    · exact .inr (eq_of_beq h)
  rcases h' with h' | h'
  · have e : (relS bsc X.env.scope).names.lookup x = some .local := lookup_relS_keep (by decide) h'
    exact ⟨.inl e, .inr e⟩
  · have e : (relS bsc X.env.scope).names.lookup x = some .cell := lookup_relS_keep (by decide) h'
    exact ⟨.inr e, .inl (by show (bsc.names.lookup x == some .cell) = true; rw [h']; rfl)⟩
theorem own_ix {x : Str} {i : Nat} (h1 : N.idxOf? x = some i) (h2 : storable bsc x = true) : i ∈ (ownOf' N bsc).map (·.2) := by
  have h' : ∃ kd, bsc.names.lookup x = some kd ∧ (kd == .local || kd == .cell) = true := by
    unfold storable at h2
    rcases Bool.or_eq_true _ _ |>.mp h2 with h | h
    · exact ⟨_, eq_of_beq h, rfl⟩
    · exact ⟨_, eq_of_beq h, rfl⟩
  obtain ⟨kd, h3, h4⟩ := h'
  refine List.mem_map.mpr ⟨(x, i), ?_, rfl⟩
  unfold ownOf'
  refine List.mem_filterMap.mpr ⟨(x, kd), PySem.mem_of_lookup h3, ?_⟩
  rw [if_pos h4, h1]
  rfl
theorem names_ix {st : Str → Bool} : ∀ {es : List Expr} {is : List Nat}, tgOf.names N st es = some is → ∀ i ∈ is, ∃ x, N.idxOf? x = some i ∧ st x = true
  | [], is, h, i, hi => by cases h; cases hi
  | e :: r, is, h, i, hi => by
    cases e <;> first | (cases h; done) | skip
    rename_i x p
    unfold tgOf.names at h
    split at h
    · rename_i h0
      split at h
      · rename_i j is' h1 h2
        cases h
        rcases List.mem_cons.mp hi with rfl | hi
        · exact ⟨x, h1, h0⟩
        · exact names_ix h2 i hi
      · cases h
    · cases h
theorem tg_ix {st : Str → Bool} {t : Tg} (h : tgOf N st tg = some t) : ∀ i ∈ tgIx t, ∃ x, N.idxOf? x = some i ∧ st x = true := fun j hj => by
  unfold tgOf at h
  split at h
  · rename_i x p
    split at h
    · rename_i h0
      cases e : N.idxOf? x with
      | none => rw [e] at h; cases h
      | some i =>
        rw [e] at h
        cases h
        obtain rfl : j = i := by simpa [tgIx] using hj
        exact ⟨x, e, h0⟩
    · cases h
  · rename_i es kk p
    cases e : tgOf.names N st es with
    | none => rw [e] at h; cases h
    | some is => rw [e] at h; cases h; exact names_ix e j hj
  · cases h
theorem fold_ok {env : Env} {f : Expr → Option E} {i : I} {n : Nat} (h : itOf g.G sc tg (compE g.G N n sc) iter = some i) : ∀ x, foldedSetIterable iter env x = pure x := by
  cases iter <;> first
    | (intro _; rfl)
    | (exfalso
       simp only [itOf] at h
       cases n with
       | zero => simp [compE] at h
       | succ n => simp [compE] at h)
/-- both lc and lcif -/
theorem l_lcAll (O : CxOk g k N sc Wx X) {n : Nat} {i : I} {t : Tg} {ifs : List Expr} {tt : TT} {step : MP.Loc → MH → (Option W → MH → Prop) → Prop} (hb : blkC N sc bsc (ownOf' N bsc) = true) (ht : tgOf N (storable bsc) tg = some t) (hi : itOf g.G sc tg (compE g.G N n sc) iter = some i)
    (pi : PI X tg iter (IM g Wx (wpI (callAt g.G k) g.G i))) (hts : ∀ X', CxOk g k N (relS bsc sc) W0 X' → PTs X' ifs tt) (he : ∀ X', CxOk g k N (relS bsc sc) W0 X' → PE X' elt (EW g k W0 x)) (hst : StepOk g step tt (EW g k W0 x)) :
    PE X (.ListComp elt [⟨tg, iter, ifs, 0⟩] bsc pos) (EM g Wx fun loc h Q Xq => wpI (callAt g.G k) g.G i loc h (fun xs gd h1 => wpTurns gd t step (wipeL loc ((ownOf' N bsc).map (·.2))) xs [] h1 fun ys h3 => Q (.obj h3.n) (h3.alloc (.lst ys))) Xq) := by
  have ok : BlkOk X.N X.env.scope bsc (ownOf' N bsc) := by rw [O.hN, O.sc]; exact blkOk_by hb
  have gi : ∀ j ∈ tgIx t, j ∈ (ownOf' N bsc).map (·.2) := fun j hj => by
    have h2 := tg_ix ht
    obtain ⟨x, e1, e2⟩ := h2 j hj
    exact own_ix e1 e2
  refine (pe_lc O.calm (by rw [O.hN]; exact O.nd) pi ok (fun s H C cl fp => (g_ok (blk_ok O s H C cl fp) (blk_st O s H C cl fp) ht).1) (fun s H C cl fp => hts _ (blk_ok O s H C cl fp)) (fun s H C cl fp => he _ (blk_ok O s H C cl fp)) (fold_ok (f := fun _ => none) hi)).imp fun σ H Q hh => ?_
  exact lc_turns hst gi hh
theorem st_lc : StepOk g (fun l h2 K => wpE (callAt g.G k) g.G x l h2 (fun y h3 => K (some y) h3) fun _ _ => False) tYes (EW g k W0 x) := fun μ loc h σ H Kq Sm Nn R L z h1 h2 => by
  show (if true = true then EW g k W0 x σ H Sm else Nn H)
  rw [if_pos rfl]
  exact ⟨μ, loc, h, _, _, R, L, z, fun w h' μ' H' v zz R' u' r' => h1 w h' μ' H' v zz R' u' r', fun _ _ _ _ _ _ zz => zz.elim⟩
theorem st_lcif : StepOk g (fun l h2 K => wpE (callAt g.G k) g.G y l h2 (fun x1 h3 => ∃ b, Tru h3 x1 b ∧ if b = true then wpE (callAt g.G k) g.G x l h3 (fun y h4 => K (some y) h4) (fun _ _ => False) else K none h3) fun _ _ => False) (TW g k W0 y) (EW g k W0 x) := fun μ loc h σ H Kq Sm Nn R L z h1 h2 => by
  refine ⟨μ, loc, h, fun b h3 => if b = true then wpE (callAt g.G k) g.G x loc h3 (fun y h4 => Kq (some y) h4) (fun _ _ => False) else Kq none h3, _, R, L, z, fun b h' μ' H' zz R' u' => ?_, fun _ _ _ _ _ _ zz => zz.elim⟩
  cases b with
  | true => exact ⟨μ', loc, h', _, _, R', L.up u', zz, fun w h4 μ4 H4 v z4 R4 u4 r4 => h1 w h4 μ4 H4 v z4 R4 (u'.trans u4) r4, fun _ _ _ _ _ _ zz => zz.elim⟩
  | false => exact h2 h' μ' H' zz R' u'
/-! ### lists of expressions -/
theorem es_ok {f : Expr → Option E} (hf : ∀ e x, f e = some x → PE X e (EW g k Wx x)) : ∀ {es : List Expr} {xs : Es}, esOf f es = some xs → es.all notStar = true ∧ PA X es (EWs g k Wx xs)
  | [], xs, h => by cases h; exact ⟨rfl, a_nil⟩
  | e :: es, xs, h => by
    unfold esOf at h
    split at h
    · rename_i h0
      split at h
      · rename_i x xs' h1 h2
        cases h
        obtain ⟨a1, a2⟩ := es_ok hf h2
        exact ⟨by rw [List.all_cons, h0, a1]; rfl, a_cons h0 (hf e x h1) a2⟩
      · cases h
    · cases h
theorem and_ok (O : CxOk g k N sc Wx X) {f : Expr → Option E} (hf : ∀ e x, f e = some x → PE X e (EW g k Wx x) ∧ PT X e (TW g k Wx x)) : ∀ {es : List Expr} {x : E}, boOf .and f es = some x → PE X (.BoolOp .And es pos) (EW g k Wx x) ∧ PW X (.BoolOp .And es pos) (TW g k Wx x)
  | [], _, h => by cases h
  | [a], x, h => ⟨pe_one (hf a x h).1, pw_and1 (hf a x h).2⟩
  | a :: b :: r, x, h => by
    unfold boOf at h
    split at h
    · rename_i x1 x2 h1 h2
      cases h
      obtain ⟨a1, a2⟩ := and_ok O hf h2
      exact ⟨l_and O (hf a x1 h1).1 a1, t_and (hf a x1 h1).2 a2⟩
    · cases h
theorem or_ok (O : CxOk g k N sc Wx X) {f : Expr → Option E} (hf : ∀ e x, f e = some x → PE X e (EW g k Wx x) ∧ PT X e (TW g k Wx x)) : ∀ {es : List Expr} {x : E}, boOf .or f es = some x → PE X (.BoolOp .Or es pos) (EW g k Wx x) ∧ PW X (.BoolOp .Or es pos) (TW g k Wx x)
  | [], _, h => by cases h
  | [a], x, h => ⟨pe_one (hf a x h).1, pw_or1 (hf a x h).2⟩
  | a :: b :: r, x, h => by
    unfold boOf at h
    split at h
    · rename_i x1 x2 h1 h2
      cases h
      obtain ⟨a1, a2⟩ := or_ok O hf h2
      exact ⟨l_or O (hf a x1 h1).1 a1, t_or (hf a x1 h1).2 a2⟩
    · cases h
theorem opt_ok {f : Expr → Option E} (hf : ∀ e x, f e = some x → PE X e (EW g k Wx x)) : ∀ {o : Option Expr} {x : E}, optOf f o = some x → PO X o (OM g k Wx x)
  | none, x, h => by cases h; exact o_none
  | some e, x, h => o_some (hf e x h)
theorem it_ok (F : FSt g) (O : CxOk g k N sc Wx X) {f : Expr → Option E} (hf : ∀ e x, f e = some x → PE X e (EW g k Wx x)) {i : I} (h : itOf g.G sc tg f iter = some i) : PI X tg iter (IM g Wx (wpI (callAt g.G k) g.G i)) := by
  have dflt : ∀ {e : Expr}, (f e).map I.e = some i → PI X tg e (IM g Wx (wpI (callAt g.G k) g.G i)) := fun {e} h => by
    cases q : f e with
    | none => rw [q] at h; cases h
    | some x => rw [q] at h; cases h; exact i_e O (hf e x q)
  unfold itOf at h
  split at h
  · rename_i x p a pos
    split at h
    · rename_i c1
      simp only [Bool.and_eq_true, beq_iff_eq] at c1
      obtain ⟨⟨c1, _⟩, rfl⟩ := c1
      split at h
      · rename_i c2
        cases q : f a with
        | none => rw [q] at h; cases h
        | some y => rw [q] at h; cases h; exact i_rng1 F O c1 c2 (hf a y q)
      · cases h
    · split at h
      · rename_i c1
        simp only [Bool.and_eq_true, beq_iff_eq] at c1
        obtain ⟨⟨c1, _⟩, rfl⟩ := c1
        split at h
        · rename_i c2
          rw [Bool.and_eq_true] at c2
          obtain ⟨c2, c3⟩ := c2
          cases q : f a with
          | none => rw [q] at h; cases h
          | some y =>
            rw [q] at h; cases h
            cases tg <;> first | (cases c3; done) | exact i_enum F O c1 c2 (hf a y q)
        · cases h
      · exact dflt h
  · rename_i x p a b pos
    split at h
    · rename_i c1
      simp only [Bool.and_eq_true, beq_iff_eq] at c1
      obtain ⟨⟨c1, _⟩, rfl⟩ := c1
      split at h
      · rename_i c2
        rw [Bool.and_eq_true] at c2
        split at h
        · rename_i y1 y2 q1 q2
          cases h
          exact i_rng2 F O c1 c2.1 c2.2 (hf a y1 q1) (hf b y2 q2)
        · cases h
      · cases h
    · exact dflt h
  · rename_i x p a b c pos
    split at h
    · rename_i c1
      simp only [Bool.and_eq_true, beq_iff_eq] at c1
      obtain ⟨⟨c1, _⟩, rfl⟩ := c1
      split at h
      · rename_i c2
        rw [Bool.and_eq_true, Bool.and_eq_true] at c2
        split at h
        · rename_i y1 y2 y3 q1 q2 q3
          cases h
          exact i_rng3 F O c1 c2.1.1 c2.1.2 c2.2 (hf a y1 q1) (hf b y2 q2) (hf c y3 q3)
        · cases h
      · cases h
    · exact dflt h
  · exact dflt h
theorem call_ok (F : FSt g) (FN : FnsOk g k) (O : CxOk g k N sc Wx X) {f : Expr → Option E} (hf : ∀ e x, f e = some x → PE X e (EW g k Wx x)) {n : Str} {z : E} (h : callOf g.G sc f n es = some z) : PE X (.Call (.Name n p) es [] pos) (EW g k Wx z) := by
  unfold callOf at h
  split at h
  · rename_i hg
    split at h
    · rename_i hfn
      cases q : esOf f es with
      | none => rw [q] at h; cases h
      | some xs => rw [q] at h; cases h; obtain ⟨a1, a2⟩ := es_ok hf q; exact l_call F FN O hg hfn a1 a2
    · split at h
      · rename_i hc
        split at h
        · rename_i hi
          cases q : esOf f es with
          | none => rw [q] at h; cases h
          | some xs => rw [q] at h; cases h; obtain ⟨a1, a2⟩ := es_ok hf q; exact l_mk F FN O hg (List.contains_iff_mem.mp hc) hi a1 a2
        · cases h
      · split at h
        · rename_i hn
          obtain rfl := eq_of_beq hn
          split at h
          · rename_i a t p2
            split at h
            · rename_i c1
              rw [Bool.and_eq_true] at c1
              split at h
              · rename_i e ty q1 q2
                cases h
                exact l_isi F O hg c1.1 q2 c1.2 (hf a e q1)
              · cases h
            · cases h
          · cases h
        · split at h
          · rename_i bi e1 es1 q1
            cases q : esOf f (e1 :: es1) with
            | none => rw [q] at h; cases h
            | some xs => rw [q] at h; cases h; obtain ⟨a1, a2⟩ := es_ok hf q; exact l_blt F O hg q1 a1 a2
          · cases h
  · cases h
/-- expressions whose truth is their value's -/
def isPlainT : Expr → Bool
  | .UnaryOp .Not _ _ => false
  | .BoolOp .. => false
  | .IfExp .. => false
  | .Compare .. => false
  | _ => true
theorem plainT {e : Expr} {env : Env} (h : isPlainT e = true) : ∀ whole, PySem.isTrue e env whole = (do let v ← whole; standAt e.pos; holding [v] (truthy v)) := by
  cases e <;> first | (cases h; done) | (intro _; rfl) | skip
  rename_i op a p
  cases op <;> first | (cases h; done) | (intro _; rfl)
end
end MP
set_option Elab.async false
set_option linter.all false
set_option maxRecDepth 100000
set_option maxHeartbeats 1000000
/-! SndE8: the induction. -/
namespace MP
open PySem L2 PySem.Spec PyProof.Rows
section
variable {g : GE} {k : Nat} {N : List Str} {sc bsc : Scope} {Wx : WX} {X : Cx} {a b c tg iter elt : Expr} {x y e3 : E} {pos p apos : Pos} {es : List Expr} {xs : Es}
theorem plain_ok (O : CxOk g k N sc Wx X) {e : Expr} (h : PE X e (EW g k Wx x)) (hp : isPlainT e = true) : PE X e (EW g k Wx x) ∧ PT X e (TW g k Wx x) := ⟨h, t_plain O h (plainT hp)⟩
theorem slice_plain (h : notSlice b = true) : PlainIx b := by
  cases b <;> first | (cases h; done) | (intro _ _; rfl)
theorem sndE (F : FSt g) (FN : FnsOk g k) : ∀ (n : Nat) (sc : Scope) (e : Expr) (x : E), compE g.G N n sc e = some x → ∀ (Wx : WX) (X : Cx), CxOk g k N sc Wx X → PE X e (EW g k Wx x) ∧ PT X e (TW g k Wx x)
  | 0, _, _, _, h => by cases h
  | n + 1, sc, e, x, h => fun Wx X O => by
    have ih := fun e x h => sndE F FN n sc e x h Wx X O
    have ih1 := fun e x h => (ih e x h).1
    unfold compE at h
    split at h
    · rename_i c _ _
      cases q : constOf c with
      | none => rw [q] at h; cases h
      | some w => rw [q] at h; cases h; exact plain_ok O (l_lit q) rfl
    · rename_i n' _
      split at h
      · rename_i i q
        cases h
        exact plain_ok O (l_var O q) rfl
      · split at h
        · rename_i c1
          rw [Bool.and_eq_true] at c1
          cases h
          exact plain_ok O (l_glo F O c1.1) rfl
        · cases h
    · rename_i a op b _
      split at h
      · rename_i x1 o x2 q1 q2 q3
        cases h
        exact plain_ok O (l_bin O q2 (ih1 _ _ q1) (ih1 _ _ q3)) rfl
      · cases h
    · rename_i a _
      cases q : compE g.G N n sc a with
      | none => rw [q] at h; cases h
      | some w => rw [q] at h; cases h; exact plain_ok O (l_neg (ih1 _ _ q)) rfl
    · rename_i a _
      cases q : compE g.G N n sc a with
      | none => rw [q] at h; cases h
      | some w => rw [q] at h; cases h; exact ⟨l_not O (ih1 _ _ q), t_not (ih _ _ q).2⟩
    · rename_i vs _
      obtain ⟨a1, a2⟩ := and_ok (pos := by assumption) O ih h
      exact ⟨a1, a2.pt⟩
    · rename_i vs _
      obtain ⟨a1, a2⟩ := or_ok (pos := by assumption) O ih h
      exact ⟨a1, a2.pt⟩
    · rename_i a op b _
      split at h
      · cases h
      · rename_i hm
        have hm := Bool.eq_false_iff.mpr hm
        split at h
        · rename_i x1 x2 q1 q2
          cases h
          exact ⟨l_cmp O hm (ih1 _ _ q1) (ih1 _ _ q2), t_cmp O hm (ih1 _ _ q1) (ih1 _ _ q2)⟩
        · cases h
    · rename_i a o1 o2 b c _
      split at h
      · cases h
      · rename_i hm
        have hm := Bool.eq_false_iff.mpr hm
        split at h
        · rename_i x1 x2 x3 q1 q2 q3
          cases h
          exact ⟨l_chn O hm (ih1 _ _ q1) (ih1 _ _ q2) (ih1 _ _ q3), t_chn O hm (ih1 _ _ q1) (ih1 _ _ q2) (ih1 _ _ q3)⟩
        · cases h
    · rename_i c a b _
      split at h
      · rename_i x1 x2 x3 q1 q2 q3
        cases h
        exact ⟨l_ife (ih _ _ q1).2 (ih1 _ _ q2) (ih1 _ _ q3), t_ife (ih _ _ q1).2 (ih _ _ q2).2 (ih _ _ q3).2⟩
      · cases h
    · rename_i es _ _
      cases q : esOf (compE g.G N n sc) es with
      | none => rw [q] at h; cases h
      | some xs => rw [q] at h; cases h; exact plain_ok O (l_tup (es_ok ih1 q).2) rfl
    · rename_i es _
      cases q : esOf (compE g.G N n sc) es with
      | none => rw [q] at h; cases h
      | some xs => rw [q] at h; cases h; exact plain_ok O (l_lst (es_ok ih1 q).2) rfl
    · rename_i a lo hi _ _
      split at h
      · rename_i x1 x2 x3 q1 q2 q3
        cases h
        exact plain_ok O (l_slc O (ih1 _ _ q1) (opt_ok ih1 q2) (opt_ok ih1 q3)) rfl
      · cases h
    · rename_i a i _ _
      split at h
      · rename_i hs
        split at h
        · rename_i x1 x2 q1 q2
          cases h
          exact plain_ok O (l_idx O (slice_plain hs) (ih1 _ _ q1) (ih1 _ _ q2)) rfl
        · cases h
      · cases h
    · rename_i a f _
      split at h
      · rename_i hs
        cases q : compE g.G N n sc a with
        | none => rw [q] at h; cases h
        | some w => rw [q] at h; cases h; exact plain_ok O (l_fld F O hs (ih1 _ _ q)) rfl
      · cases h
    · rename_i o m apos args pos
      split at h
      · rename_i c1
        rw [Bool.and_eq_true, Bool.and_eq_true, decide_eq_true_eq] at c1
        split at h
        · rename_i x1 x2 q1 q2
          cases h
          obtain ⟨a1, a2⟩ := es_ok ih1 q2
          exact plain_ok O (l_meth F FN O c1.1.1 c1.1.2 a1 c1.2 (ih1 _ _ q1) a2) rfl
        · cases h
      · cases h
    · exact plain_ok O (call_ok F FN O ih1 h) rfl
    · rename_i elt tg it ifs bsc _
      split at h
      · rename_i hb
        split at h
        · rename_i t i x1 q1 q2 q3
          have pi := it_ok (tg := tg) F O ih1 q2
          have pe : ∀ X', CxOk g k N (relS bsc sc) W0 X' → PE X' elt (EW g k W0 x1) := fun X' O' => (sndE F FN n _ _ _ q3 W0 X' O').1
          split at h
          · cases h
            exact plain_ok O (l_lcAll O hb q1 q2 pi (fun X' O' => pts_nil) pe st_lc) rfl
          · rename_i c
            split at h
            · rename_i y q4
              cases h
              exact plain_ok O (l_lcAll O hb q1 q2 pi (fun X' O' => pts_one (sndE F FN n _ _ _ q4 W0 X' O').2) pe st_lcif) rfl
            · cases h
          · cases h
        · cases h
      · cases h
    · cases h
end
end MP
set_option Elab.async false
set_option linter.all false
set_option maxRecDepth 100000
set_option maxHeartbeats 1000000
/-! SndS1: statements without a suite. -/
namespace MP
open PySem L2 PySem.Spec PyProof.Rows
theorem _root_.L2.PS.imp2 {X : Cx} {e : Stmt} {t t' : TS} (p : PS X e t) (h : ∀ D σ H, σ.length = X.N.length → t' D σ H → t D σ H) : PS X e t' := ⟨fun pins s σ H D I z => p.run pins s σ H D I (h D σ H I.len z)⟩
theorem _root_.L2.PSs.imp2 {X : Cx} {e : List Stmt} {t t' : TS} (p : PSs X e t) (h : ∀ D σ H, σ.length = X.N.length → t' D σ H → t D σ H) : PSs X e t' := ⟨fun pins s σ H D I z => p.run pins s σ H D I (h D σ H I.len z)⟩
/-- the ends -/
structure EndOk (g : GE) (n : Nat) (μ : Nat → Addr) (H : Hp) (D' : En) (D : Ends) (Wx : WX) : Prop where
  nx : ∀ loc' h' μ' H' σ', D'.nx loc' h' → Rl g h' μ' H' → Up n μ H h'.n μ' H' → LR g.K h'.n μ' H' loc' σ' → D.nx σ' H'
  rt : ∀ w h' μ' H' v, D'.rt w h' → Rl g h' μ' H' → Up n μ H h'.n μ' H' → RW g.K h'.n μ' H' w v → D.rt v H'
  ct : ∀ loc' h' μ' H' σ', D'.ct loc' h' → Rl g h' μ' H' → Up n μ H h'.n μ' H' → LR g.K h'.n μ' H' loc' σ' → D.ct σ' H'
  ex : ∀ e loc' h' μ' H' σ' cls d, D'.ex e loc' h' → Rl g h' μ' H' → Up n μ H h'.n μ' H' → LR g.K h'.n μ' H' loc' σ' → RX g h'.n μ' H' e cls d → Wx cls d σ' H'
def SM (g : GE) (Wx : WX) (m : MP.Loc → MH → En → Prop) : TS := fun D σ H => ∃ μ loc h D', Rl g h μ H ∧ LR g.K h.n μ H loc σ ∧ m loc h D' ∧ EndOk g h.n μ H D' D Wx
section
variable {g : GE} {k : Nat} {N : List Str} {sc bsc : Scope} {Wx : WX} {X : Cx} {n n' : Nat} {μ μ' : Nat → Addr} {H H' : Hp} {D' : En} {D : Ends} {a b c tg iter elt : Expr} {x y e3 : E} {pos pos' p apos : Pos} {es : List Expr} {xs : Es}
theorem EndOk.up (q : EndOk g n μ H D' D Wx) (u : Up n μ H n' μ' H') : EndOk g n' μ' H' D' D Wx where
  nx := fun _ _ _ _ _ z R v => q.nx _ _ _ _ _ z R (u.trans v)
  rt := fun _ _ _ _ _ z R v => q.rt _ _ _ _ _ z R (u.trans v)
  ct := fun _ _ _ _ _ z R v => q.ct _ _ _ _ _ z R (u.trans v)
  ex := fun _ _ _ _ _ _ _ _ z R v => q.ex _ _ _ _ _ _ _ _ z R (u.trans v)
theorem EndOk.xo (q : EndOk g n μ H D' D Wx) {loc : MP.Loc} {σ : L2.St} (L : LR g.K n μ H loc σ) : XOk g n μ H (fun x h1 => D'.ex x loc h1) σ Wx := fun e h' μ' H' cls d z R u rx => q.ex _ _ _ _ _ _ _ _ z R u (L.up u) rx
abbrev SW (g : GE) (k : Nat) (Wx : WX) (s : S) : TS := SM g Wx (wpS (callAt g.G k) g.G s)
abbrev SWs (g : GE) (k : Nat) (Wx : WX) (s : Ss) : TS := SM g Wx (wpSs (callAt g.G k) g.G s)
theorem idx_lt (O : CxOk g k N sc Wx X) {i : Nat} {x : Str} (h : N.idxOf? x = some i) {σ : L2.St} (hl : σ.length = X.N.length) : i < σ.length := by
  rw [hl, O.hN]
  exact (List.getElem?_eq_some_iff.mp (idxOf_get h)).1
theorem q_set (O : CxOk g k N sc Wx X) {i : Nat} {nm : Str} (hi : N.idxOf? nm = some i) : ∀ D σ H, σ.length = X.N.length → SW g k Wx (.set i x) D σ H → tAsg (EW g k Wx x) (gName i) D σ H := fun D σ H hl hh => by
  obtain ⟨μ, loc, h, D', R, L, z, q⟩ := hh
  exact ⟨μ, loc, h, _, _, R, L, z, fun w h1 μ1 H1 v z1 R1 u1 r1 => q.nx _ _ _ _ _ z1 R1 u1 ((L.up u1).set2 r1 (idx_lt O hi hl)), q.xo L⟩
/-- not a comprehension -/
def notComp : Expr → Bool
  | .ListComp .. => false
  | .SetComp .. => false
  | .DictComp .. => false
  | _ => true
theorem sw_f (h : notComp a = true) {t : Option Expr} {l : Nat} {env : Env} : swapsWith a t l env = pure false := by
  cases a <;> first | (cases h; done) | rfl
theorem sole_f (h : notComp a = true) {t : Expr} {l : Nat} {env : Env} : swapsWithSole [t] a l env = pure false := by
  unfold swapsWithSole
  exact sw_f h
theorem s_set' (O : CxOk g k N sc Wx X) {st : Str → Bool} (hs : StOk X st) {nm : Str} {i : Nat} (h1 : st nm = true) (h2 : N.idxOf? nm = some i) (hc : notComp a = true) (ha : PE X a (EW g k Wx x)) :
    PS X (.Assign [.Name nm pos'] a pos) (SW g k Wx (.set i x)) := by
  obtain ⟨h3, h4⟩ := hs nm h1
  exact (ps_set (by rw [O.hN]; exact O.nd) (by rw [O.hN]; exact idxOf_get h2) h3 ha (sw_f hc) h4).imp2 (q_set O h2)
theorem s_unp (O : CxOk g k N sc Wx X) {st : Str → Bool} (hs : StOk X st) {es : List Expr} {kk : Nat} {is : List Nat} (h1 : tgOf N st (.Tuple es kk pos') = some (.many is)) (hc : notComp a = true) (ht : isTup a = false) (ha : PE X a (EW g k Wx x)) :
    PS X (.Assign [.Tuple es kk pos'] a pos) (SW g k Wx (.unp is x)) := by
  obtain ⟨pg, _⟩ := g_ok O hs h1
  have hw : swappedStores [.Tuple es kk pos'] a X.env = pure none := by cases a <;> first | (cases ht; done) | rfl
  refine (ps_asg ha pg (sole_f hc) hw).imp fun D σ H hh => ?_
  obtain ⟨μ, loc, h, D', R, L, z, q⟩ := hh
  refine ⟨μ, loc, h, _, _, R, L, z, fun w h1 μ1 H1 v z1 R1 u1 r1 => ?_, q.xo L⟩
  obtain ⟨ys, sq, hl, z1⟩ := z1
  exact ⟨μ1, h1, w, loc, _, R1, L.up u1, r1, ⟨ys, sq, hl, rfl⟩, fun σ' _ _ L' => q.nx _ _ _ _ _ z1 R1 u1 L'⟩
theorem s_expr (O : CxOk g k N sc Wx X) (hc : notComp a = true) (ha : PE X a (EW g k Wx x)) : PS X (.Expr a pos) (SW g k Wx (.expr x)) := by
  refine (ps_expr ha (sw_f hc)).imp fun D σ H hh => ?_
  obtain ⟨μ, loc, h, D', R, L, z, q⟩ := hh
  exact ⟨μ, loc, h, _, _, R, L, z, fun w h1 μ1 H1 v z1 R1 u1 r1 => q.nx _ _ _ _ _ z1 R1 u1 (L.up u1), q.xo L⟩
theorem s_pass {t : TS} {st : Stmt} (p : PS X st t) (ht : t = tNext) : PS X st (SW g k Wx .pass) := by
  subst ht
  refine p.imp fun D σ H hh => ?_
  obtain ⟨μ, loc, h, D', R, L, z, q⟩ := hh
  exact q.nx _ _ _ _ _ z R .refl L
theorem s_cont : PS X (.Continue pos) (SW g k Wx .cont) := by
  refine ps_continue.imp fun D σ H hh => ?_
  obtain ⟨μ, loc, h, D', R, L, z, q⟩ := hh
  exact q.ct _ _ _ _ _ z R .refl L
theorem s_ret (ha : PE X a (EW g k Wx x)) : PS X (.Return (some a) pos) (SW g k Wx (.ret x)) := by
  refine (ps_ret ha).imp fun D σ H hh => ?_
  obtain ⟨μ, loc, h, D', R, L, z, q⟩ := hh
  exact ⟨μ, loc, h, _, _, R, L, z, fun w h1 μ1 H1 v z1 R1 u1 r1 => q.rt _ _ _ _ _ z1 R1 u1 r1, q.xo L⟩
theorem s_retn : PS X (.Return none pos) (SW g k Wx .retn) := by
  refine ps_retN.imp fun D σ H hh => ?_
  obtain ⟨μ, loc, h, D', R, L, z, q⟩ := hh
  exact q.rt _ _ _ _ _ z R .refl .non
/-! ### fields and subscripts -/
theorem putIns (F : FSt g) {h : MH} {m : Nat} {cn f : Str} {fs : List (Str × W)} {w : W} {v : V} (R : Rl g h μ H) (e : h.g m = some (.ins cn fs)) (hf : g.G.fld cn f = true) (rw' : RW g.K h.n μ H w v) {dx : Addr} {vs : List (Str × V)} (e2 : H (μ m) = some (.ins (g.ca cn) dx vs)) (r : FR g.K h.n μ H fs vs) :
    Rl g (h.put m (.ins cn (putW f w fs))) μ (upd H (μ m) (.ins (g.ca cn) dx (putF f v vs))) ∧ Up h.n μ H h.n μ (upd H (μ m) (.ins (g.ca cn) dx (putF f v vs))) := by
  obtain ⟨hm, dx', vs', h2, h3, h4, h5⟩ := R.cell m _ e
  have u : Up h.n μ H h.n μ (upd H (μ m) (.ins (g.ca cn) dx (putF f v vs))) := Up.put hm e2 (by intro _ q; cases q) (by intro _ _ q; cases q)
  refine ⟨R.put hm e2 (by intro _ q; cases q) (by intro _ _ q; cases q) ⟨dx, _, upd_same, (r.put rw').up u, h4, fun p hp => ?_⟩, u⟩
  rcases mem_putW hp with e | hp
  · rw [e]; exact F.kok.no cn f hf h4
  · exact h5 p hp
theorem s_sfld (F : FSt g) (O : CxOk g k N sc Wx X) {f : Str} (hc : notComp b = true) (ha : PE X a (EW g k Wx x)) (hb : PE X b (EW g k Wx y)) : PS X (.Assign [.Attribute a f pos'] b pos) (SW g k Wx (.sfld x f y)) := by
  refine (ps_fld ha hb (sw_f hc)).imp fun D σ H hh => ?_
  obtain ⟨μ, loc, h, D', R, L, z, q⟩ := hh
  refine ⟨μ, loc, h, _, _, R, L, z, fun w h1 μ1 H1 v z1 R1 u1 r1 => ⟨μ1, loc, h1, _, _, R1, L.up u1, z1, fun w2 h2 μ2 H2 v2 z2 R2 u2 r2 => ?_, (q.up u1).xo (L.up u1)⟩, q.xo L⟩
  obtain ⟨m, cn, fs, rfl, e, ⟨hlen, hfl⟩, z2⟩ := z2
  obtain ⟨hm, dx, vs, e2, e3, e4⟩ := R2.insAt e
  cases r2
  obtain ⟨a1, a2⟩ := putIns F R2 e hfl (r1.up u2) e2 e3
  refine ⟨_, _, dx, vs, rfl, e2, by rw [O.K]; exact F.kok.cls cn e4, by rw [O.K]; exact F.kok.no cn f hfl e4, by rw [e3.length]; exact hlen, ?_⟩
  exact q.nx _ _ _ _ _ z2 a1 ((u1.trans u2).trans a2) (((L.up u1).up u2).up a2)
theorem s_augf (F : FSt g) (O : CxOk g k N sc Wx X) {f : Str} {op : Operator} {o : BOp} (ho : bopOf op = some o) (ha : PE X a (EW g k Wx x)) (hb : PE X b (EW g k Wx y)) : PS X (.AugAssign (.Attribute a f pos') op b pos) (SW g k Wx (.augf x f o y)) := by
  have e : op = bop o := by cases op <;> cases ho <;> rfl
  subst e
  refine (ps_fldaug ha hb (rd := r2M g (wpIp o)) (fun pins s σ H x y u v Q I r1 r2 z => s_ip o pins s σ H x y u v Q I r1 r2 z)).imp fun D σ H hh => ?_
  obtain ⟨μ, loc, h, D', R, L, z, q⟩ := hh
  refine ⟨μ, loc, h, _, _, R, L, z, fun w h1 μ1 H1 v z1 R1 u1 r1 => ?_, q.xo L⟩
  obtain ⟨m, cn, fs, vv, rfl, e, el, z1⟩ := z1
  obtain ⟨hm, dx, vs, e2, e3, e4⟩ := R1.insAt e
  obtain ⟨_, _, _, _, _, _, na⟩ := R1.cell m _ e
  obtain ⟨v', ev, rv⟩ := e3.lookup el
  obtain ⟨pp, hp1, hp2⟩ := lookup_has el
  have nf : NoAttr g.K (g.ca cn) f := by rw [← hp2]; exact na pp hp1
  cases r1
  refine ⟨_, _, dx, vs, v', rfl, e2, by rw [O.K]; exact F.kok.cls cn e4, by rw [O.K]; exact nf, ev, μ1, loc, h1, _, _, R1, L.up u1, z1, fun w2 h2 μ2 H2 v2 z2 R2 u2 r2 => ?_, (q.up u1).xo (L.up u1)⟩
  refine ⟨vv, w2, h2, μ2, _, R2, rv.up u2, r2, z2, fun w3 h3 μ3 H3 v3 z3 R3 u3 r3 => ?_⟩
  obtain ⟨fs', e5, ⟨hlen, hfl⟩, z3⟩ := z3
  obtain ⟨_, dx', vs', e6, e7, _⟩ := R3.insAt e5
  have em : μ3 m = μ1 m := (u2.trans u3).ag m hm
  obtain ⟨a1, a2⟩ := putIns F R3 e5 hfl r3 e6 e7
  rw [em] at e6 a1 a2
  exact ⟨dx', vs', e6, by rw [e7.length]; exact hlen, q.nx _ _ _ _ _ z3 a1 (((u1.trans u2).trans u3).trans a2) ((((L.up u1).up u2).up u3).up a2)⟩
theorem s_sidx (O : CxOk g k N sc Wx X) (hc : notComp c = true) (ha' : ∀ v, assign (.Subscript a b pos') X.env v = (do
      let ov ← holding [v] (eval a X.env)
      let iv ← holding [v, ov] (eval b X.env)
      standAt pos'
      holding [v, ov, iv] (setItem ov iv v)
      release [v, ov, iv] [])) (ha : PE X a (EW g k Wx x)) (hb : PE X b (EW g k Wx y)) (hv : PE X c (EW g k Wx e3)) : PS X (.Assign [.Subscript a b pos'] c pos) (SW g k Wx (.sidx x y e3)) := by
  refine (ps_asg hv (pg_sub ha hb (s_set (g := g)) ha') (sole_f hc)).imp fun D σ H hh => ?_
  obtain ⟨μ, loc, h, D', R, L, z, q⟩ := hh
  refine ⟨μ, loc, h, _, _, R, L, z, fun w h1 μ1 H1 v z1 R1 u1 r1 => ⟨μ1, loc, h1, _, _, R1, L.up u1, z1, fun w2 h2 μ2 H2 v2 z2 R2 u2 r2 => ⟨μ2, loc, h2, _, _, R2, (L.up u1).up u2, z2, fun w3 h3 μ3 H3 v3 z3 R3 u3 r3 => ?_, (q.up (u1.trans u2)).xo ((L.up u1).up u2)⟩, (q.up u1).xo (L.up u1)⟩, q.xo L⟩
  exact ⟨w2, w3, w, h3, μ3, _, R3, r2.up u3, r3, (r1.up u2).up u3, z3, fun h4 μ4 H4 z4 R4 u4 => q.nx _ _ _ _ _ z4 R4 (((u1.trans u2).trans u3).trans u4) ((((L.up u1).up u2).up u3).up u4)⟩
/-- a[k] of a list, by values -/
theorem get_list : PGet X (rIxL X.K) := by
  intro pins s σ H x y v u Q I rx ry h
  obtain ⟨p, xs, i, z, rfl, rfl, hq, he, q⟩ := h
  cases rx
  obtain ⟨t, rfl⟩ := ry
  obtain ⟨its, r, pl, hz⟩ := I.list hq
  obtain ⟨j, h1, h2, h3, h4, h5⟩ := atI_get he
  obtain ⟨w, ew, rw'⟩ := r.get h2
  have hl := r.length
  have hn := line63
  have fin : EP X pins σ Q w s := ⟨z, H, I, rw', q⟩
  by_cases h0 : 0 ≤ i
  · have hj : i.toNat = j := by
      rw [seqIndex_of h0 h5] at h1
      exact Option.some.inj h1
    exact wpAny_getItem_list pl.isList h0 (by omega) (x := w) (by rw [hj]; simpa using ew) fin
  · have hj : (i + (its.toArray.size : Int)).toNat = j := by
      rw [seqIndex_neg (by omega) h4] at h1
      rw [List.size_toArray, ← hl]
      exact Option.some.inj h1
    exact wpAny_getItem_list_neg pl.isList (by omega) (by rw [List.size_toArray] <;> omega) (by omega) (x := w) (by rw [hj]; simpa using ew) fin
theorem s_augi (O : CxOk g k N sc Wx X) {op : Operator} {o : BOp} (ho : bopOf op = some o) (hst : ∀ ov iv new, augStore b ov iv new = (do holding [new, ov, iv] (setItem ov iv new); release [new, ov, iv] []; pure .next))
    (ha : PE X a (EW g k Wx x)) (hb : PE X b (EW g k Wx y)) (hv : PE X c (EW g k Wx e3)) : PS X (.AugAssign (.Subscript a b pos') op c pos) (SW g k Wx (.augi x y o e3)) := by
  have e : op = bop o := by cases op <;> cases ho <;> rfl
  subst e
  refine (ps_augS ha hb get_list hv (s_ip (g := g) o) (s_set (g := g)) hst).imp fun D σ H hh => ?_
  obtain ⟨μ, loc, h, D', R, L, z, q⟩ := hh
  refine ⟨μ, loc, h, _, _, R, L, z, fun w h1 μ1 H1 v z1 R1 u1 r1 => ⟨μ1, loc, h1, _, _, R1, L.up u1, z1, fun w2 h2 μ2 H2 v2 z2 R2 u2 r2 => ?_, (q.up u1).xo (L.up u1)⟩, q.xo L⟩
  obtain ⟨m, i, ws, wv, ⟨rfl, rfl⟩, ⟨e1, e2⟩, z2⟩ := z2
  obtain ⟨_, vs, f, rs⟩ := R2.lst e1
  obtain ⟨v', ev, rv⟩ := atI_rw rs e2
  have em : μ2 m = μ1 m := by cases r1 with | obj hm => exact u2.ag m hm
  have ro := r1.up u2
  cases r2
  have ev0 : v = .ref (μ2 m) := by cases ro; rfl
  refine ⟨_, vs, _, v', ev0, rfl, by rw [O.K]; exact .of f, ev, μ2, loc, h2, _, _, R2, (L.up u1).up u2, z2, fun w3 h3 μ3 H3 v3 z3 R3 u3 r3 => ?_, (q.up (u1.trans u2)).xo ((L.up u1).up u2)⟩
  refine ⟨wv, w3, h3, μ3, _, R3, rv.up u3, r3, z3, fun w4 h4 μ4 H4 v4 z4 R4 u4 r4 => ?_⟩
  exact ⟨_, _, w4, h4, μ4, _, R4, (ro.up u3).up u4, .int _, r4, z4, fun h5 μ5 H5 z5 R5 u5 => q.nx _ _ _ _ _ z5 R5 ((((u1.trans u2).trans u3).trans u4).trans u5) (((((L.up u1).up u2).up u3).up u4).up u5)⟩
theorem s_aug (O : CxOk g k N sc Wx X) {st : Str → Bool} (hs : StOk X st) {nm : Str} {i : Nat} {op : Operator} {o : BOp} (ho : bopOf op = some o) (h1 : st nm = true) (h2 : N.idxOf? nm = some i) (ha : PE X a (EW g k Wx x)) :
    PS X (.AugAssign (.Name nm pos') op a pos) (SW g k Wx (.aug i o x)) := by
  have e : op = bop o := by cases op <;> cases ho <;> rfl
  subst e
  obtain ⟨h3, h4⟩ := hs nm h1
  refine (ps_aug (by rw [O.hN]; exact O.nd) (by rw [O.hN]; exact idxOf_get h2) h3 ha (s_ip (g := g) o) h4).imp2 fun D σ H hl hh => ?_
  obtain ⟨μ, loc, h, D', R, L, z, q⟩ := hh
  obtain ⟨w0, el, z⟩ := z
  obtain ⟨v0, e1, r0⟩ := L i w0 el
  refine ⟨v0, e1, μ, loc, h, _, _, R, L, z, fun w h1 μ1 H1 v z1 R1 u1 r1 => ?_, q.xo L⟩
  refine ⟨w0, w, h1, μ1, _, R1, r0.up u1, r1, z1, fun w2 h2' μ2 H2 v2 z2 R2 u2 r2 => q.nx _ _ _ _ _ z2 R2 (u1.trans u2) (((L.up u1).up u2).set2 r2 (idx_lt O h2 hl))⟩
end
end MP
set_option Elab.async false
set_option linter.all false
set_option maxRecDepth 100000
set_option maxHeartbeats 1000000
/-! SndS2: suites, loops, raise, a comprehension stored. -/
namespace MP
open PySem L2 PySem.Spec PyProof.Rows
section
variable {g : GE} {k : Nat} {N : List Str} {sc bsc : Scope} {Wx : WX} {X : Cx} {n n' : Nat} {μ μ' : Nat → Addr} {H H' : Hp} {D' : En} {D : Ends} {a b c tg iter elt : Expr} {x y e3 : E} {pos pos' p apos : Pos} {es : List Expr} {xs : Es}
theorem ss_nil : PSs X [] (SWs g k Wx .nil) := by
  refine pss_nil.imp fun D σ H hh => ?_
  obtain ⟨μ, loc, h, D', R, L, z, q⟩ := hh
  exact q.nx _ _ _ _ _ z R .refl L
theorem ss_cons {st : Stmt} {rest : List Stmt} {s : S} {ss : Ss} (h1 : PS X st (SW g k Wx s)) (h2 : PSs X rest (SWs g k Wx ss)) : PSs X (st :: rest) (SWs g k Wx (.cons s ss)) := by
  refine (pss_cons h1 h2).imp fun D σ H hh => ?_
  obtain ⟨μ, loc, h, D', R, L, z, q⟩ := hh
  exact ⟨μ, loc, h, _, R, L, z, ⟨fun loc' h' μ' H' σ' z1 R1 u1 L1 => ⟨μ', loc', h', D', R1, L1, z1, q.up u1⟩, q.rt, q.ct, q.ex⟩⟩
theorem s_if {sa sb : List Stmt} {A B : Ss} (hc : PT X c (TW g k Wx x)) (ha : PSs X sa (SWs g k Wx A)) (hb : PSs X sb (SWs g k Wx B)) : PS X (.If c sa sb pos) (SW g k Wx (.ifs x A B)) := by
  refine (ps_if hc ha hb).imp fun D σ H hh => ?_
  obtain ⟨μ, loc, h, D', R, L, z, q⟩ := hh
  refine ⟨μ, loc, h, fun b h1 => if b = true then wpSs (callAt g.G k) g.G A loc h1 D' else wpSs (callAt g.G k) g.G B loc h1 D', _, R, L, z, fun b h1 μ1 H1 z1 R1 u1 => ?_, q.xo L⟩
  cases b with
  | true => exact ⟨μ1, loc, h1, D', R1, L.up u1, z1, q.up u1⟩
  | false => exact ⟨μ1, loc, h1, D', R1, L.up u1, z1, q.up u1⟩
theorem s_while {sb : List Stmt} {B : Ss} (O : CxOk g k N sc Wx X) (hc : PT X c (TW g k Wx x)) (hb : PSs X sb (SWs g k Wx B)) : PS X (.While c sb [] pos) (SW g k Wx (.whl x B)) := by
  refine (ps_while O.po hc hb).imp fun D σ H hh => ?_
  obtain ⟨μ, loc, h, D', R, L, ⟨n, z⟩, q⟩ := hh
  let cond : MP.Loc → MH → (Bool → MH → Prop) → QX → Prop := wpT (callAt g.G k) g.G x
  let body : MP.Loc → MH → En → Prop := wpSs (callAt g.G k) g.G B
  refine ⟨fun m σ' H' => ∃ hi μi loci, Rl g hi μi H' ∧ Up h.n μ H hi.n μi H' ∧ LR g.K hi.n μi H' loci σ' ∧ wpWhl cond body D' m loci hi, ⟨n, h, μ, loc, R, .refl, L, z⟩, ?_⟩
  rintro m σ' H' ⟨hi, μi, loci, Ri, ui, Li, zi⟩
  cases m with
  | zero => exact zi.elim
  | succ m =>
    refine ⟨μi, loci, hi, fun b h1 => if b = true then body loci h1 { D' with nx := wpWhl cond body D' m, ct := wpWhl cond body D' m } else D'.nx loci h1, _, Ri, Li, zi, fun b h1 μ1 H1 z1 R1 u1 => ?_, (q.up ui).xo Li⟩
    cases b with
    | true =>
      rw [if_pos rfl]
      refine ⟨fun σ'' H'' => ∃ hi μi loci, Rl g hi μi H'' ∧ Up h.n μ H hi.n μi H'' ∧ LR g.K hi.n μi H'' loci σ'' ∧ wpWhl cond body D' m loci hi, fun σ'' H'' nx => ⟨m, Nat.lt_succ_self _, nx⟩, μ1, loci, h1, _, R1, Li.up u1, z1, ?_⟩
      have again : ∀ loc' h' μ' H' σ', wpWhl cond body D' m loc' h' → Rl g h' μ' H' → Up h1.n μ1 H1 h'.n μ' H' → LR g.K h'.n μ' H' loc' σ' → ∃ hi μi loci, Rl g hi μi H' ∧ Up h.n μ H hi.n μi H' ∧ LR g.K hi.n μi H' loci σ' ∧ wpWhl cond body D' m loci hi :=
        fun loc' h' μ' H' σ' z2 R2 u2 L2 => ⟨h', μ', loc', R2, (ui.trans u1).trans u2, L2, z2⟩
      exact ⟨again, (q.up (ui.trans u1)).rt, again, (q.up (ui.trans u1)).ex⟩
    | false =>
      rw [if_neg Bool.false_ne_true]
      exact q.nx _ _ _ _ _ z1 R1 (ui.trans u1) (Li.up u1)
theorem s_for {sb : List Stmt} {B : Ss} {i : I} {t : Tg} (O : CxOk g k N sc Wx X) (pi : PI X tg iter (IM g Wx (wpI (callAt g.G k) g.G i))) (pg : PG X tg (GM g t)) (hb : PSs X sb (SWs g k Wx B)) (hf : ∀ x, foldedSetIterable iter X.env x = pure x) :
    PS X (.For tg iter sb [] pos) (SW g k Wx (.fors t i B)) := by
  refine (ps_for O.po O.calm pi pg hb hf).imp fun D σ H hh => ?_
  obtain ⟨μ, loc, h, D', R, L, z, q⟩ := hh
  refine ⟨μ, loc, h, _, _, R, L, z, fun xs gd h1 μ1 H1 J z1 R1 u1 ok => ?_, q.xo L⟩
  let body : MP.Loc → MH → En → Prop := wpSs (callAt g.G k) g.G B
  refine ⟨fun j m σ' H' => ∃ hi μi loci, Rl g hi μi H' ∧ Up h1.n μ1 H1 hi.n μi H' ∧ LR g.K hi.n μi H' loci σ' ∧ j ≤ xs.length ∧ m = xs.length - j ∧ wpFor gd t body D' (xs.drop j) loci hi,
    ⟨xs.length, h1, μ1, loc, R1, .refl, L.up u1, Nat.zero_le _, by simp, z1⟩, ?_⟩
  rintro j m σ' H' ⟨hi, μi, loci, Ri, ui, Li, hj, rfl, zt⟩
  by_cases hlt : j < xs.length
  · rw [List.drop_eq_getElem_cons hlt] at zt
    obtain ⟨gg, loc', bd, zs⟩ := zt
    obtain ⟨_, it⟩ := ok hi μi H' Ri ui gg j
    obtain ⟨go, yl⟩ := it xs[j] (List.getElem?_eq_getElem hlt)
    refine .inr ⟨go, _, fun σ'' H'' nx => ⟨xs.length - (j + 1), by omega, nx⟩, fun v H3 y3 => ?_⟩
    obtain ⟨R3, u3, r3⟩ := yl v H3 y3
    refine ⟨μi, hi, _, _, loc', R3, Li.up u3, r3, by
      cases t with
      | one i => exact bd
      | many is => exact bd, fun σ'' _ _ L' => ?_⟩
    refine ⟨μi, loc', hi, _, R3, L', zs, ?_⟩
    have again : ∀ loc' h' μ' H' σ', wpFor gd t body D' (xs.drop (j + 1)) loc' h' → Rl g h' μ' H' → Up hi.n μi H3 h'.n μ' H' → LR g.K h'.n μ' H' loc' σ' →
        ∃ hi μi loci, Rl g hi μi H' ∧ Up h1.n μ1 H1 hi.n μi H' ∧ LR g.K hi.n μi H' loci σ' ∧ j + 1 ≤ xs.length ∧ xs.length - (j + 1) = xs.length - (j + 1) ∧ wpFor gd t body D' (xs.drop (j + 1)) loci hi :=
      fun loc' h' μ' H' σ' z2 R2 u2 L2 => ⟨h', μ', loc', R2, (ui.trans u3).trans u2, L2, hlt, rfl, z2⟩
    have q' := q.up ((u1.trans ui).trans u3)
    exact ⟨again, q'.rt, again, q'.ex⟩
  · have e : xs.drop j = [] := List.drop_eq_nil_of_le (by omega)
    rw [e] at zt
    obtain ⟨gg, zq⟩ := zt
    exact .inl ⟨(ok hi μi H' Ri ui gg j).1 (by omega), q.nx _ _ _ _ _ zq Ri (u1.trans ui) Li⟩
/-- raise C('..') -/
theorem s_raise (F : FSt g) (O : CxOk g k N sc Wx X) {nm m : Str} {j : Nat} {p2 cpos : Pos} (hg : isGlob sc nm = true) (hm : nm ∈ g.G.exs) (hi : (g.G.fn nm "__init__").isNone = true) (hn : nm ≠ "NoText") :
    PS X (.Raise (some (.Call (.Name nm p) [.Constant (.str m) j p2] [] cpos)) none pos) (SW g k Wx (.raise nm)) := by
  obtain ⟨g1, g2⟩ := O.gl hg
  obtain ⟨B, newId, initId, bmB, f1, f2, f3⟩ := F.exP nm hm (Option.isNone_iff_eq_none.mp hi) hn
  have rs : Raises X (.ref (g.ca nm)) := raises_own (by rw [O.K]; exact F.kok.be nm hm) (by rw [O.K]; exact F.kok.ty nm hm)
  refine (ps_raise O.calm O.takes (pmk_own f1 (by rw [O.K]; exact f2) (by rw [O.mg]; exact F.clsG nm (List.mem_append_right _ hm)) (by rw [O.K]; exact f3) rs g1 g2)).imp fun D σ H hh => ?_
  obtain ⟨μ, loc, h, D', R, L, z, q⟩ := hh
  exact q.ex _ _ _ _ _ _ _ _ z R .refl L ⟨rfl, rfl, hm, fun p hp => absurd hp (by simp)⟩
/-- x = [..] on one line, x a local -/
theorem s_setLc (O : CxOk g k N sc Wx X) {n : Nat} {i : I} {t : Tg} {ifs : List Expr} {tt : TT} {step : MP.Loc → MH → (Option W → MH → Prop) → Prop} {nm : Str} {ix : Nat} {lpos : Pos} (hk : sc.kind = .function) (h1 : sc.names.lookup nm = some .local) (h2 : N.idxOf? nm = some ix)
    (hln : (pos'.line == lpos.line) = true) (hno : (bsc.names.any fun (n, k) => n == nm && (k == .local || k == .cell)) = false)
    (hb : blkC N sc bsc (ownOf' N bsc) = true) (ht : tgOf N (storable bsc) tg = some t) (hi : itOf g.G sc tg (compE g.G N n sc) iter = some i)
    (pi : PI X tg iter (IM g Wx (wpI (callAt g.G k) g.G i))) (hts : ∀ X', CxOk g k N (relS bsc sc) W0 X' → PTs X' ifs tt) (he : ∀ X', CxOk g k N (relS bsc sc) W0 X' → PE X' elt (EW g k W0 x)) (hst : StepOk g step tt (EW g k W0 x)) :
    PS X (.Assign [.Name nm pos'] (.ListComp elt [⟨tg, iter, ifs, 0⟩] bsc lpos) pos) (SM g Wx fun loc h D => wpI (callAt g.G k) g.G i loc h (fun xs gd h1 => wpTurns gd t step (wipeL loc ((ownOf' N bsc).map (·.2))) xs [] h1 fun ys h3 => D.nx (loc.set ix (some (.obj h3.n))) (h3.alloc (.lst ys))) fun x h1 => D.ex x loc h1) := by
  have ok : BlkOk X.N X.env.scope bsc (ownOf' N bsc) := by rw [O.hN, O.sc]; exact blkOk_by hb
  have gi : ∀ j ∈ tgIx t, j ∈ (ownOf' N bsc).map (·.2) := fun j hj => by
    have h2 := tg_ix ht
    obtain ⟨x, e1, e2⟩ := h2 j hj
    exact own_ix e1 e2
  refine (ps_setLc O.calm (by rw [O.hN]; exact O.nd) (by rw [O.hN]; exact idxOf_get h2) (by rw [O.sc]; exact h1) (sw_true (by rw [O.sc]; exact hk) (by rw [O.sc]; exact h1) hln hno) pi ok
    (fun s H C cl fp => (g_ok (blk_ok O s H C cl fp) (blk_st O s H C cl fp) ht).1) (fun s H C cl fp => hts _ (blk_ok O s H C cl fp)) (fun s H C cl fp => he _ (blk_ok O s H C cl fp)) (fold_ok (f := fun _ => none) hi)).imp2 fun D σ H hl hh => ?_
  obtain ⟨μ, loc, h, D', R, L, z, q⟩ := hh
  refine lc_turns hst gi ⟨μ, loc, h, fun w h3 => D'.nx (loc.set ix (some w)) h3, _, R, L, z, fun w h1 μ1 H1 v z1 R1 u1 r1 => ?_, q.xo L⟩
  exact q.nx _ _ _ _ _ z1 R1 u1 ((L.up u1).set2 r1 (idx_lt O h2 hl))
end
end MP
set_option Elab.async false
set_option linter.all false
set_option maxRecDepth 100000
set_option maxHeartbeats 2000000
/-! SndT: try: an exception that is caught and kept. -/
namespace MP
open PySem L2 PySem.Spec PyProof.Rows
section
variable {X : Cx} {pins : List (Addr × Obj)} {σ : L2.St} {H : Hp} {s : Shared} {a : Addr} {oe : Obj} {vs : Array Value} {cls : Value} {d : Option Addr}
/-- from now on the exception is told of -/
theorem track (I : Inv X pins σ H s) (ha : s.heap.get? a = some oe) (hd : oe.data = .fields vs) (hz : Zc cls d oe) (na : H a = none) (nL : a ≠ X.env.locals) (np : ∀ p ∈ X.pn ++ pins, p.1 ≠ a) (new : X.s_0.heap.get? a = none) :
    Inv X pins σ (upd H a (exT a cls d)) s := by
  have ne : ∀ {b : Addr} {o : HO}, H b = some o → b ≠ a := fun q => ne_of_none q na
  refine ⟨I.ok, I.os, I.bare, ⟨I.base.keep, I.base.slot, fun b o q n hx => ?_, I.base.there, fun b xs q => ?_, fun b o u q => ?_, fun b ps q => ?_⟩, I.loc, I.cell, by rw [upd_ne (Ne.symm nL)]; exact I.free, fun y c e => ?_, fun p hp => ?_, fun b o q => ?_, I.len⟩
  · rw [upd_ne (by intro z; rw [z, new] at q; cases q)]; exact I.base.free b o q n hx
  · have := I.base.tups b xs q
    rw [upd_ne (ne this)]; exact this
  · have := I.base.frzs b o u q
    rw [upd_ne (ne this)]; exact this
  · obtain ⟨more, e⟩ := I.base.tbls b ps q
    exact ⟨more, by rw [upd_ne (ne e)]; exact e⟩
  · obtain ⟨v, z⟩ := I.cell y c e
    have hc : c ≠ a := fun hca => by
      obtain ⟨o, e1, e2⟩ := z
      rw [hca, ha] at e1
      cases e1
      rw [hd] at e2
      cases e2
    rw [upd_ne hc]; exact I.freeC y c e
  · obtain ⟨e, n, nl, nf, dd⟩ := I.pin p hp
    exact ⟨e, by rw [upd_ne (np p hp)]; exact n, nl, nf, dd⟩
  · by_cases hb : b = a
    · subst hb
      rw [upd_same] at q
      cases q
      refine ⟨⟨oe, vs, ha, hz.1, hz.2, hd⟩, ⟨oe, ha⟩, fun h1 h2 ⟨o1, v1, e1, e2⟩ k => ⟨o1, v1, k _ e1, e2⟩⟩
    · rw [upd_ne hb] at q
      exact (I.hok b o q).stay (fun _ _ _ z => z) (fun c hc => by rw [upd_ne (ne hc)]; exact hc) (fun c xs hc => by rw [upd_ne (ne hc)]; exact hc)
end
/-- what such a clause wishes -/
def wTrk (K : PySem.W.Frag) (c : Value) (i j m : Nat) (Wout : WX) (D : Ends) : WX := fun cls d σ H =>
  ∃ b, PySem.W.exmOne K cls c = some b ∧ (b = true → ∀ a, H a = none → σ.length = m → D.nx (((σ.set i (some (.ref a))).set j (some (.ref a))).set i none) (upd H a (exT a cls d))) ∧ (b = false → Wout cls d σ H)
section
variable {X : Cx} {x n y : Str} {c : Value} {i j : Nat} {body : List Stmt} {np pn' py pos pos' spos : Pos} {tb : WX → TS} {Wout : WX}
theorem ps_try_trk (hs : X.stack = X.env :: X.outer) (hf : X.env.frame = some X.env.locals) (hex : X.ex = []) (hN : X.N.Nodup) (hi : X.N[i]? = some n) (hln : X.env.kindOf n = some .local) (hj : X.N[j]? = some y) (hly : X.env.scope.names.lookup y = some .local)
    (hn1 : (n == ("__debug__" : Str)) = false) (hn2 : (n == ("__classdict__" : Str)) = false) (hc : Names X x c) (tk : Takes X Wout)
    (hb : ∀ (W : WX) (pn : List (Addr × Obj)) (xe : Value → Shared → Prop), Takes (X.tr pn xe) W → PassesOwn (model X.prog X.w) X.A X.env xe → PSs (X.tr pn xe) body (tb W)) :
    PS X (.Try body [.ExceptHandler (some (.Name x np)) (some n) [.Assign [.Name y py] (.Name n pn') spos] pos'] [] [] pos) (fun D σ H => tb (wTrk X.K c i j X.N.length Wout D) D σ H) := by
  refine ⟨fun pins s σ H D I h => ?_⟩
  have ok := I.ok
  have hfr : X.A.frames = some (X.env :: X.outer) := by rw [ok.frames, hs]
  have hloc : L2.Loc X.env.scope n := .inl hln
  have il : i < X.N.length := (List.getElem?_eq_some_iff.mp hi).1
  refine wpAny_Try_except ?_
  refine wpAny_mono ((hb (wTrk X.K c i j X.N.length Wout D) (X.pn ++ pins) (fun e s₁ => wpAny (model X.prog X.w) X.A (noteFrame e X.env) (fun _ s₂ => wpAny (model X.prog X.w) X.A (setFlight e none) (fun _ s₃ =>
    wpAny (model X.prog X.w) X.A (handleBy e X.env [.ExceptHandler (some (.Name x np)) (some n) [.Assign [.Name y py] (.Name n pn') spos] pos']) (SP X pins D) X.xe s₃) X.xe s₂) X.xe s₁) (fun u s' xx => ?_) PassesOwn.looking).run [] s σ H D (I.toTry _) h) (fun f s1 hsp => ?_) (fun e s1 he => he)
  · obtain ⟨a, B, sI, pins', σ', H', cls, d, rfl, J', nb, up, sky, na, os, ag, b, hb1, hyes, hno⟩ := xx
    have J : Inv X pins σ' H' sI := J'.ofTry ok
    have sky' : Sky B (X.env :: X.outer) a (Zc cls d) X.env.locals s'.heap := by rw [← hs]; exact sky
    show wpAny (model X.prog X.w) X.A (noteFrame (.ref a) X.env) _ _ _
    refine Sky.land Zc.steady hfr hf sky' fun h3 fl3 up3 => ?_
    have J3 : Inv X pins σ' H' { s' with heap := h3 } := J.landed nb fl3.1 (up.trans up3) os ag
    obtain ⟨oe3, vs3, he3, hz3, hd3⟩ := fl3.there
    have notFr : ∀ {h : Heap} {o : Obj} {vs : Array Value}, h.FunFrames B (X.env :: X.outer) → h.get? a = some o → o.data = .fields vs → a ∉ frs (X.env :: X.outer) := fun {h o vs} ff e dd hm => by
      obtain ⟨_, o', e', hnf⟩ := ff.mem hm
      rw [e] at e'; cases e'
      exact hnf _ dd
    have nfr := notFr fl3.2.2.1 he3 hd3
    have nL : a ≠ X.env.locals := fun z => nfr (List.mem_filterMap.mpr ⟨X.env, List.mem_cons_self, by rw [hf, z]⟩)
    have nF : a ∉ X.fs := fun hm => by
      obtain ⟨e, he, q⟩ := List.mem_filterMap.mp hm
      exact nfr (List.mem_filterMap.mpr ⟨e, List.mem_cons_of_mem _ he, q⟩)
    have nI : sI.heap.get? a = none := by
      cases q : sI.heap.get? a with
      | none => rfl
      | some o =>
        have := nb a o q (by rw [hs]; exact nfr)
        rw [fl3.2.1] at this
        cases this
    have n0 : X.s_0.heap.get? a = none := by
      cases q : X.s_0.heap.get? a with
      | none => rfl
      | some o =>
        obtain ⟨o', e'⟩ := J.base.there a o q (by rw [hex]; simp)
        rw [nI] at e'
        cases e'
    have npin : ∀ p ∈ X.pn ++ pins, p.1 ≠ a := fun p hp z => by
      have := (J.pin p hp).1
      rw [z, nI] at this
      cases this
    have S3 := J3.suite he3 hd3 na nL nF
    refine wpAny_handleBy_cons (codeAny_handlers_test ?_) (by intro q; cases q)
    have LT : PySem.W.Looks (model X.prog X.w) h3 (typeOf (.ref a)) cls := fun A Q E s k q => wpAny_typeOf_ref (k _ _ he3) (by rw [hz3.1]; exact q)
    have LM := PySem.W.exm_one (M := model X.prog X.w) (J3.kIn) LT hb1
    have test : ∀ {Q : Value → Shared → Prop} {E : Value → Shared → Prop}, Q c { s' with heap := h3 } → wpAny (model X.prog X.w) (X.A.mark (some (.ref a))) (eval (.Name x np) X.env) Q E { s' with heap := h3 } := fun {Q E} q => by
      obtain ⟨hg, hdbg, hm | ⟨hm, hv, hnn⟩⟩ := hc
      · exact ld_glob (X := X.suite a ((a, oe3) :: (X.pn ++ pins))) S3 hg hm q hdbg
      · exact ld_blt (X := X.suite a ((a, oe3) :: (X.pn ++ pins))) S3 hg hm hv q hnn hdbg
    refine test (LM.here ?_)
    cases b with
    | true =>
      refine codeAny_handlers_suite_as ?_
      refine HandSPX.lands_againZ fl3 fun h4 fl4 up4 => ?_
      have J4 : Inv X pins σ' H' { s' with heap := h4 } := J.landed nb fl4.1 ((up.trans up3).trans up4) os ag
      obtain ⟨oe4, vs4, he4, hz4, hd4⟩ := fl4.there
      have S4 := J4.suite he4 hd4 na nL nF
      have hl' : i < σ'.length := by rw [J.len]; exact il
      refine store_ok (X := X.suite a ((a, oe4) :: (X.pn ++ pins))) (v := .ref a) S4 hN hi hloc rfl (fun s5 S5 => ?_) (.inr hln)
      have ps : PSs (X.suite a ((a, oe4) :: (X.pn ++ pins))) [.Assign [.Name y py] (.Name n pn') spos] _ := pss_one (ps_set hN hj (.inl hly) (pe_var hi (.inl hln) hn1 hn2) rfl (.inr hly))
      refine wpAny_mono (ps.run [] s5 _ H' { nx := fun σ6 H6 => σ6 = (σ'.set i (some (.ref a))).set j (some (.ref a)) ∧ H6 = H', rt := fun _ _ => False } S5 ⟨.ref a, List.getElem?_set_self hl', rfl, rfl⟩) (fun f s6 hsp => ?_) (fun _ _ z => False.elim z)
      cases f with
      | next =>
        obtain ⟨σ6, H6, S6, e1, e2⟩ := hsp
        subst e1 e2
        have S6' : Inv X ((a, oe4) :: pins) ((σ'.set i (some (.ref a))).set j (some (.ref a))) H6 s6 := ⟨ok, S6.os, S6.bare, S6.base, S6.loc, S6.cell, S6.free, S6.freeC, fun p hp => S6.pin p (by
          rw [List.append_nil]
          rcases List.mem_append.mp hp with hp | hp
          · exact List.mem_cons_of_mem _ (List.mem_append_left _ hp)
          · rcases List.mem_cons.mp hp with e | hp
            · rw [e]; exact List.mem_cons_self
            · exact List.mem_cons_of_mem _ (List.mem_append_right _ hp)), S6.hok, S6.len⟩
        show wpAny _ X.A (do bindName X.env n .none; unbindBehindTheSuite X.env n pos') (fun _ s7 => SP X pins D .next s7) X.xe s6
        refine gone_ok S6' hN hi hln fun s7 J7 => ?_
        obtain ⟨he7, na7, _⟩ := J7.pin (a, oe4) (List.mem_append_right _ List.mem_cons_self)
        have J8 : Inv X pins (((σ'.set i (some (.ref a))).set j (some (.ref a))).set i none) H6 s7 := J7.pins_of fun p hp => J7.pin p (List.mem_append_right _ (List.mem_cons_of_mem _ hp))
        exact ⟨_, _, track J8 he7 hd4 hz4 na7 nL npin n0, hyes rfl a na7 J.len⟩
      | brk => obtain ⟨_, _, _, q⟩ := hsp; exact False.elim q
      | cont => obtain ⟨_, _, _, q⟩ := hsp; exact False.elim q
      | ret u => obtain ⟨_, _, _, _, _, q⟩ := hsp; exact False.elim q
    | false =>
      show wpAny _ X.A (handleBy (.ref a) X.env []) _ _ _
      refine wpAny_handleBy_nil ?_
      obtain ⟨k1, k2, k3, oe, vs, T, oT, ts', he, hz, hd, h1, hr⟩ := id fl3
      unfold PySem.passOn
      refine wpAny_bind (wpAny_field he hd h1 ?_)
      rw [if_neg (show ¬ ((Value.ref T == Value.none) = true) from by simp)]
      have fin : wpAny (model X.prog X.w) X.A (setFlight (.ref a) X.env.frame) (fun _ s4 => wpAny (model X.prog X.w) X.A (throw (.ref a) : Sem Flow) (SP X pins D) X.xe s4) X.xe { s' with heap := h3 } := by
        rw [hf]
        refine HandSPX.setFlight_upZ fl3 fun h4 hh4 up4 => wpAny_throw (tk _ _ ?_)
        exact ⟨a, B, sI, pins, σ', H', cls, d, rfl, J, nb, (up.trans up3).trans up4, .inr (.inr (by rw [hs]; exact hh4)), na, os, ag, hno rfl⟩
      first
        | exact wpAny_bind (wpAny_pure (wpAny_bind fin))
        | exact wpAny_bind fin
  · cases f with
    | next =>
      obtain ⟨σ', H', J', q⟩ := hsp
      exact wpAny_execs_nil ⟨σ', H', J'.ofTry ok, q⟩
    | brk =>
      obtain ⟨σ', H', J', q⟩ := hsp
      exact ⟨σ', H', J'.ofTry ok, q⟩
    | cont =>
      obtain ⟨σ', H', J', q⟩ := hsp
      exact ⟨σ', H', J'.ofTry ok, q⟩
    | ret u =>
      obtain ⟨v, σ', H', J', r, q⟩ := hsp
      exact ⟨v, σ', H', J'.ofTry ok, r, q⟩
end
end MP
set_option Elab.async false
set_option linter.all false
set_option maxRecDepth 100000
set_option maxHeartbeats 1000000
/-! SndT2: try in the small language; two or three names at once. -/
namespace MP
open PySem L2 PySem.Spec PyProof.Rows
structure SxOk (g : GE) (k : Nat) (N : List Str) (sc : Scope) (Wx : WX) (X : Cx) : Prop extends CxOk g k N sc Wx X where
  stk : X.stack = X.env :: X.outer
  fr : X.env.frame = some X.env.locals
  ex : X.ex = []
  fn : ∀ x, X.fn x = true
  kind : X.env.scope.kind = .function
section
variable {g : GE} {k : Nat} {N : List Str} {sc bsc : Scope} {Wx : WX} {X : Cx} {n n' : Nat} {μ μ' : Nat → Addr} {H H' : Hp} {D' : En} {D : Ends} {a b c tg iter elt : Expr} {x y e3 : E} {pos pos' p apos : Pos} {es : List Expr} {xs : Es}
theorem SxOk.tr (O : SxOk g k N sc Wx X) {W : WX} (pn : List (Addr × Obj)) (xe : Value → Shared → Prop) (tk : Takes (X.tr pn xe) W) (po : PassesOwn (model X.prog X.w) X.A X.env xe) : SxOk g k N sc W (X.tr pn xe) where
  P := O.P
  w := O.w
  K := O.K
  mg := O.mg
  base := O.base
  calm := O.calm
  hN := O.hN
  nd := O.nd
  sc := O.sc
  takes := tk
  po := po
  room := O.room
  stk := O.stk
  fr := O.fr
  ex := O.ex
  fn := O.fn
  kind := O.kind
theorem SxOk.st (O : SxOk g k N sc Wx X) : StOk X (storable sc) := fun x h => by
  rw [O.sc]
  unfold storable at h
  rcases Bool.or_eq_true _ _ |>.mp h with h | h
  · exact ⟨.inl (eq_of_beq h), .inl (O.fn x)⟩
  · exact ⟨.inr (eq_of_beq h), .inl (O.fn x)⟩
theorem names_own (F : FSt g) (O : CxOk g k N sc Wx X) {nm : Str} (hg : isGlob sc nm = true) (hm : nm ∈ g.G.exs) : Names X nm (.ref (g.ca nm)) := by
  obtain ⟨g1, g2⟩ := O.gl hg
  exact ⟨g1, g2, .inl (by rw [O.mg]; exact F.clsG nm (List.mem_append_right _ hm))⟩
theorem exm_own (F : FSt g) (O : CxOk g k N sc Wx X) {nm : Str} (hm : nm ∈ g.G.exs) {e : Ex} {cls : Value} {d : Option Addr} (rx : RX g n μ H e cls d) : PySem.W.exmOne X.K cls (.ref (g.ca nm)) = some (g.G.sub e.c nm) := by
  obtain ⟨rfl, _, h3, _⟩ := rx
  rw [O.K]
  exact F.kok.exm _ h3 _ hm
theorem s_tryas (F : FSt g) (O : SxOk g k N sc Wx X) {nm en yn : Str} {i j : Nat} {body : List Stmt} {B : Ss} {np pn' py spos : Pos} (hg : isGlob sc nm = true) (hm : nm ∈ g.G.exs) (h1 : sc.names.lookup en = some .local) (h2 : N.idxOf? en = some i) (h3 : sc.names.lookup yn = some .local) (h4 : N.idxOf? yn = some j)
    (hn1 : (en == ("__debug__" : Str)) = false) (hn2 : (en == ("__classdict__" : Str)) = false) (hb : ∀ W' X', SxOk g k N sc W' X' → PSs X' body (SWs g k W' B)) :
    PS X (.Try body [.ExceptHandler (some (.Name nm np)) (some en) [.Assign [.Name yn py] (.Name en pn') spos] pos'] [] [] pos) (SW g k Wx (.tryas B nm i j)) := by
  refine (ps_try_trk O.stk O.fr O.ex (by rw [O.hN]; exact O.nd) (by rw [O.hN]; exact idxOf_get h2) (show X.env.scope.names.lookup en = _ by rw [O.sc]; exact h1) (by rw [O.hN]; exact idxOf_get h4) (by rw [O.sc]; exact h3) hn1 hn2 (names_own F O.toCxOk hg hm) O.takes
    (fun W pn xe tk po => hb W _ (O.tr pn xe tk po))).imp fun D σ H hh => ?_
  obtain ⟨μ, loc, h, D', R, L, z, q⟩ := hh
  refine ⟨μ, loc, h, _, R, L, z, ⟨q.nx, q.rt, q.ct, fun e loc' h' μ' H' σ' cls d z1 R1 u1 L1 rx => ⟨_, exm_own F O.toCxOk hm rx, fun hb a na hlen => ?_, fun hb => ?_⟩⟩⟩
  · have z1 : (if g.G.sub e.c nm = true then D'.nx ((loc'.set j (some (.obj h'.n))).set i none) (h'.alloc (.exc e.c e.fs)) else D'.ex e loc' h') := z1
    rw [if_pos hb] at z1
    obtain ⟨rfl, r2, r3, r4⟩ := rx
    have u2 : Up h'.n μ' H' (h'.n + 1) (seat μ' h'.n a) (upd H' a (exT a (.ref (g.ca e.c)) d)) := Up.alloc na (upd_more na)
    have R2 : Rl g (h'.alloc (.exc e.c e.fs)) (seat μ' h'.n a) (upd H' a (exT a (.ref (g.ca e.c)) d)) := R1.alloc na (upd_more na) ⟨d, upd_same, r2.up u2, r3, r4⟩
    refine q.nx _ _ _ _ _ z1 R2 (u1.trans u2) fun t w e => ?_
    have hj : j < σ'.length := by rw [hlen, O.hN]; exact (List.getElem?_eq_some_iff.mp (idxOf_get h4)).1
    by_cases ht : i = t
    · subst ht
      by_cases hl : i < (loc'.set j (some (W.obj h'.n))).length
      · rw [List.getElem?_set_self hl] at e; cases e
      · rw [List.getElem?_eq_none (by simpa using hl)] at e; cases e
    · rw [List.getElem?_set_ne ht] at e ⊢
      by_cases hj2 : j = t
      · subst hj2
        by_cases hl : j < loc'.length
        · rw [List.getElem?_set_self hl] at e
          cases e
          refine ⟨.ref a, by rw [List.getElem?_set_self (by rw [List.length_set]; exact hj)], ?_⟩
          have es : a = seat μ' h'.n a h'.n := seat_same.symm
          conv => rhs; rw [es]
          exact .obj (Nat.lt_succ_self _)
        · rw [List.getElem?_eq_none (by simpa using hl)] at e; cases e
      · rw [List.getElem?_set_ne hj2] at e ⊢
        rw [List.getElem?_set_ne ht]
        exact (L1.up u2) t w e
  · have z1 : (if g.G.sub e.c nm = true then D'.nx ((loc'.set j (some (.obj h'.n))).set i none) (h'.alloc (.exc e.c e.fs)) else D'.ex e loc' h') := z1
    rw [if_neg (by rw [hb]; exact Bool.false_ne_true)] at z1
    exact q.ex _ _ _ _ _ _ _ _ z1 R1 u1 L1 rx
/-- a constant, in any context -/
theorem lit_ok {cn : Const} {w : W} (h : constOf cn = some w) : ∃ v : V, (∀ N μ H, RW g.K N μ H w v) ∧ ∀ (X : Cx) (j : Nat) (pos : Pos), PE X (.Constant cn j pos) (tC v) := by
  cases cn <;> first | cases h | skip
  · exact ⟨.non, fun _ _ _ => .non, fun _ _ _ => pe_non⟩
  · exact ⟨.bl _, fun _ _ _ => .bl _, fun _ _ _ => pe_bl⟩
  · exact ⟨.int _, fun _ _ _ => .int _, fun _ _ _ => pe_int⟩
  · exact ⟨.str _, fun _ _ _ => .str _, fun _ _ _ => pe_str⟩
theorem s_tryset (F : FSt g) (O : SxOk g k N sc Wx X) {nm yn : Str} {j : Nat} {body : List Stmt} {B : Ss} {cn : Const} {w : W} {cj : Nat} {np pn' py spos : Pos} (hg : isGlob sc nm = true) (hm : nm ∈ g.G.exs) (h3 : sc.names.lookup yn = some .local) (h4 : N.idxOf? yn = some j)
    (hw : constOf cn = some w) (hb : ∀ W' X', SxOk g k N sc W' X' → PSs X' body (SWs g k W' B)) :
    PS X (.Try body [.ExceptHandler (some (.Name nm np)) none [.Assign [.Name yn py] (.Constant cn cj pn') spos] pos'] [] [] pos) (SW g k Wx (.tryset B nm j w)) := by
  obtain ⟨v, rv, pc⟩ := lit_ok (g := g) hw
  have ndX : X.N.Nodup := by rw [O.hN]; exact O.nd
  have hjX : X.N[j]? = some yn := by rw [O.hN]; exact idxOf_get h4
  have hlX : X.env.scope.names.lookup yn = some .local := by rw [O.sc]; exact h3
  refine (ps_try_only (ts := fun _ _ _ => fun D σ H => σ.length = X.N.length → D.nx (σ.set j (some v)) H) O.stk O.fr (names_own F O.toCxOk hg hm) O.takes (fun W pn xe tk po => hb W _ (O.tr pn xe tk po)) (fun a oe cls d pn hz hd => ?_)).imp fun D σ H hh => ?_
  · refine (pss_one (ps_set (X := X.suite a ((a, oe) :: pn)) ndX hjX (.inl hlX) (pc _ _ _) rfl (.inr hlX))).imp2 fun D σ H hl z => z hl
  · obtain ⟨μ, loc, h, D', R, L, z, q⟩ := hh
    refine ⟨μ, loc, h, _, R, L, z, ⟨q.nx, q.rt, q.ct, fun e loc' h' μ' H' σ' cls d z1 R1 u1 L1 rx => ⟨_, exm_own F O.toCxOk hm rx, fun hb a na hlen => ?_, fun hb => ?_⟩⟩⟩
    · have z1 : (if g.G.sub e.c nm = true then D'.nx (loc'.set j (some w)) h' else D'.ex e loc' h') := z1
      rw [if_pos hb] at z1
      exact q.nx _ _ _ _ _ z1 R1 u1 (L1.set2 (rv _ _ _) (by rw [hlen, O.hN]; exact (List.getElem?_eq_some_iff.mp (idxOf_get h4)).1))
    · have z1 : (if g.G.sub e.c nm = true then D'.nx (loc'.set j (some w)) h' else D'.ex e loc' h') := z1
      rw [if_neg (by rw [hb]; exact Bool.false_ne_true)] at z1
      exact q.ex _ _ _ _ _ _ _ _ z1 R1 u1 L1 rx
theorem s_tryret (F : FSt g) (O : SxOk g k N sc Wx X) {nm : Str} {body : List Stmt} {B : Ss} {cn : Const} {w : W} {cj : Nat} {np pn' spos : Pos} (hg : isGlob sc nm = true) (hm : nm ∈ g.G.exs)
    (hw : constOf cn = some w) (hb : ∀ W' X', SxOk g k N sc W' X' → PSs X' body (SWs g k W' B)) :
    PS X (.Try body [.ExceptHandler (some (.Name nm np)) none [.Return (some (.Constant cn cj pn')) spos] pos'] [] [] pos) (SW g k Wx (.tryret B nm w)) := by
  obtain ⟨v, rv, pc⟩ := lit_ok (g := g) hw
  refine (ps_try_only (ts := fun _ _ _ => fun D σ H => D.rt v H) O.stk O.fr (names_own F O.toCxOk hg hm) O.takes (fun W pn xe tk po => hb W _ (O.tr pn xe tk po)) (fun a oe cls d pn hz hd => ?_)).imp fun D σ H hh => ?_
  · exact (pss_one (ps_ret (X := X.suite a ((a, oe) :: pn)) (pc _ _ _))).imp2 fun D σ H hl z => z
  · obtain ⟨μ, loc, h, D', R, L, z, q⟩ := hh
    refine ⟨μ, loc, h, _, R, L, z, ⟨q.nx, q.rt, q.ct, fun e loc' h' μ' H' σ' cls d z1 R1 u1 L1 rx => ⟨_, exm_own F O.toCxOk hm rx, fun hb a na => ?_, fun hb => ?_⟩⟩⟩
    · have z1 : (if g.G.sub e.c nm = true then D'.rt w h' else D'.ex e loc' h') := z1
      rw [if_pos hb] at z1
      exact q.rt _ _ _ _ _ z1 R1 u1 (rv _ _ _)
    · have z1 : (if g.G.sub e.c nm = true then D'.rt w h' else D'.ex e loc' h') := z1
      rw [if_neg (by rw [hb]; exact Bool.false_ne_true)] at z1
      exact q.ex _ _ _ _ _ _ _ _ z1 R1 u1 L1 rx
/-! ### two or three names at once -/
theorem s_unpC (O : CxOk g k N sc Wx X) {st : Str → Bool} (hs : StOk X st) {ts vs : List Expr} {kk k2 : Nat} {pt2 : Pos} {is : List Nat} (h1 : tgOf N st (.Tuple ts kk pos') = some (.many is)) (hw : swappedStores [.Tuple ts kk pos'] (.Tuple vs k2 pt2) X.env = pure none) (ha : PE X (.Tuple vs k2 pt2) (EW g k Wx x)) :
    PS X (.Assign [.Tuple ts kk pos'] (.Tuple vs k2 pt2) pos) (SW g k Wx (.unp is x)) := by
  obtain ⟨pg, _⟩ := g_ok O hs h1
  refine (ps_asg ha pg (sole_f rfl) hw).imp fun D σ H hh => ?_
  obtain ⟨μ, loc, h, D', R, L, z, q⟩ := hh
  refine ⟨μ, loc, h, _, _, R, L, z, fun w h1 μ1 H1 v z1 R1 u1 r1 => ?_, q.xo L⟩
  obtain ⟨ys, sq, hl, z1⟩ := z1
  exact ⟨μ1, h1, w, loc, _, R1, L.up u1, r1, ⟨ys, sq, hl, rfl⟩, fun σ' _ _ L' => q.nx _ _ _ _ _ z1 R1 u1 L'⟩
theorem s_par2 (O : CxOk g k N sc Wx X) {nx ny : Str} {i j : Nat} {px py pt pt2 : Pos} {kt k2 : Nat} (hx : sc.names.lookup nx = some .local) (hy : sc.names.lookup ny = some .local) (hi : N.idxOf? nx = some i) (hj : N.idxOf? ny = some j) (hij : i ≠ j)
    (hw : swappedStores [.Tuple [.Name nx px, .Name ny py] kt pt] (.Tuple [a, b] k2 pt2) X.env = pure (some [nx, ny])) (ha : PA X [a, b] (EWs g k Wx xs)) :
    PS X (.Assign [.Tuple [.Name nx px, .Name ny py] kt pt] (.Tuple [a, b] k2 pt2) pos) (SW g k Wx (.unp [i, j] (.tup xs))) := by
  refine (ps_par O.calm (by rw [O.hN]; exact O.nd) (by rw [O.hN]; exact idxOf_get hi) (by rw [O.hN]; exact idxOf_get hj) hij (by rw [O.sc]; exact hx) (by rw [O.sc]; exact hy) ha hw (sole_f rfl)).imp2 fun D σ H hl hh => ?_
  obtain ⟨μ, loc, h, D', R, L, z, q⟩ := hh
  refine ⟨μ, loc, h, _, _, R, L, z, fun ws h1 μ1 H1 vs z1 R1 u1 r1 => ?_, q.xo L⟩
  obtain ⟨_, ys, sq, hlen, z1⟩ := z1
  obtain rfl : ws = ys := sq
  have il := idx_lt O hi hl
  have jl := idx_lt O hj hl
  match ws, vs, r1, hlen with
  | [w1, w2], _, .cons (v := v1) r1 (.cons (v := v2) r2 .nil), _ =>
    exact ⟨v1, v2, rfl, q.nx _ _ _ _ _ z1 R1 u1 (((L.up u1).set2 r1 il).set2 r2 (by rw [List.length_set]; exact jl))⟩
theorem s_par3 (O : CxOk g k N sc Wx X) {nx ny nz : Str} {i j l : Nat} {px py pz pt pt2 : Pos} {kt k2 : Nat} (hx : sc.names.lookup nx = some .local) (hy : sc.names.lookup ny = some .local) (hz : sc.names.lookup nz = some .local) (hi : N.idxOf? nx = some i) (hj : N.idxOf? ny = some j) (hk : N.idxOf? nz = some l)
    (hij : i ≠ j) (hil : i ≠ l) (hjl : j ≠ l)
    (hw : swappedStores [.Tuple [.Name nx px, .Name ny py, .Name nz pz] kt pt] (.Tuple [a, b, c] k2 pt2) X.env = pure (some [nx, ny, nz])) (ha : PA X [a, b, c] (EWs g k Wx xs)) :
    PS X (.Assign [.Tuple [.Name nx px, .Name ny py, .Name nz pz] kt pt] (.Tuple [a, b, c] k2 pt2) pos) (SW g k Wx (.unp [i, j, l] (.tup xs))) := by
  refine (ps_par3 O.calm (by rw [O.hN]; exact O.nd) (by rw [O.hN]; exact idxOf_get hi) (by rw [O.hN]; exact idxOf_get hj) (by rw [O.hN]; exact idxOf_get hk) hij hil hjl (by rw [O.sc]; exact hx) (by rw [O.sc]; exact hy) (by rw [O.sc]; exact hz) ha hw (sole_f rfl)).imp2 fun D σ H hl hh => ?_
  obtain ⟨μ, loc, h, D', R, L, z, q⟩ := hh
  refine ⟨μ, loc, h, _, _, R, L, z, fun ws h1 μ1 H1 vs z1 R1 u1 r1 => ?_, q.xo L⟩
  obtain ⟨_, ys, sq, hlen, z1⟩ := z1
  obtain rfl : ws = ys := sq
  have il := idx_lt O hi hl
  have jl := idx_lt O hj hl
  have ll := idx_lt O hk hl
  match ws, vs, r1, hlen with
  | [w1, w2, w3], _, .cons (v := v1) r1 (.cons (v := v2) r2 (.cons (v := v3) r3 .nil)), _ =>
    exact ⟨v1, v2, v3, rfl, q.nx _ _ _ _ _ z1 R1 u1 ((((L.up u1).set2 r1 il).set2 r2 (by rw [List.length_set]; exact jl)).set2 r3 (by rw [List.length_set, List.length_set]; exact ll))⟩
/-- which stores are swapped, by what is written -/
def swOf (sc : Scope) (ts vs : List Expr) : Option (Option (List Str)) :=
  if !(ts.length == 2 || ts.length == 3) || vs.length != ts.length then none else
  if !vs.all notStar then none else
  let line := (ts.head?.map (·.pos.line)).getD 0
  let names := ts.filterMap fun
    | .Name id pos => if sc.names.lookup id == some .local && pos.line == line then some id else none
    | _ => none
  if names.length != ts.length || names.eraseDups.length != names.length then none else
  if vs.all (foldedForSure 8) then some none else
  if vs.all (constantsAlone 8) then none else some (some names)
theorem swOf_ok {env : Env} (he : env.scope = sc) (hk : sc.kind = .function) {ts vs : List Expr} {kt k2 : Nat} {pt pt2 : Pos} {r : Option (List Str)} (h : swOf sc ts vs = some r) : swappedStores [.Tuple ts kt pt] (.Tuple vs k2 pt2) env = pure r := by
  subst he
  unfold swOf at h
  split at h
  · cases h
  · rename_i c1
    split at h
    · cases h
    · rename_i c2
      have c2 : vs.all notStar = true := by simpa using c2
      have c2' : (vs.any fun | .Starred .. => true | _ => false) = false := by
        rw [List.any_eq_false]
        intro e he
        have := List.all_eq_true.mp c2 e he
        cases e <;> first | (cases this; done) | exact Bool.false_ne_true
      have bk : env.blockKind = .function := by unfold Env.blockKind; rw [hk]; rfl
      have c1' : (!(ts.length == 2 || ts.length == 3) || vs.length != ts.length || env.blockKind != .function) = false := by
        rw [bk]
        simpa using c1
      simp only at h
      split at h
      · cases h
      · rename_i c3
        unfold swappedStores
        simp only [c1']
        refine (if_neg Bool.false_ne_true).trans ?_
        refine (if_neg (fun hh => Bool.false_ne_true (c2'.symm.trans hh))).trans ?_
        refine (if_neg c3).trans ?_
        split at h
        · rename_i c4
          cases h
          exact if_pos c4
        · rename_i c4
          refine (if_neg c4).trans ?_
          split at h
          · cases h
          · rename_i c5
            cases h
            exact if_neg c5
end
end MP
set_option Elab.async false
set_option linter.all false
set_option maxRecDepth 100000
set_option maxHeartbeats 2000000
/-! SndX: the one exception class with a row. -/
namespace MP
open PySem L2 PySem.Spec PyProof.Rows
section
variable {X : Cx} {e : Expr} {es : List Expr} {ta : TA} {x : Str} {C0 : Addr} {mc : Value} {p1 p2 pos : Pos}
/-- C.__init__(self, ..), C an own class over ValueError without own __init__ -/
theorem pe_cinit (hg : Gl X x) (hdb : (x == ("__debug__" : Str)) = false) (hm : X.mg x = some (.ref C0)) (rd : PySem.W.readsIn X.K C0 mc = true) (ga : PySem.W.specialIn X.K (.ref C0) "__getattribute__" = some (some (.builtin "type.__getattribute__")))
    (at_ : PySem.W.findCls X.K (.ref C0) mc "__init__" = some (.val (.builtin "ValueError.__init__"))) (ha : PA X (e :: es) ta) (hs : (e :: es).all notStar = true) (hl : (p2.endLine == pos.line) = true) (hn : (e :: es).length < 20) :
    PE X (.Call (.Attribute (.Name x p1) "__init__" p2) (e :: es) [] pos) (tVeI X.K ta) := by
  refine ⟨fun pins s σ H Q I h => ?_⟩
  refine PySem.W.methodCall_KW (pl := plainOf (.Name x p1) X.env) (ld_glob I hg hm ?_ hdb) (meth_tree rfl hl hs hn)
  refine PySem.W.method_cls I.kIn ga (PySem.W.cls_value I.kIn rd at_ rfl ?_)
  have hs' := hs
  rw [List.all_cons, Bool.and_eq_true] at hs'
  show wpAny _ _ (callWith pos (Value.builtin "ValueError.__init__") [] (backTo pos (starEach (e :: es) X.env)) []) _ _ _
  refine PyProof.Rows.callWith_method1 (thn (ha.run pos pins _ σ H _ (I.tok _) h) fun us s1 ⟨vs, H1, I1, r1, a, C, ws, ev, hl, T, ea, q⟩ => ?_) (starEach_ns hs'.1) (back_plain hs'.2)
  subst ev
  cases r1 with
  | @cons _ u0 _ ur ra rw' =>
    obtain rfl : u0 = Value.ref a := ra
    have hlen : ur.length ≤ sizeLine := by
      rw [← Paired.length rw', sizeLine_eq]
      omega
    exact oinit_ok T I1 ea hlen fun s' J => ⟨.non, H1, J, rfl, q⟩
end
section
variable {g : GE} {k : Nat} {N : List Str} {sc bsc : Scope} {Wx : WX} {X : Cx} {n n' : Nat} {μ μ' : Nat → Addr} {H H' : Hp} {D' : En} {D : Ends} {a b c tg iter elt : Expr} {x y e3 : E} {pos pos' p apos : Pos} {es : List Expr} {xs : Es}
/-- raise NoText(e) -/
theorem s_raiser (F : FSt g) (O : CxOk g k N sc Wx X) {cpos : Pos} (hg : isGlob sc "NoText" = true) (hm : ("NoText" : Str) ∈ g.G.exs) (hs : notStar a = true) (ha : PE X a (EW g k Wx x)) :
    PS X (.Raise (some (.Call (.Name "NoText" p) [a] [] cpos)) none pos) (SW g k Wx (.raiser "NoText" "row" x)) := by
  obtain ⟨T, ⟨fI, fd, ps, hps, iC, tI, hb, F1⟩, hno⟩ := F.row hm
  obtain ⟨g1, g2⟩ := O.gl hg
  rw [← O.K] at T iC tI hb
  rw [← O.P, ← O.w, ← O.K, ← O.mg, ← O.base] at F1
  have r2 : Room 2 X.A := O.room.mono (by omega)
  have pm : PMk X (.Call (.Name "NoText" p) [a] [] cpos) _ := pmk_oex (ds := []) (dvs := []) T iC tI F1 r2 hb .nil (passes_call O.takes fun _ _ _ _ h => h.elim) g1 (by rw [O.mg]; exact F.clsG _ (List.mem_append_right _ hm)) (pa_cons ha pa_nil (starEach_ns hs)) g2 (starEach_ns hs) rfl
  refine (ps_raise O.calm O.takes pm).imp fun D σ H hh => ?_
  obtain ⟨μ, loc, h, D', R, L, z, q⟩ := hh
  refine ⟨μ, loc, h, _, _, R, L, z, fun w h1 μ1 H1 v z1 R1 u1 r1 => ?_, q.xo L⟩
  obtain ⟨i, rfl, hi, z1⟩ := z1
  cases r1
  refine ⟨by show 1 ≤ 1000; decide, fun a' na => ⟨rfl, a', i, rfl, hi, upd_same, fun dx hdx ne => ⟨rfl, dx, [("row", .int i)], upd_same, by rw [upd_ne (Ne.symm ?_), upd_same]; exact fun z => ne z.symm, ?_, ?_⟩⟩⟩
  · rw [upd_ne ne] at hdx; exact hdx
  · rw [upd_ne ne] at hdx
    have eH : upd (del (upd (upd (upd H1 a' (exo a' (g.ca "NoText") none)) dx (exd dx [("row", V.int i)])) a' (exo a' (g.ca "NoText") (some dx))) a') dx (.xd [("row", V.int i)]) = upd H1 dx (.xd [("row", V.int i)]) := by
      funext b
      by_cases hb : b = dx
      · rw [hb, upd_same, upd_same]
      · rw [upd_ne hb, upd_ne hb]
        by_cases hba : b = a'
        · rw [hba, del_same]; exact na.symm
        · rw [del_ne hba, upd_ne hba, upd_ne hb, upd_ne hba]
    rw [eH]
    have mo : ∀ b o, H1 b = some o → upd H1 dx (.xd [("row", V.int i)]) b = some o := upd_more hdx
    refine q.ex _ _ _ _ _ _ _ _ z1 (R1.more mo) (u1.trans (Up.more mo)) (L.up (u1.trans (Up.more mo))) ⟨rfl, ⟨dx, [("row", V.int i)], rfl, upd_same, .cons ⟨rfl, .int i⟩ .nil, fun j hj e => R1.ocp j hj (e ▸ hdx)⟩, hm, fun pp hpp => ?_⟩
    obtain rfl : pp = (("row" : Str), W.int i) := by simpa using hpp
    exact hno
end
end MP
set_option Elab.async false
set_option linter.all false
set_option maxRecDepth 100000
set_option maxHeartbeats 1000000
/-! CmpS: statements compiled, and that this is sound. -/
namespace MP
open PySem L2 PySem.Spec PyProof.Rows
def ssOf (f : Stmt → Option S) : List Stmt → Option Ss
  | [] => some .nil
  | s :: ss => match f s, ssOf f ss with
    | some x, some xs => some (.cons x xs)
    | _, _ => none
def isLoc (sc : Scope) (x : Str) : Bool := sc.names.lookup x == some .local
def compS (G : MG) (N : List Str) : Nat → Scope → Stmt → Option S
  | 0, _, _ => none
  | n + 1, sc, st => match st with
    | .Expr (.Constant (.str _) _ _) _ => some .pass
    | .Pass _ => some .pass
    | .Continue _ => some .cont
    | .Return none _ => some .retn
    | .Return (some e) _ => (compE G N n sc e).map .ret
    | .Expr e _ => if notComp e then (compE G N n sc e).map .expr else none
    | .If c a b _ => match compE G N n sc c, ssOf (compS G N n sc) a, ssOf (compS G N n sc) b with
      | some x, some y, some z => some (.ifs x y z)
      | _, _, _ => none
    | .While c b [] _ => match compE G N n sc c, ssOf (compS G N n sc) b with
      | some x, some y => some (.whl x y)
      | _, _ => none
    | .For tg it b [] _ => match tgOf N (storable sc) tg, itOf G sc tg (compE G N n sc) it, ssOf (compS G N n sc) b with
      | some t, some i, some y => some (.fors t i y)
      | _, _, _ => none
    | .Assign [.Name x p1] (.ListComp elt [⟨tg, it, ifs, 0⟩] bsc lp) _ =>
      if isLoc sc x && (p1.line == lp.line) && !(bsc.names.any fun (n, k) => n == x && (k == .local || k == .cell)) then
        match N.idxOf? x, compE G N n sc (.ListComp elt [⟨tg, it, ifs, 0⟩] bsc lp) with
        | some i, some e => some (.set i e)
        | _, _ => none
      else none
    | .Assign [.Name x _] e _ => if storable sc x && notComp e then match N.idxOf? x, compE G N n sc e with
      | some i, some y => some (.set i y)
      | _, _ => none else none
    | .Assign [.Tuple ts kt pt] (.Tuple vs k2 pt2) _ => match swOf sc ts vs with
      | some none => match tgOf N (storable sc) (.Tuple ts kt pt), compE G N n sc (.Tuple vs k2 pt2) with
        | some (.many is), some e => some (.unp is e)
        | _, _ => none
      | some (some ns) => match ts, vs with
        | [.Name x _, .Name y _], [a, b] => if isLoc sc x && isLoc sc y && ns == [x, y] then match N.idxOf? x, N.idxOf? y, esOf (compE G N n sc) [a, b] with
          | some i, some j, some xs => if i != j then some (.unp [i, j] (.tup xs)) else none
          | _, _, _ => none else none
        | [.Name x _, .Name y _, .Name z _], [a, b, c] => if isLoc sc x && isLoc sc y && isLoc sc z && ns == [x, y, z] then match N.idxOf? x, N.idxOf? y, N.idxOf? z, esOf (compE G N n sc) [a, b, c] with
          | some i, some j, some l, some xs => if i != j && i != l && j != l then some (.unp [i, j, l] (.tup xs)) else none
          | _, _, _, _ => none else none
        | _, _ => none
      | none => none
    | .Assign [.Tuple ts kt pt] e _ => if notComp e && !isTup e then match tgOf N (storable sc) (.Tuple ts kt pt), compE G N n sc e with
      | some (.many is), some y => some (.unp is y)
      | _, _ => none else none
    | .Assign [.Attribute a f _] e _ => if notComp e then match compE G N n sc a, compE G N n sc e with
      | some x, some y => some (.sfld x f y)
      | _, _ => none else none
    | .Assign [.Subscript a b _] c _ => if notComp c && notSlice b then match compE G N n sc a, compE G N n sc b, compE G N n sc c with
      | some x, some y, some z => some (.sidx x y z)
      | _, _, _ => none else none
    | .AugAssign (.Name x _) op e _ => if storable sc x then match N.idxOf? x, bopOf op, compE G N n sc e with
      | some i, some o, some y => some (.aug i o y)
      | _, _, _ => none else none
    | .AugAssign (.Attribute a f _) op e _ => match compE G N n sc a, bopOf op, compE G N n sc e with
      | some x, some o, some y => some (.augf x f o y)
      | _, _, _ => none
    | .AugAssign (.Subscript a b _) op e _ => if notSlice b then match compE G N n sc a, compE G N n sc b, bopOf op, compE G N n sc e with
      | some x, some y, some o, some z => some (.augi x y o z)
      | _, _, _, _ => none else none
    | .Raise (some (.Call (.Name x _) [a] [] _)) none _ =>
      if isGlob sc x && G.exs.contains x && notStar a then
        if x == ("NoText" : Str) then (compE G N n sc a).map (.raiser x "row")
        else match a with
          | .Constant (.str _) _ _ => if (G.fn x "__init__").isNone then some (.raise x) else none
          | _ => none
      else none
    | .Try body [.ExceptHandler (some (.Name x _)) (some en) [.Assign [.Name yn _] (.Name en2 _) _] _] [] [] _ =>
      if isGlob sc x && G.exs.contains x && isLoc sc en && isLoc sc yn && (en == en2) && !(en == ("__debug__" : Str)) && !(en == ("__classdict__" : Str)) then
        match N.idxOf? en, N.idxOf? yn, ssOf (compS G N n sc) body with
        | some i, some j, some b => some (.tryas b x i j)
        | _, _, _ => none
      else none
    | .Try body [.ExceptHandler (some (.Name x _)) none [.Assign [.Name yn _] (.Constant cn _ _) _] _] [] [] _ =>
      if isGlob sc x && G.exs.contains x && isLoc sc yn then
        match constOf cn, N.idxOf? yn, ssOf (compS G N n sc) body with
        | some w, some j, some b => some (.tryset b x j w)
        | _, _, _ => none
      else none
    | .Try body [.ExceptHandler (some (.Name x _)) none [.Return (some (.Constant cn _ _)) _] _] [] [] _ =>
      if isGlob sc x && G.exs.contains x then
        match constOf cn, ssOf (compS G N n sc) body with
        | some w, some b => some (.tryret b x w)
        | _, _ => none
      else none
    | _ => none
section
variable {g : GE} {k : Nat} {N : List Str} {sc bsc : Scope} {Wx : WX} {X : Cx}
theorem asg_sub {a b : Expr} {pos' : Pos} {env : Env} (h : notSlice b = true) : ∀ v, assign (.Subscript a b pos') env v = (do
      let ov ← holding [v] (eval a env)
      let iv ← holding [v, ov] (eval b env)
      standAt pos'
      holding [v, ov, iv] (setItem ov iv v)
      release [v, ov, iv] []) := by
  cases b <;> first | (cases h; done) | (intro _; rfl)
theorem aug_sub {b : Expr} (h : notSlice b = true) : ∀ ov iv new, augStore b ov iv new = (do holding [new, ov, iv] (setItem ov iv new); release [new, ov, iv] []; pure .next) := by
  cases b <;> first | (cases h; done) | (intros; rfl)
theorem ss_ok {f : Stmt → Option S} (hf : ∀ e x, f e = some x → PS X e (SW g k Wx x)) : ∀ {es : List Stmt} {xs : Ss}, ssOf f es = some xs → PSs X es (SWs g k Wx xs)
  | [], xs, h => by cases h; exact ss_nil
  | e :: es, xs, h => by
    unfold ssOf at h
    split at h
    · rename_i x xs' h1 h2
      cases h
      exact ss_cons (hf e x h1) (ss_ok hf h2)
    · cases h
theorem isLoc_ok {x : Str} (h : isLoc sc x = true) : sc.names.lookup x = some .local := eq_of_beq h
/-- a comprehension, taken apart -/
theorem lc_parts (F : FSt g) (FN : FnsOk g k) {n : Nat} {elt tg it : Expr} {ifs : List Expr} {lp : Pos} {e : E} (h : compE g.G N n sc (.ListComp elt [⟨tg, it, ifs, 0⟩] bsc lp) = some e) :
    ∃ (m : Nat) (t : Tg) (i : I) (x : E) (tt : TT) (step : MP.Loc → MH → (Option W → MH → Prop) → Prop), blkC N sc bsc (ownOf' N bsc) = true ∧ tgOf N (storable bsc) tg = some t ∧ itOf g.G sc tg (compE g.G N m sc) it = some i ∧
      (∀ X', CxOk g k N (relS bsc sc) W0 X' → PTs X' ifs tt) ∧ (∀ X', CxOk g k N (relS bsc sc) W0 X' → PE X' elt (EW g k W0 x)) ∧ StepOk g step tt (EW g k W0 x) ∧
      ∀ loc h Q Xq, wpE (callAt g.G k) g.G e loc h Q Xq → wpI (callAt g.G k) g.G i loc h (fun xs gd h1 => wpTurns gd t step (wipeL loc ((ownOf' N bsc).map (·.2))) xs [] h1 fun ys h3 => Q (.obj h3.n) (h3.alloc (.lst ys))) Xq := by
  cases n with
  | zero => cases h
  | succ n =>
    simp only [compE] at h
    split at h
    · rename_i hb
      split at h
      · rename_i t i x1 q1 q2 q3
        have pe : ∀ X', CxOk g k N (relS bsc sc) W0 X' → PE X' elt (EW g k W0 x1) := fun X' O' => (sndE F FN n _ _ _ q3 W0 X' O').1
        split at h
        · cases h
          exact ⟨n, t, i, x1, _, _, hb, q1, q2, fun X' O' => pts_nil, pe, st_lc, fun loc h Q Xq z => z⟩
        · rename_i c
          split at h
          · rename_i y q4
            cases h
            exact ⟨n, t, i, x1, _, _, hb, q1, q2, fun X' O' => pts_one (sndE F FN n _ _ _ q4 W0 X' O').2, pe, st_lcif, fun loc h Q Xq z => z⟩
          · cases h
        · cases h
      · cases h
    · cases h
theorem sndS (F : FSt g) (FN : FnsOk g k) : ∀ (n : Nat) (sc : Scope) (e : Stmt) (x : S), compS g.G N n sc e = some x → ∀ (Wx : WX) (X : Cx), SxOk g k N sc Wx X → PS X e (SW g k Wx x)
  | 0, _, _, _, h => by cases h
  | n + 1, sc, e, x, h => fun Wx X O => by
    have ih := fun e x h => sndS F FN n sc e x h Wx X O
    have ihE := fun e x h => sndE F FN n sc e x h Wx X O.toCxOk
    have ihV := fun e x h => (ihE e x h).1
    have kd : sc.kind = .function := by rw [← O.sc]; exact O.kind
    unfold compS at h
    split at h
    · cases h; exact s_pass ps_doc rfl
    · cases h; exact s_pass ps_pass rfl
    · cases h; exact s_cont
    · cases h; exact s_retn
    · rename_i e _
      cases q : compE g.G N n sc e with
      | none => rw [q] at h; cases h
      | some w => rw [q] at h; cases h; exact s_ret (ihV _ _ q)
    · rename_i e _ _
      split at h
      · rename_i hc
        cases q : compE g.G N n sc e with
        | none => rw [q] at h; cases h
        | some w => rw [q] at h; cases h; exact s_expr O.toCxOk hc (ihV _ _ q)
      · cases h
    · split at h
      · rename_i x1 x2 x3 q1 q2 q3
        cases h
        exact s_if (ihE _ _ q1).2 (ss_ok ih q2) (ss_ok ih q3)
      · cases h
    · split at h
      · rename_i x1 x2 q1 q2
        cases h
        exact s_while O.toCxOk (ihE _ _ q1).2 (ss_ok ih q2)
      · cases h
    · split at h
      · rename_i t i x3 q1 q2 q3
        cases h
        exact s_for O.toCxOk (it_ok F O.toCxOk ihV q2) (g_ok O.toCxOk O.st q1).1 (ss_ok ih q3) (fold_ok (f := fun _ => none) q2)
      · cases h
    · rename_i nm p1 elt tg it ifs bsc lp _
      split at h
      · rename_i c1
        simp only [Bool.and_eq_true, Bool.not_eq_true'] at c1
        obtain ⟨⟨c1, c2⟩, c3⟩ := c1
        split at h
        · rename_i ix e q1 q2
          cases h
          obtain ⟨m, t, i, x1, tt, step, hb, w1, w2, w3, w4, w5, w6⟩ := lc_parts F FN q2
          have pi := it_ok (tg := tg) F O.toCxOk (fun e x h => (sndE F FN m sc e x h Wx X O.toCxOk).1) w2
          refine (s_setLc O.toCxOk kd (isLoc_ok c1) q1 c2 c3 hb w1 w2 pi w3 w4 w5).imp fun D σ H hh => ?_
          obtain ⟨μ, loc, h, D', R, L, z, q⟩ := hh
          exact ⟨μ, loc, h, D', R, L, w6 _ _ _ _ z, q⟩
        · cases h
      · cases h
    · split at h
      · rename_i c1
        rw [Bool.and_eq_true] at c1
        split at h
        · rename_i i y q1 q2
          cases h
          exact s_set' O.toCxOk O.st c1.1 q1 c1.2 (ihV _ _ q2)
        · cases h
      · cases h
    · rename_i ts kt pt vs k2 pt2 _
      split at h
      · rename_i q0
        have hw := swOf_ok (kt := kt) (k2 := k2) (pt := pt) (pt2 := pt2) O.sc kd q0
        split at h
        · rename_i is e q1 q2
          cases h
          exact s_unpC O.toCxOk O.st q1 hw (ihV _ _ q2)
        · cases h
      · rename_i ns q0
        have hw := swOf_ok (kt := kt) (k2 := k2) (pt := pt) (pt2 := pt2) O.sc kd q0
        split at h
        · split at h
          · rename_i c1
            simp only [Bool.and_eq_true, beq_iff_eq] at c1
            obtain ⟨⟨c1, c2⟩, rfl⟩ := c1
            split at h
            · rename_i i j xs q1 q2 q3
              split at h
              · rename_i hij
                cases h
                exact s_par2 O.toCxOk (isLoc_ok c1) (isLoc_ok c2) q1 q2 (by simpa using hij) hw (es_ok ihV q3).2
              · cases h
            · cases h
          · cases h
        · split at h
          · rename_i c1
            simp only [Bool.and_eq_true, beq_iff_eq] at c1
            obtain ⟨⟨⟨c1, c2⟩, c3⟩, rfl⟩ := c1
            split at h
            · rename_i i j l xs q1 q2 q3 q4
              split at h
              · rename_i hij
                simp only [Bool.and_eq_true, bne_iff_ne] at hij
                cases h
                exact s_par3 O.toCxOk (isLoc_ok c1) (isLoc_ok c2) (isLoc_ok c3) q1 q2 q3 hij.1.1 hij.1.2 hij.2 hw (es_ok ihV q4).2
              · cases h
            · cases h
          · cases h
        · cases h
      · cases h
    · split at h
      · rename_i c1
        simp only [Bool.and_eq_true, Bool.not_eq_true'] at c1
        split at h
        · rename_i is y q1 q2
          cases h
          exact s_unp O.toCxOk O.st q1 c1.1 c1.2 (ihV _ _ q2)
        · cases h
      · cases h
    · split at h
      · rename_i c1
        split at h
        · rename_i x1 x2 q1 q2
          cases h
          exact s_sfld F O.toCxOk c1 (ihV _ _ q1) (ihV _ _ q2)
        · cases h
      · cases h
    · split at h
      · rename_i c1
        rw [Bool.and_eq_true] at c1
        split at h
        · rename_i x1 x2 x3 q1 q2 q3
          cases h
          exact s_sidx O.toCxOk c1.1 (asg_sub c1.2) (ihV _ _ q1) (ihV _ _ q2) (ihV _ _ q3)
        · cases h
      · cases h
    · split at h
      · rename_i c1
        split at h
        · rename_i i o y q1 q2 q3
          cases h
          exact s_aug O.toCxOk O.st q2 c1 q1 (ihV _ _ q3)
        · cases h
      · cases h
    · split at h
      · rename_i x1 o y q1 q2 q3
        cases h
        exact s_augf F O.toCxOk q2 (ihV _ _ q1) (ihV _ _ q3)
      · cases h
    · split at h
      · rename_i c1
        split at h
        · rename_i x1 x2 o y q1 q2 q3 q4
          cases h
          exact s_augi O.toCxOk q3 (aug_sub c1) (ihV _ _ q1) (ihV _ _ q2) (ihV _ _ q4)
        · cases h
      · cases h
    · rename_i nm _ a _ _
      split at h
      · rename_i c1
        simp only [Bool.and_eq_true] at c1
        obtain ⟨⟨c1, c2⟩, c3⟩ := c1
        have c2 := List.contains_iff_mem.mp c2
        split at h
        · rename_i hn
          obtain rfl := eq_of_beq hn
          cases q : compE g.G N n sc a with
          | none => rw [q] at h; cases h
          | some w => rw [q] at h; cases h; exact s_raiser F O.toCxOk c1 c2 c3 (ihV _ _ q)
        · rename_i hn
          split at h
          · split at h
            · rename_i hi
              cases h
              exact s_raise F O.toCxOk c1 c2 hi (by simpa using hn)
            · cases h
          · cases h
      · cases h
    · rename_i body nm _ en yn _ en2 _ _ _ _
      split at h
      · rename_i c1
        simp only [Bool.and_eq_true, Bool.not_eq_true', beq_iff_eq] at c1
        obtain ⟨⟨⟨⟨⟨⟨c1, c2⟩, c3⟩, c4⟩, rfl⟩, c6⟩, c7⟩ := c1
        split at h
        · rename_i i j b q1 q2 q3
          cases h
          exact s_tryas F O c1 (List.contains_iff_mem.mp c2) (isLoc_ok c3) q1 (isLoc_ok c4) q2 c6 c7 fun W' X' O' => ss_ok (fun e x h => sndS F FN n sc e x h W' X' O') q3
        · cases h
      · cases h
    · rename_i body nm _ yn _ cn _ _ _ _ _
      split at h
      · rename_i c1
        simp only [Bool.and_eq_true] at c1
        obtain ⟨⟨c1, c2⟩, c3⟩ := c1
        split at h
        · rename_i w j b q1 q2 q3
          cases h
          exact s_tryset F O c1 (List.contains_iff_mem.mp c2) (isLoc_ok c3) q2 q1 fun W' X' O' => ss_ok (fun e x h => sndS F FN n sc e x h W' X' O') q3
        · cases h
      · cases h
    · rename_i body nm _ cn _ _ _ _ _
      split at h
      · rename_i c1
        simp only [Bool.and_eq_true] at c1
        split at h
        · rename_i w b q1 q2
          cases h
          exact s_tryret F O c1.1 (List.contains_iff_mem.mp c1.2) q1 fun W' X' O' => ss_ok (fun e x h => sndS F FN n sc e x h W' X' O') q2
        · cases h
      · cases h
    · cases h
end
end MP
set_option Elab.async false
set_option linter.all false
set_option maxRecDepth 100000
set_option maxHeartbeats 1000000
/-! Fn: every def keeps what the small language says, to any depth. -/
namespace MP
open PySem L2 PySem.Spec PyProof.Rows
/-- a def of the text, compiled, where it stands -/
def FnAt (g : GE) (c f : Str) (d : FD) : Prop :=
  ∃ (name qual : Str) (params : Arguments) (body : List Stmt) (scope : Scope) (dV kV doc pm : Value) (an : Option Addr) (cdv ct oc : Value) (od : Option Addr) (osl : Array (Option Value)) (N : List Str) (n : Nat),
    g.fd c f = PySem.W.fnOf name qual params body scope dV kV doc pm an cdv ct ∧ g.K.lookup (g.fa c f) = some ⟨oc, od, .func (PySem.W.fnOf name qual params body scope dV kV doc pm an cdv ct), osl⟩ ∧ PySem.W.codeIn g.K cdv qual = true ∧
      FnScope N (g.ps c f) scope ∧ ssOf (compS g.G N n scope) body = some d.body ∧ N.length = d.ns
theorem fill_full {d : FD} {ws : List W} (h : ws.length = d.np) : fillD d ws = ws := by
  unfold fillD
  rw [h, Nat.add_sub_cancel_left, List.drop_length, List.append_nil]
theorem entry_LR {K : PySem.W.Frag} {n : Nat} {μ : Nat → Addr} {H : Hp} {d : FD} {N : List Str} {ws : List W} {vs : List V} (r : RWs K n μ H ws vs) : LR K n μ H (entry d ws) (L2.start N vs) := fun i w e => by
  unfold entry at e
  have hl := r.length
  by_cases hi : i < ws.length
  · rw [List.getElem?_append_left (by simpa using hi), List.getElem?_map] at e
    cases q : ws[i]? with
    | none => rw [q] at e; cases e
    | some w' =>
      rw [q] at e
      cases e
      obtain ⟨v, hv, rv⟩ := r.get q
      refine ⟨v, ?_, rv⟩
      unfold L2.start
      rw [List.getElem?_append_left (by simpa [hl] using hi), List.getElem?_map, hv]
      rfl
  · rw [List.getElem?_append_right (by simpa using hi), List.getElem?_replicate] at e
    split at e <;> cases e
theorem fns_zero {g : GE} : FnsOk g 0 := fun c f d e => ⟨fun vs H Q E z => z.1, fun A outer s H args us vs Q E hr e0 hb r z => by
  obtain ⟨_, ws, h, μ, Q', X', R, rr, z, _⟩ := z
  exact z.elim⟩
theorem fns_step {g : GE} {k : Nat} (F : FSt g) (A : ∀ c f d, g.G.fn c f = some d → FnAt g c f d) (FN : FnsOk g k) : FnsOk g (k + 1) := fun c f d e => by
  obtain ⟨name, qual, params, body, scope, dV, kV, doc, pm, an, cdv, ct, oc, od, osl, N, n, h1, h2, h3, S, h5, h6⟩ := A c f d e
  rw [h1]
  refine fn_of h2 h3 S (fun vs H Q E z => z.1) fun A outer s H vs Q E hr hsp => ?_
  obtain ⟨hl, ws, h, μ, Q', X', R, rr, ⟨d', e', hlen, z⟩, q, xo⟩ := hsp
  rw [e] at e'
  cases e'
  have hw : ws.length = d.np := by rw [← rr.length, hl, F.np c f d e]
  rw [fill_full hw] at z
  have O : SxOk g k N scope (fun cls dd _ H => E cls dd H) (cxOf (L2.CX g.P g.w) g.P g.w g.K g.mg g.base N qual scope (g.fa c f) cdv A outer s H E) := {
    P := rfl, w := rfl, K := rfl, mg := rfl, base := rfl, calm := rfl, hN := rfl, nd := S.nd, sc := rfl, takes := takes_of rfl rfl rfl rfl, po := passes_of rfl, room := hr, stk := rfl, fr := rfl, ex := rfl, fn := fun _ => rfl, kind := S.kind }
  refine ⟨_, ss_ok (fun e x h => sndS F FN n scope e x h _ _ O) h5, ?_⟩
  refine ⟨μ, entry d ws, h, _, R, entry_LR rr, z, ⟨fun loc' h' μ' H' σ' z R u L => q _ _ _ _ _ z R u .non, fun w h' μ' H' v z R u r => q _ _ _ _ _ z R u r, fun loc' h' μ' H' σ' z => z.elim, fun e loc' h' μ' H' σ' cls d z R u L rx => xo _ _ _ _ _ _ z R u rx⟩⟩
theorem fns_all {g : GE} (F : FSt g) (A : ∀ c f d, g.G.fn c f = some d → FnAt g c f d) : ∀ k, FnsOk g k
  | 0 => fns_zero
  | k + 1 => fns_step F A (fns_all F A k)
end MP
set_option Elab.async false
set_option linter.all false
set_option maxRecDepth 100000
set_option maxHeartbeats 1000000
/-! Bind: how plain parameters with plain defaults are bound. -/
namespace MP
open PySem L2 PySem.Spec PyProof.Rows
theorem lookup_app {α : Type} {n : Str} : ∀ {s t : List (Str × α)}, (s ++ t).lookup n = (s.lookup n).or (t.lookup n)
  | [], t => by simp
  | (m, v) :: s, t => by
    rw [List.cons_append, List.lookup_cons, List.lookup_cons]
    cases n == m with
    | true => rfl
    | false => exact lookup_app
theorem zip_lookup {α : Type} {n : Str} : ∀ {ps : List Str} {us : List α} {i : Nat}, ps.Nodup → ps[i]? = some n → (ps.zip us).lookup n = us[i]?
  | [], _, _, _, h => by simp at h
  | p :: ps, [], i, _, h => by simp
  | p :: ps, u :: us, 0, nd, h => by
    simp at h
    subst h
    simp [List.lookup]
  | p :: ps, u :: us, i + 1, nd, h => by
    have h' : ps[i]? = some n := by simpa using h
    have hne : (n == p) = false := by
      have : p ∉ ps := (List.nodup_cons.mp nd).1
      have hm := List.mem_of_getElem? h'
      simp only [beq_eq_false_iff_ne, ne_eq]
      intro e; subst e; exact this hm
    rw [List.zip_cons_cons, List.lookup_cons, hne]
    simpa using zip_lookup (us := us) (List.nodup_cons.mp nd).2 h'
def fillS {α : Type} (s : List (Str × α)) (x : Str × α) : List (Str × α) := if (s.lookup x.1).isNone = true then s ++ [(x.1, x.2)] else s
theorem fill_loop {α : Type} {M : Type → Type} [Monad M] [LawfulMonad M] : ∀ (l s : List (Str × α)), (forIn l s fun x s => if (s.lookup x.1).isNone = true then (pure (ForInStep.yield (s ++ [(x.1, x.2)])) : M _) else pure (ForInStep.yield s)) = pure (l.foldl fillS s)
  | [], s => by rw [List.forIn_nil]; rfl
  | x :: l, s => by
    rw [List.forIn_cons, List.foldl_cons]
    unfold fillS
    by_cases h : (s.lookup x.1).isNone = true
    · rw [if_pos h, if_pos h, pure_bind]; exact fill_loop l _
    · rw [if_neg h, if_neg h, pure_bind]; exact fill_loop l _
theorem fill_lookup {α : Type} {n : Str} : ∀ {l s : List (Str × α)}, (l.foldl fillS s).lookup n = (s.lookup n).or (l.lookup n)
  | [], s => by simp
  | (m, v) :: l, s => by
    rw [List.foldl_cons, fill_lookup]
    unfold fillS
    rw [List.lookup_cons]
    by_cases h : (s.lookup m).isNone = true
    · rw [if_pos h, lookup_app]
      cases e : s.lookup n with
      | some w => rfl
      | none =>
        show (List.lookup n [(m, v)]).or _ = _
        rw [List.lookup_cons]
        cases n == m <;> rfl
    · rw [if_neg h]
      cases e : s.lookup n with
      | some w => rfl
      | none =>
        cases q : n == m with
        | true =>
          rw [eq_of_beq q] at e
          rw [e] at h
          exact absurd rfl h
        | false => rfl
theorem zip_of {α : Type} {L : List (Str × α)} : ∀ {ps : List Str} {w : List α}, w.length = ps.length → (∀ (i : Nat) (n : Str), ps[i]? = some n → L.lookup n = w[i]?) → ps.filterMap (fun n => (L.lookup n).map fun v => (n, v)) = ps.zip w
  | [], [], _, _ => rfl
  | p :: ps, v :: w, hl, h => by
    have h0 := h 0 p rfl
    rw [List.filterMap_cons, h0]
    show (p, v) :: _ = _
    rw [List.zip_cons_cons, zip_of (by simpa using hl) fun i n e => by simpa using h (i + 1) n (by simpa using e)]
/-- parameters ps; us the values given, its the last ones' defaults -/
theorem bind_gen {fd : FuncData} {us its : List Value} {ps : List Str} (hp : fd.params.posonlyargs = []) (hn : fd.params.args.map (·.arg) = ps) (hv : fd.params.vararg = none) (hk : fd.params.kwonlyargs = []) (hkw : fd.params.kwarg = none) (nd : ps.Nodup)
    (hl : us.length ≤ ps.length) (hi : its.length ≤ ps.length) (hd : ps.length ≤ us.length + its.length) :
    ∃ k, bindArgs fd ⟨us, []⟩ = seqItems? fd.defaults >>= k ∧ ∀ r, (r.getD #[]).toList = its → k r = pure (ps.zip (us ++ its.drop (us.length + its.length - ps.length))) := by
  unfold bindArgs
  simp only [hp, hv, hk, hkw, List.map_nil, List.nil_append, List.append_nil, List.forIn_nil, pure_bind, bind_pure, hn]
  refine ⟨_, rfl, fun r e => ?_⟩
  have e1 : (decide (us.length > ps.length) && (none : Option Arg).isNone) = false := by
    have : ¬ us.length > ps.length := by omega
    simp [this]
  have e2 : its.drop (its.length - ps.length) = its := by rw [show its.length - ps.length = 0 by omega]; rfl
  have e3 : ((ps.take (ps.length - its.length)).filter fun n => ((ps.zip us).lookup n).isNone) = [] := by
    rw [List.filter_eq_nil_iff]
    intro n hm
    obtain ⟨i, hi', hg⟩ := List.mem_iff_getElem?.mp hm |>.imp fun i h => (⟨by
      have := (List.getElem?_eq_some_iff.mp h).1
      simpa using this, h⟩ : i < min (ps.length - its.length) ps.length ∧ _)
    have hg' : ps[i]? = some n := by
      rw [List.getElem?_take_of_lt (by omega)] at hg
      exact hg
    rw [zip_lookup nd hg', List.getElem?_eq_getElem (by omega)]
    simp
  simp only [e, e1, e2, e3, Bool.false_eq_true, if_false, List.isEmpty_nil, Bool.not_true]
  rw [fill_loop, pure_bind]
  refine congrArg pure (zip_of (by rw [List.length_append, List.length_drop]; omega) fun i n h => ?_)
  have hil : i < ps.length := (List.getElem?_eq_some_iff.mp h).1
  rw [fill_lookup, zip_lookup nd h]
  by_cases hu : i < us.length
  · rw [List.getElem?_append_left hu, List.getElem?_eq_getElem hu]
    rfl
  · rw [List.getElem?_eq_none (by omega), List.getElem?_append_right (by omega), List.getElem?_drop]
    show List.lookup n ((ps.drop (ps.length - its.length)).zip its) = _
    rw [zip_lookup (i := i - (ps.length - its.length)) (nd.sublist (List.drop_sublist _ _)) (by rw [List.getElem?_drop]; rw [show ps.length - its.length + (i - (ps.length - its.length)) = i by omega]; exact h)]
    congr 1
    omega
end MP
set_option Elab.async false
set_option linter.all false
set_option maxRecDepth 100000
set_option maxHeartbeats 1000000
/-! Facts: what is looked up behind the top, and that it is all that the layer wants. -/
namespace MP
open PySem L2 PySem.Spec PyProof.Rows
/-- a law's tables -/
structure Tb where
  fns : List ((Str × Str) × (List Str × FD))
  con : List (Str × W)
  sub : List (Str × Str)
  fld : List (Str × Str)
  cls : List Str
  exs : List Str
def Tb.mg (t : Tb) : MG where
  fn := fun c f => (t.fns.lookup (c, f)).map (·.2)
  con := fun x => t.con.lookup x
  sub := fun c d => t.sub.contains (c, d)
  fld := fun c f => t.fld.contains (c, f)
  cls := t.cls
  exs := t.exs
def fAdr (K : PySem.W.Frag) (c f : Str) : Addr := if c = Str.empty then He.ga K f else He.ma K (He.ga K c) f
def fdAt (K : PySem.W.Frag) (a : Addr) : FuncData := match K.lookup a with
  | some ⟨_, _, .func fd, _⟩ => fd
  | _ => default
def stB : FuncBody → List Stmt
  | .stmts b => b
  | _ => []
def isSt : FuncBody → Bool
  | .stmts _ => true
  | _ => false
def psAt (K : PySem.W.Frag) (a : Addr) : List Str := (fdAt K a).params.args.map (·.arg)
def geOf (t : Tb) (P : Program) (w : World) (K : PySem.W.Frag) (mg : Str → Option Value) (base : Heap) : GE :=
  ⟨P, w, K, mg, base, t.mg, fun c => He.ga K c, fAdr K, fun c f => fdAt K (fAdr K c f), fun c f => psAt K (fAdr K c f)⟩
/-! ### constants -/
def relWs (f : W → Value → Bool) : List W → List Value → Bool
  | [], [] => true
  | w :: ws, u :: us => f w u && relWs f ws us
  | _, _ => false
def relW (K : PySem.W.Frag) : Nat → W → Value → Bool
  | 0, _, _ => false
  | n + 1, w, u => match w, u with
    | .non, .none => true
    | .bl b, .bool c => b == c
    | .int i, .int j _ => decide (i = j)
    | .str x, .str y _ => decide (x = y)
    | .tup ws, .ref a => (match K.lookup a with
      | some ⟨.type c, _, .seq its _, _⟩ => decide (c = "tuple") && (decide (its.size ≤ sizeLine) && relWs (relW K n) ws its.toList)
      | _ => false)
    | .scr ws, .ref a => (match K.lookup a with
      | some ⟨.type c, none, .seq its _, _⟩ => decide (c = "list") && (decide (its.size ≤ sizeLine) && relWs (relW K n) ws its.toList)
      | _ => false)
    | _, _ => false
def WOk (K : PySem.W.Frag) (w : W) (u : Value) : Prop := ∃ v, RelV v u ∧ ∀ N μ H, RW K N μ H w v
theorem relWs_ok {K : PySem.W.Frag} {f : W → Value → Bool} (hf : ∀ w u, f w u = true → WOk K w u) : ∀ {ws : List W} {us : List Value}, relWs f ws us = true → ∃ vs, Vals vs us ∧ ∀ N μ H, RWs K N μ H ws vs
  | [], [], _ => ⟨[], .nil, fun _ _ _ => .nil⟩
  | [], _ :: _, h => by cases h
  | _ :: _, [], h => by cases h
  | w :: ws, u :: us, h => by
    obtain ⟨h1, h2⟩ := He.ba (show (f w u && relWs f ws us) = true from h)
    obtain ⟨v, a1, a2⟩ := hf w u h1
    obtain ⟨vs, b1, b2⟩ := relWs_ok hf h2
    exact ⟨v :: vs, .cons a1 b1, fun _ _ _ => .cons (a2 _ _ _) (b2 _ _ _)⟩
theorem relW_ok {K : PySem.W.Frag} : ∀ (n : Nat) (w : W) (u : Value), relW K n w u = true → WOk K w u
  | 0, _, _, h => by cases h
  | n + 1, w, u, h => by
    unfold relW at h
    split at h
    · exact ⟨.non, rfl, fun _ _ _ => .non⟩
    · obtain rfl := eq_of_beq h
      exact ⟨.bl _, rfl, fun _ _ _ => .bl _⟩
    · obtain rfl := of_decide_eq_true h
      exact ⟨.int _, ⟨_, rfl⟩, fun _ _ _ => .int _⟩
    · obtain rfl := of_decide_eq_true h
      exact ⟨.str _, ⟨_, rfl⟩, fun _ _ _ => .str _⟩
    · split at h
      · rename_i c od its m sl q
        obtain ⟨h1, h2⟩ := He.ba h
        obtain ⟨h3, h4⟩ := He.ba h2
        obtain ⟨vs, b1, b2⟩ := relWs_ok (relW_ok n) h4
        exact ⟨.ref _, rfl, fun _ _ _ => .tup (.inr ⟨_, its, m, q, congrArg Value.type (of_decide_eq_true h1), rfl, of_decide_eq_true h3, b1⟩) (b2 _ _ _)⟩
      · cases h
    · split at h
      · rename_i c its m sl q
        obtain ⟨h1, h2⟩ := He.ba h
        obtain ⟨h3, h4⟩ := He.ba h2
        obtain ⟨vs, b1, b2⟩ := relWs_ok (relW_ok n) h4
        exact ⟨.ref _, rfl, fun _ _ _ => .scr (.inr ⟨_, its, m, q, congrArg Value.type (of_decide_eq_true h1), rfl, rfl, of_decide_eq_true h3, b1⟩) (b2 _ _ _)⟩
      · cases h
    · cases h
/-! ### a def -/
def scopeB (N P : List Str) (sc : Scope) : Bool := (match sc.kind with | .function => true | _ => false) && (!sc.isCoroutine && (!sc.isGenerator && (decide N.Nodup && (decide (N.take P.length = P) &&
  ((P.all fun x => sc.names.lookup x == some .local || sc.names.lookup x == some .cell) && sc.names.all fun y => !(y.2 == .free))))))
theorem scopeB_ok {N P : List Str} {sc : Scope} (h : scopeB N P sc = true) : FnScope N P sc := by
  obtain ⟨h1, h⟩ := He.ba h
  obtain ⟨h2, h⟩ := He.ba h
  obtain ⟨h3, h⟩ := He.ba h
  obtain ⟨h4, h⟩ := He.ba h
  obtain ⟨h5, h⟩ := He.ba h
  obtain ⟨h6, h7⟩ := He.ba h
  refine ⟨?_, by simpa using h2, by simpa using h3, of_decide_eq_true h4, of_decide_eq_true h5, fun x hx => ?_, fun y hy e => ?_⟩
  · split at h1
    · assumption
    · cases h1
  · have := List.all_eq_true.mp h6 x hx
    rcases Bool.or_eq_true _ _ |>.mp this with z | z
    · exact .inl (eq_of_beq z)
    · exact .inr (eq_of_beq z)
  · have := List.all_eq_true.mp h7 y hy
    rw [e] at this
    cases this
def dflB (K : PySem.W.Frag) (dV : Value) : List W → Bool
  | [] => (match dV with
    | .none => true
    | _ => false)
  | w :: ws => (match dV with
    | .ref T => (match K.lookup T with
      | some ⟨_, _, .seq its _, _⟩ => relWs (relW K 8) (w :: ws) its.toList
      | _ => false)
    | _ => false)
def parB (p : Arguments) : Bool := p.posonlyargs.isEmpty && (p.vararg.isNone && (p.kwonlyargs.isEmpty && p.kwarg.isNone))
def fnB (K : PySem.W.Frag) (e : (Str × Str) × (List Str × FD)) : Bool := match K.lookup (fAdr K e.1.1 e.1.2) with
  | some ⟨_, _, .func fd, _⟩ => PySem.W.keepIn K (.ref (fAdr K e.1.1 e.1.2)) && (decide (fd.globals = mainGlobals) && (fd.closure.isEmpty && (decide (fd.builtins = builtinsNs) && (isSt fd.body && (PySem.W.codeIn K fd.code fd.qualname && (parB fd.params &&
      (scopeB e.2.1 (fd.params.args.map (·.arg)) fd.scope && (decide (e.2.1.length = e.2.2.ns) && (decide ((fd.params.args.map (·.arg)).length = e.2.2.np) && (dflB K fd.defaults e.2.2.dfl && decide (e.2.2.dfl.length ≤ e.2.2.np)))))))))))
  | _ => false
structure FnF (K : PySem.W.Frag) (a : Addr) (N : List Str) (d : FD) : Prop where
  kp : PySem.W.keepIn K (.ref a) = true
  lk : ∃ oc od osl name qual params body scope dV kV doc pm an cdv ct, K.lookup a = some ⟨oc, od, .func (PySem.W.fnOf name qual params body scope dV kV doc pm an cdv ct), osl⟩ ∧ fdAt K a = PySem.W.fnOf name qual params body scope dV kV doc pm an cdv ct ∧ PySem.W.codeIn K cdv qual = true ∧
    parB params = true ∧ FnScope N (params.args.map (·.arg)) scope ∧ N.length = d.ns ∧ (params.args.map (·.arg)).length = d.np ∧ dflB K dV d.dfl = true ∧ d.dfl.length ≤ d.np
theorem fnB_ok {K : PySem.W.Frag} {e : (Str × Str) × (List Str × FD)} (h : fnB K e = true) : FnF K (fAdr K e.1.1 e.1.2) e.2.1 e.2.2 := by
  unfold fnB at h
  split at h
  · rename_i oc od fd osl q
    obtain ⟨h1, h⟩ := He.ba h
    obtain ⟨h2, h⟩ := He.ba h
    obtain ⟨h3, h⟩ := He.ba h
    obtain ⟨h4, h⟩ := He.ba h
    obtain ⟨h5, h⟩ := He.ba h
    obtain ⟨h6, h⟩ := He.ba h
    obtain ⟨h7, h⟩ := He.ba h
    obtain ⟨h8, h⟩ := He.ba h
    obtain ⟨h9, h⟩ := He.ba h
    obtain ⟨h10, h⟩ := He.ba h
    obtain ⟨h11, h12⟩ := He.ba h
    have eq : fdAt K (fAdr K e.1.1 e.1.2) = fd := by unfold fdAt; rw [q]
    obtain ⟨n1, n2, n3, n4, n5, n6, n7, n8, n9, n10, n11, n12, n13, n14, n15⟩ := fd
    obtain rfl : n6 = mainGlobals := of_decide_eq_true h2
    obtain rfl : n7 = [] := List.isEmpty_iff.mp h3
    obtain rfl : n15 = builtinsNs := of_decide_eq_true h4
    cases n4 with
    | stmts b => exact ⟨h1, oc, od, osl, n1, n2, n3, b, n5, n8, n9, n10, n11, n12, n13, n14, q, eq, h6, h7, scopeB_ok h8, of_decide_eq_true h9, of_decide_eq_true h10, h11, of_decide_eq_true h12⟩
    | _ => cases h5
  · cases h
theorem par_ok {p : Arguments} (h : parB p = true) : p.posonlyargs = [] ∧ p.vararg = none ∧ p.kwonlyargs = [] ∧ p.kwarg = none := by
  obtain ⟨h1, h⟩ := He.ba h
  obtain ⟨h2, h⟩ := He.ba h
  obtain ⟨h3, h4⟩ := He.ba h
  exact ⟨List.isEmpty_iff.mp h1, Option.isNone_iff_eq_none.mp h2, List.isEmpty_iff.mp h3, Option.isNone_iff_eq_none.mp h4⟩
theorem FnF.binds {K : PySem.W.Frag} {a : Addr} {N : List Str} {d : FD} (f : FnF K a N d) (m : Nat) : ∃ (dvs : List V) (ds : List Value), Vals dvs ds ∧ (∀ N μ H, RWs K N μ H (d.dfl.drop m) dvs) ∧ Binds K (fdAt K a) (psAt K a) ds := by
  obtain ⟨kp, oc, od, osl, name, qual, params, body, scope, dV, kV, doc, pm, an, cdv, ct, lk, eq, hcd, hp, S, hns, hnp, hd, hdl⟩ := f
  obtain ⟨p1, p2, p3, p4⟩ := par_ok hp
  have ePs : psAt K a = params.args.map (·.arg) := by unfold psAt; rw [eq]
  have nd : (params.args.map (·.arg)).Nodup := by rw [← S.pre]; exact S.nd.sublist (List.take_sublist _ _)
  rw [ePs, eq]
  have gen : ∀ (its : List Value) (dvs : List V), Vals dvs its → (∀ N μ H, RWs K N μ H d.dfl dvs) → its.length = d.dfl.length → (∀ (s : Shared) (k : Option (Array Value) → Sem (List (Str × Value))) (r : List (Str × Value)), K.In s.heap → (∀ o, (o.getD #[]).toList = its → k o = pure r) → ∀ M, PySem.W.Looks M s.heap (seqItems? dV >>= k) r) →
      ∃ (dvs : List V) (ds : List Value), Vals dvs ds ∧ (∀ N μ H, RWs K N μ H (d.dfl.drop m) dvs) ∧ Binds K (PySem.W.fnOf name qual params body scope dV kV doc pm an cdv ct) (params.args.map (·.arg)) ds := fun its dvs rv rw' hl hlook => by
    refine ⟨dvs.drop m, its.drop m, rv.drop m, fun N μ H => (rw' N μ H).drop m, fun s us X hlen => ?_⟩
    rw [List.length_append, List.length_drop] at hlen
    have hil : its.length ≤ (params.args.map (·.arg)).length := by rw [hl, hnp]; exact hdl
    obtain ⟨k, e1, e2⟩ := bind_gen (fd := PySem.W.fnOf name qual params body scope dV kV doc pm an cdv ct) (us := us) (its := its) (ps := params.args.map (·.arg)) p1 rfl p2 p3 p4 nd (by omega) hil (by omega)
    refine BindsTo.of_looks fun M => ?_
    rw [e1]
    have ed : its.drop (us.length + its.length - (params.args.map (·.arg)).length) = its.drop m := by
      by_cases hm : m ≤ its.length
      · congr 1; omega
      · rw [List.drop_eq_nil_of_le (by omega), List.drop_eq_nil_of_le (by omega)]
    rw [← ed]
    exact hlook s k _ X e2 M
  cases hdf : d.dfl with
  | nil =>
    rw [hdf] at hd gen
    cases dV with
    | none =>
      have go : ∀ (s : Shared) (k : Option (Array Value) → Sem (List (Str × Value))) (r : List (Str × Value)), K.In s.heap → (∀ o, (o.getD #[]).toList = ([] : List Value) → k o = pure r) → ∀ M, PySem.W.Looks M s.heap (seqItems? .none >>= k) r := by
        intro s k r X hk M
        have e : (seqItems? .none >>= k) = pure r := by
          show k none = _
          exact hk none rfl
        rw [e]
        exact PySem.W.Looks.of_pure rfl
      exact gen [] [] .nil (fun _ _ _ => .nil) rfl go
    | _ => cases hd
  | cons w ws =>
    rw [hdf] at hd gen
    cases dV with
    | ref T =>
      have h1 : (match K.lookup T with
        | some ⟨_, _, .seq its _, _⟩ => relWs (relW K 8) (w :: ws) its.toList
        | _ => false) = true := hd
      split at h1
      · rename_i oc2 od2 its n2 sl2 q
        obtain ⟨vs, b1, b2⟩ := relWs_ok (relW_ok 8) h1
        refine gen its.toList vs b1 b2 (by rw [← b1.length, (b2 0 (fun _ => 0) (fun _ => none)).length]) fun s k r X hk M => ?_
        exact looks_items X q rfl (PySem.W.Looks.of_pure (hk _ rfl))
      · cases h1
    | _ => cases hd
end MP
set_option Elab.async false
set_option linter.all false
set_option maxRecDepth 100000
set_option maxHeartbeats 1000000
/-! Facts2: the one check, and what follows of it. -/
namespace MP
open PySem L2 PySem.Spec PyProof.Rows
open He (eqO eqO_ok ba)
def okd (b : Option Bool) (c : Bool) : Bool := decide (b = some c)
def clsB (K : PySem.W.Frag) (c : Str) : Bool := (He.Fa.cls c).ok K
def ownB (K : PySem.W.Frag) (c : Str) : Bool := eqO (PySem.W.findIn K (.ref (He.ga K c)) "__class__") (some (some (.builtin "object.__class__"))) && (okd (PySem.W.mroIn K (He.ga K c) (.type "object")) true && (He.Fa.glo c).ok K)
def excB (K : PySem.W.Frag) (c : Str) : Bool := PySem.W.hasDictIn K (He.ga K c) && (eqO (PySem.W.findIn K (.ref (He.ga K c)) "__getattribute__") (some (some (.builtin "BaseException.__getattribute__"))) && (eqO (PySem.W.findIn K (.ref (He.ga K c)) "__getattr__") (some none) &&
  (okd (PySem.W.subIn K (.ref (He.ga K c)) (.type "BaseException")) true && decide (PySem.W.typeIn K (.ref (He.ga K c)) = some (.type "type")))))
def tyN : List String := ["NoneType", "bool", "int", "str", "list", "tuple", "dict"]
def tyN2 : List String := ["int", "bool", "str", "tuple", "list", "dict"]
def kitB (t : Tb) (K : PySem.W.Frag) : Bool := (t.cls ++ t.exs).all fun c => (tyN.all fun T => okd (PySem.W.kitOne K (.type T) (.ref (He.ga K c))) false) && ((tyN2.all fun T => okd (PySem.W.kitOne K (.ref (He.ga K c)) (.type T)) false) &&
  (t.cls ++ t.exs).all fun d => okd (PySem.W.kitOne K (.ref (He.ga K c)) (.ref (He.ga K d))) (t.sub.contains (c, d)))
def exmB (t : Tb) (K : PySem.W.Frag) : Bool := t.exs.all fun c => t.exs.all fun d => okd (PySem.W.exmOne K (.ref (He.ga K c)) (.ref (He.ga K d))) (t.sub.contains (c, d))
def fldB (t : Tb) (K : PySem.W.Frag) : Bool := t.fld.all fun p => (He.Fa.noat p.1 p.2).ok K
/-- where a def stands -/
def whB (t : Tb) (K : PySem.W.Frag) (e : (Str × Str) × (List Str × FD)) : Bool := if e.1.1 = Str.empty then (He.Fa.glo e.1.2).ok K else t.cls.contains e.1.1 && ((He.Fa.meth e.1.1 e.1.2).ok K && (if e.1.2 = "__init__" then (He.Fa.mkr e.1.1).ok K else true))
def conB (t : Tb) (K : PySem.W.Frag) : Bool := t.con.all fun p => match PySem.W.nsIn K mainGlobals p.1 with
  | some (some u) => relW K 8 p.2 u
  | _ => false
/-! the class with a row -/
def isRow : List Stmt → Bool
  | [.Expr (.Call (.Attribute (.Name a _) b p2) [.Name s1 _, .BinOp (.Constant (.str r) _ _) .Add (.Call (.Name st _) [.Name r1 _] [] _) _] [] pos) _, .Assign [.Attribute (.Name s2 _) f _] (.Name r2 _) _] =>
    decide (a = "WireError") && (decide (b = "__init__") && (decide (s1 = "self") && (decide (st = "str") && (decide (r1 = "row") && (decide (s2 = "self") && (decide (f = "row") && (decide (r2 = "row") && ((p2.endLine == pos.line) && decide (r = "row ")))))))))
  | _ => false
def rowN : List Str := [("self" : Str), ("row" : Str)]
def isLocB (sc : Scope) (x : Str) : Bool := sc.names.lookup x == some .local
def rowFnB (K : PySem.W.Frag) (a : Addr) : Bool := match K.lookup a with
  | some ⟨_, _, .func fd, _⟩ => decide (fd.globals = mainGlobals) && (fd.closure.isEmpty && (decide (fd.builtins = builtinsNs) && (isSt fd.body && (PySem.W.codeIn K fd.code fd.qualname && (parB fd.params &&
      (decide (fd.params.args.map (·.arg) = rowN) && (scopeB rowN rowN fd.scope && (dflB K fd.defaults [] && (isRow (stB fd.body) && (isGlob fd.scope "WireError" && (isGlob fd.scope "str" && (isLocB fd.scope "self" && isLocB fd.scope "row"))))))))))))
  | _ => false
def oexB (K : PySem.W.Frag) (C : Addr) : Bool := match K.lookup C with
  | some ⟨.type "type", _, .cls cd, sl⟩ => (match cd.mro, sl.toList with
    | .ref C' :: bm, [_, _, _, _, some (.builtin n), _] => decide (C' = C) && (decide (n = "ValueError.__new__") && (!cd.hasDel && (cd.hasDict && PySem.HandSPX.refsVE bm)))
    | _, _ => false)
  | _ => false
def rowB (K : PySem.W.Frag) : Bool := oexB K (He.ga K "NoText") && (eqO (PySem.W.findIn K (.ref (He.ga K "NoText")) "__setattr__") (some (some (.builtin "object.__setattr__"))) && (PySem.W.keepIn K (.ref (He.ga K "NoText")) &&
  (eqO (PySem.W.findIn K (.ref (He.ga K "NoText")) "__init__") (some (some (.ref (He.ma K (He.ga K "NoText") "__init__")))) && (decide (PySem.W.typeIn K (.ref (He.ma K (He.ga K "NoText") "__init__")) = some (.type "function")) && (rowFnB K (He.ma K (He.ga K "NoText") "__init__") &&
  ((He.Fa.noat "NoText" "row").ok K && ((He.Fa.glo "WireError").ok K && (PySem.W.readsIn K (He.ga K "WireError") (.type "type") && (eqO (PySem.W.specialIn K (.ref (He.ga K "WireError")) "__getattribute__") (some (some (.builtin "type.__getattribute__"))) &&
  (match PySem.W.findCls K (.ref (He.ga K "WireError")) (.type "type") "__init__" with | some (.val v) => decide (v = .builtin "ValueError.__init__") | _ => false))))))))))
/-- the parts, one by one -/
def chks (t : Tb) (K : PySem.W.Frag) : List Bool := [t.cls.all (clsB K), (t.cls ++ t.exs).all (ownB K), eqO (PySem.W.specialIn K (.builtin "object.__class__") "__get__") (some (some (.builtin "getset_descriptor.__get__"))), okd (PySem.W.takesIn K (.builtin "object.__class__")) true,
  t.exs.all (excB K), kitB t K, exmB t K, fldB t K, t.fns.all (fnB K), t.fns.all (whB t K), freeNames.all (fun x => (He.Fa.free x).ok K), conB t K,
  t.exs.all (fun c => if c = "NoText" then rowB K else (He.Fa.exc c).ok K), decide (Str.empty ∉ t.cls)]
end MP
set_option Elab.async false
set_option linter.all false
set_option maxRecDepth 100000
set_option maxHeartbeats 1000000
/-! Facts3: the facts of the check. -/
namespace MP
open PySem L2 PySem.Spec PyProof.Rows
open He (eqO eqO_ok ba)
theorem okd_ok {b : Option Bool} {c : Bool} (h : okd b c = true) : b = some c := of_decide_eq_true h
section
variable {t : Tb} {P : Program} {w : World} {K : PySem.W.Frag} {mg : Str → Option Value} {base h : Heap}
theorem all_get {α : Type} {l : List α} {p : α → Bool} (h : l.all p = true) {a : α} (ha : a ∈ l) : p a = true := List.all_eq_true.mp h a ha
/-! ### the class with a row -/
theorem oex_ok {C : Addr} (h : oexB K C = true) : ∃ nm q N bs bm sn sub ab col dd k0 k1 k2 k3 k5, K.lookup C = some (excClassObj nm q C N bs bm true sn sub ab col dd k0 k1 k2 k3 k5 "ValueError.__new__") ∧ PySem.HandSPX.refsVE bm = true := by
  unfold oexB at h
  split at h
  · rename_i dd cd sl ho
    split at h
    · rename_i C' bm k0 k1 k2 k3 n k5 hm hs
      obtain ⟨h1, h⟩ := ba h
      obtain ⟨h2, h⟩ := ba h
      obtain ⟨h3, h⟩ := ba h
      obtain ⟨h4, h5⟩ := ba h
      obtain rfl : C' = C := of_decide_eq_true h1
      obtain rfl : n = "ValueError.__new__" := of_decide_eq_true h2
      obtain ⟨nm, bs, mro, ns, qn, hd, sn, sub, ab, col, del⟩ := cd
      dsimp only at hm h3 h4
      subst hm h4
      obtain rfl : del = false := by simpa using h3
      have hsl : sl = #[k0, k1, k2, k3, some (.builtin "ValueError.__new__"), k5] := by
        obtain ⟨l⟩ := sl
        simp only at hs
        rw [hs]
      subst hsl
      exact ⟨nm, qn, ns, bs, bm, sn, sub, ab, col, dd, k0, k1, k2, k3, k5, ho, h5⟩
    · cases h
  · cases h
theorem vis_loc {sc : Scope} {x : Str} (h : isLocB sc x = true) : Vis sc x := .inl (eq_of_beq h)
theorem row_fn (X : K.In h) (G : h.Ns mainGlobals mg) (hw : (He.Fa.glo "WireError").ok K = true) (hs : (He.Fa.free "str").ok K = true) (rd : PySem.W.readsIn K (He.ga K "WireError") (.type "type") = true)
    (gt : PySem.W.specialIn K (.ref (He.ga K "WireError")) "__getattribute__" = some (some (.builtin "type.__getattribute__"))) (at_ : PySem.W.findCls K (.ref (He.ga K "WireError")) (.type "type") "__init__" = some (.val (.builtin "ValueError.__init__")))
    (T : OexC K (He.ga K "NoText")) (hno : NoAttr K (He.ga K "NoText") "row") {a : Addr} (hf : rowFnB K a = true) :
    ∃ (fd : FuncData) (ps : List Str), ps.length = 2 ∧ Binds K fd ps [] ∧ FnOk P w K mg base (L2.CX P w) 1 a fd ps (spRow (He.ga K "NoText")) := by
  unfold rowFnB at hf
  split at hf
  · rename_i oc od fd osl q
    obtain ⟨h2, hf⟩ := ba hf
    obtain ⟨h3, hf⟩ := ba hf
    obtain ⟨h4, hf⟩ := ba hf
    obtain ⟨h5, hf⟩ := ba hf
    obtain ⟨h6, hf⟩ := ba hf
    obtain ⟨h7, hf⟩ := ba hf
    obtain ⟨h8, hf⟩ := ba hf
    obtain ⟨h9, hf⟩ := ba hf
    obtain ⟨h10, hf⟩ := ba hf
    obtain ⟨h11, hf⟩ := ba hf
    obtain ⟨h12, hf⟩ := ba hf
    obtain ⟨h13, hf⟩ := ba hf
    obtain ⟨h14, h15⟩ := ba hf
    obtain ⟨n1, n2, n3, n4, scope, n8, n7, dV, kV, n10, n11, n12, n13, n14, n15⟩ := fd
    obtain rfl : n8 = mainGlobals := of_decide_eq_true h2
    obtain rfl : n7 = [] := List.isEmpty_iff.mp h3
    obtain rfl : n15 = builtinsNs := of_decide_eq_true h4
    cases n4 with
    | expr b => cases h5
    | stmts body =>
      have eps : n3.args.map (·.arg) = rowN := of_decide_eq_true h8
      obtain ⟨p1, p2, p3, p4⟩ := par_ok h7
      have S : FnScope rowN rowN scope := scopeB_ok h9
      refine ⟨_, rowN, rfl, ?_, fn_of q h6 S (fun vs H Q E z => z.1) fun A outer s H vs Q E hr hsp => ?_⟩
      · have d1 : dV = .none := by cases dV <;> first | rfl | cases h10
        subst d1
        intro s us X hlen
        rw [List.append_nil] at hlen ⊢
        obtain ⟨k, e1, e2⟩ := bind_gen (fd := ⟨n1, n2, n3, .stmts body, scope, mainGlobals, [], .none, kV, n10, n11, n12, n13, n14, builtinsNs⟩) (us := us) (its := []) (ps := rowN) p1 eps p2 p3 p4 S.nd (Nat.le_of_eq hlen) (Nat.zero_le _) (by simp [hlen])
        refine BindsTo.of_eq (e1.trans ?_)
        show k none = _
        rw [e2 none rfl]
        simp
      · obtain ⟨_, a', i, rfl, hi, ha, hq⟩ := hsp
        have isb : isRow body = true := h11
        unfold isRow at isb
        split at isb
        · rename_i an _ bn p2 s1 _ r _ _ st _ r1 _ _ _ pos _ s2 _ f _ r2 _ _
          obtain ⟨c1, isb⟩ := ba isb
          obtain ⟨c2, isb⟩ := ba isb
          obtain ⟨c3, isb⟩ := ba isb
          obtain ⟨c4, isb⟩ := ba isb
          obtain ⟨c5, isb⟩ := ba isb
          obtain ⟨c6, isb⟩ := ba isb
          obtain ⟨c7, isb⟩ := ba isb
          obtain ⟨c8, isb⟩ := ba isb
          obtain ⟨c9, c10⟩ := ba isb
          obtain rfl := of_decide_eq_true c1
          obtain rfl := of_decide_eq_true c2
          obtain rfl := of_decide_eq_true c3
          obtain rfl := of_decide_eq_true c4
          obtain rfl := of_decide_eq_true c5
          obtain rfl := of_decide_eq_true c6
          obtain rfl := of_decide_eq_true c7
          obtain rfl := of_decide_eq_true c8
          obtain rfl := of_decide_eq_true c10
          have gW := Bool.and_eq_true_iff.mp h12
          have gS := Bool.and_eq_true_iff.mp h13
          have vs : Vis scope "self" := vis_loc h14
          have vr : Vis scope "row" := vis_loc h15
          refine ⟨_, pss_cons (ps_expr (pe_cinit (eq_of_beq gW.1) (by decide) (He.glo_ok X G hw) rd gt at_ (pa_cons (pe_var (i := 0) rfl vs) (pa_cons (pe_op op_add_str pe_str (pe_callTy call_str_int (eq_of_beq gS.1) (He.free_ok X G hs) rfl (pa_cons (pe_var (i := 1) rfl vr) pa_nil))) pa_nil)) rfl c9 (by show 2 < 20; decide)))
            (pss_one (ps_ost (pe_var (i := 0) rfl vs) (pe_var (i := 1) rfl vr))), ?_⟩
          have hlen := int_text_len_1921 hi
          refine ⟨_, rfl, _, rfl, i, rfl, hi, _, _, rfl, rfl, by
            rw [sizeLine_eq]
            have e4 : (Str.ofString "row ").length = 4 := by rfl
            omega, a', _, _, rfl, by show 1 ≤ 1000; decide, T, ha, ?_⟩
          exact ⟨_, rfl, _, rfl, a', _, rfl, T, hno, .inl ⟨ha, fun dx n ne => hq dx n ne⟩⟩
        · cases isb
  · cases hf
end
end MP
set_option Elab.async false
set_option linter.all false
set_option maxRecDepth 100000
set_option maxHeartbeats 1000000
/-! Facts4: the layer's facts, the Hook, the end. -/
namespace MP
open PySem L2 PySem.Spec PyProof.Rows
open He (eqO eqO_ok ba)
theorem mem_lk {α β : Type} [BEq α] [LawfulBEq α] {k : α} {v : β} : ∀ {l : List (α × β)}, l.lookup k = some v → (k, v) ∈ l
  | [], h => by cases h
  | (a, b) :: l, h => by
    rw [List.lookup_cons] at h
    cases q : k == a with
    | true =>
      rw [q] at h
      cases h
      rw [eq_of_beq q]
      exact List.mem_cons_self
    | false =>
      rw [q] at h
      exact List.mem_cons_of_mem _ (mem_lk h)
section
variable {t : Tb} {P : Program} {w : World} {K : PySem.W.Frag} {mg : Str → Option Value} {base h : Heap}
structure ChkOk (t : Tb) (K : PySem.W.Frag) : Prop where
  c1 : t.cls.all (clsB K) = true
  c2 : (t.cls ++ t.exs).all (ownB K) = true
  c3 : eqO (PySem.W.specialIn K (.builtin "object.__class__") "__get__") (some (some (.builtin "getset_descriptor.__get__"))) = true
  c4 : okd (PySem.W.takesIn K (.builtin "object.__class__")) true = true
  c5 : t.exs.all (excB K) = true
  c6 : kitB t K = true
  c7 : exmB t K = true
  c8 : fldB t K = true
  c9 : t.fns.all (fnB K) = true
  c10 : t.fns.all (whB t K) = true
  c11 : (freeNames.all fun x => (He.Fa.free x).ok K) = true
  c12 : conB t K = true
  c13 : (t.exs.all fun c => if c = "NoText" then rowB K else (He.Fa.exc c).ok K) = true
  c14 : Str.empty ∉ t.cls
theorem chk_ok (e : (chks t K).all id = true) : ChkOk t K := by
  unfold chks at e
  simp only [List.all_cons, List.all_nil, Bool.and_true, id, Bool.and_eq_true, decide_eq_true_eq] at e
  obtain ⟨a1, a2, a3, a4, a5, a6, a7, a8, a9, a10, a11, a12, a13, a14⟩ := e
  refine ⟨?_, ?_, a3, a4, ?_, a6, a7, a8, ?_, ?_, ?_, a12, ?_, a14⟩ <;> first | assumption | (rw [List.all_eq_true]; assumption) | skip
theorem fn_mem {c f : Str} {d : FD} (e : t.mg.fn c f = some d) : ∃ N, ((c, f), (N, d)) ∈ t.fns := by
  have e : (t.fns.lookup (c, f)).map (·.2) = some d := e
  cases q : t.fns.lookup (c, f) with
  | none => rw [q] at e; cases e
  | some p =>
    rw [q] at e
    obtain ⟨N, d'⟩ := p
    cases e
    exact ⟨N, mem_lk q⟩
theorem kok_of (k : ChkOk t K) : KOk (geOf t P w K mg base) where
  cls := fun c hc => He.cls_ok (all_get k.c1 hc)
  ha := fun c hc => eqO_ok (ba (all_get k.c2 hc)).1
  hn := eqO_ok k.c3
  ht := okd_ok k.c4
  hm := fun c hc => okd_ok (ba (ba (all_get k.c2 hc)).2).1
  hd := fun c hc => (ba (all_get k.c5 hc)).1
  ga := fun c hc => eqO_ok (ba (ba (all_get k.c5 hc)).2).1
  gg := fun c hc => eqO_ok (ba (ba (ba (all_get k.c5 hc)).2).2).1
  be := fun c hc => okd_ok (ba (ba (ba (ba (all_get k.c5 hc)).2).2).2).1
  ty := fun c hc => of_decide_eq_true (ba (ba (ba (ba (all_get k.c5 hc)).2).2).2).2
  bo := fun T hT d hd => okd_ok (all_get (ba (all_get k.c6 hd)).1 hT)
  ob := fun c hc T hT => okd_ok (all_get (ba (ba (all_get k.c6 hc)).2).1 hT)
  oo := fun c hc d hd => okd_ok (all_get (ba (ba (all_get k.c6 hc)).2).2 hd)
  exm := fun c hc d hd => okd_ok (all_get (all_get k.c7 hc) hd)
  no := fun c f hf _ => He.noat_ok (all_get k.c8 (a := (c, f)) (List.contains_iff_mem.mp hf))
  noe := fun c _ f hf => He.noat_ok (all_get k.c8 (a := (c, f)) (List.contains_iff_mem.mp hf))
theorem empty_adr {f : Str} : fAdr K Str.empty f = He.ga K f := if_pos rfl
theorem own_adr {c f : Str} (h : c ≠ Str.empty) : fAdr K c f = He.ma K (He.ga K c) f := if_neg h
theorem row_of (k : ChkOk t K) (X : K.In h) (G : h.Ns mainGlobals mg) (hm : ("NoText" : Str) ∈ t.exs) : RowOk (geOf t P w K mg base) := by
  have r := all_get k.c13 hm
  rw [if_pos rfl] at r
  obtain ⟨r1, r⟩ := ba r
  obtain ⟨r2, r⟩ := ba r
  obtain ⟨r3, r⟩ := ba r
  obtain ⟨r4, r⟩ := ba r
  obtain ⟨r5, r⟩ := ba r
  obtain ⟨r6, r⟩ := ba r
  obtain ⟨r7, r⟩ := ba r
  obtain ⟨r8, r⟩ := ba r
  obtain ⟨r9, r⟩ := ba r
  obtain ⟨r10, r11⟩ := ba r
  have be := (kok_of (P := P) (w := w) (mg := mg) (base := base) k).be _ hm
  have ty := (kok_of (P := P) (w := w) (mg := mg) (base := base) k).ty _ hm
  have T : OexC K (He.ga K "NoText") := ⟨oex_ok r1, eqO_ok r2, be, ty, r3⟩
  have at_ : PySem.W.findCls K (.ref (He.ga K "WireError")) (.type "type") "__init__" = some (.val (.builtin "ValueError.__init__")) := by
    split at r11
    · rename_i v q
      rw [q, of_decide_eq_true r11]
    · cases r11
  have hno : NoAttr K (He.ga K "NoText") "row" := He.noat_ok r7
  obtain ⟨fd, ps, hps, hb, F1⟩ := row_fn (P := P) (w := w) (mg := mg) (base := base) X G r8 (all_get k.c11 (a := "str") (by decide)) r9 (eqO_ok r10) at_ T hno r6
  exact ⟨T, ⟨_, fd, ps, hps, eqO_ok r4, of_decide_eq_true r5, hb, F1⟩, hno⟩
theorem fst_of (k : ChkOk t K) (X : K.In h) (G : h.Ns mainGlobals mg) : FSt (geOf t P w K mg base) where
  kok := kok_of k
  fnG := fun f d e => by
    obtain ⟨N, hm⟩ := fn_mem e
    have a := all_get k.c10 hm
    unfold whB at a
    rw [if_pos rfl] at a
    have b := (fnB_ok (all_get k.c9 hm)).kp
    show mg f = some (.ref (fAdr K Str.empty f)) ∧ PySem.W.keepIn K (.ref (fAdr K Str.empty f)) = true
    refine ⟨?_, b⟩
    rw [empty_adr]
    exact He.glo_ok X G a
  np := fun c f d e => by
    obtain ⟨N, hm⟩ := fn_mem e
    obtain ⟨oc, od, osl, name, qual, params, body, scope, dV, kV, doc, pm, an, cdv, ct, lk, eq, hcd, hp, S, hns, hnp, hdd, hdl⟩ := (fnB_ok (all_get k.c9 hm)).lk
    show ((fdAt K (fAdr K c f)).params.args.map (·.arg)).length = _
    rw [eq]
    exact hnp
  bind := fun c f d e m => by
    obtain ⟨N, hm⟩ := fn_mem e
    exact (fnB_ok (all_get k.c9 hm)).binds m
  mkC := fun c hc d e => by
    obtain ⟨N, hm⟩ := fn_mem e
    have hne : c ≠ Str.empty := fun z => k.c14 (z ▸ hc)
    have a := all_get k.c10 hm
    unfold whB at a
    rw [if_neg hne] at a
    obtain ⟨_, a⟩ := ba a
    obtain ⟨_, a⟩ := ba a
    rw [if_pos rfl] at a
    refine ⟨He.glo_ok X G (ba (ba (all_get k.c2 (List.mem_append_left _ hc))).2).2, ?_⟩
    show Mk K (He.ga K c) (fAdr K c "__init__")
    rw [own_adr hne]
    exact He.mkr_ok a
  meth := fun c hc m d e => by
    obtain ⟨N, hm⟩ := fn_mem e
    have hne : c ≠ Str.empty := fun z => k.c14 (z ▸ hc)
    have a := all_get k.c10 hm
    unfold whB at a
    rw [if_neg hne] at a
    obtain ⟨_, a⟩ := ba a
    show Meth K (He.ga K c) m (fAdr K c m)
    rw [own_adr hne]
    exact He.meth_ok (ba a).1
  free := fun x hx => He.free_ok X G (all_get k.c11 hx)
  con := fun x v e => by
    have hm := mem_lk (show t.con.lookup x = some v from e)
    have a := all_get (show (t.con.all fun p => match PySem.W.nsIn K mainGlobals p.1 with | some (some u) => relW K 8 p.2 u | _ => false) = true from k.c12) hm
    split at a
    · rename_i u q
      obtain ⟨vv, b1, b2⟩ := relW_ok 8 v u a
      exact ⟨u, vv, PySem.W.mg_of X G q, b1, b2⟩
    · cases a
  exP := fun c hc _ hn => by
    have a := all_get k.c13 hc
    rw [if_neg hn] at a
    obtain ⟨b1, b2, _, _⟩ := He.exc_ok a
    exact ⟨_, _, _, _, PySem.F.excBase_ValueError, b1, b2⟩
  row := fun hm => row_of k X G hm
  clsG := fun c hc => He.glo_ok X G (ba (ba (all_get k.c2 hc)).2).2
/-- what is compiled behind the top -/
def cmpAt (t : Tb) (K : PySem.W.Frag) (e : (Str × Str) × (List Str × FD)) : Option Ss := ssOf (compS t.mg e.2.1 60 (fdAt K (fAdr K e.1.1 e.1.2)).scope) (stB (fdAt K (fAdr K e.1.1 e.1.2)).body)
theorem fnAt_of (k : ChkOk t K) (e2 : t.fns.map (cmpAt t K) = t.fns.map fun e => some e.2.2.body) : ∀ c f d, (geOf t P w K mg base).G.fn c f = some d → FnAt (geOf t P w K mg base) c f d := fun c f d e => by
  obtain ⟨N, hm⟩ := fn_mem e
  obtain ⟨oc, od, osl, name, qual, params, body, scope, dV, kV, doc, pm, an, cdv, ct, lk, eq, hcd, hp, S, hns, hnp, hd, hdl⟩ := (fnB_ok (all_get k.c9 hm)).lk
  have z := List.map_inj_left.mp e2 _ hm
  unfold cmpAt at z
  have ePs : psAt K (fAdr K c f) = params.args.map (·.arg) := by unfold psAt; rw [eq]
  refine ⟨name, qual, params, body, scope, dV, kV, doc, pm, an, cdv, ct, oc, od, osl, N, 60, eq, lk, hcd, ?_, ?_, hns⟩
  · show FnScope N (psAt K (fAdr K c f)) scope
    rw [ePs]
    exact S
  · dsimp only at z
    rw [eq] at z
    exact z
/-! ### the Hook -/
abbrev Al : Type := List Bool × List (Option Ss)
def look (t : Tb) (K : PySem.W.Frag) : Al := (chks t K, t.fns.map (cmpAt t K))
def lookV (t : Tb) : Al := (List.replicate 14 true, t.fns.map fun e => some e.2.2.body)
def lookG (n : Nat) (t : Tb) (g : Addr → Option Obj) : Al := look t (He.frG g (cStatics :: He.asD g n))
def hookM (n : Nat) (t : Tb) : PySem.W.Hook where
  α := Al
  obs := fun s => lookG n t s.heap.get?
  val := fun _ => lookV t
  says := fun _ h => ∃ K : PySem.W.Frag, K.In h ∧ look t K = lookV t
  of := fun _ _ e => ⟨_, He.frG_in, e⟩
  keeps := fun _ _ _ ⟨K, hK, c⟩ k => ⟨K, PySem.W.Frag.In.keeps hK k, c⟩
theorem lookG_eq {n : Nat} {g : Addr → Option Obj} {s : Shared} (h : ∀ a, g a = s.heap.get? a) : lookG n t g = (hookM n t).obs s := by
  have e : g = s.heap.get? := funext h
  rw [e] <;> rfl
theorem look_ok (e : look t K = lookV t) : ChkOk t K ∧ t.fns.map (cmpAt t K) = t.fns.map fun e => some e.2.2.body := by
  have e1 : chks t K = List.replicate 14 true := congrArg (fun z : Al => z.1) e
  refine ⟨chk_ok (by rw [e1]; rfl), congrArg (fun z : Al => z.2) e⟩
end
/-! ### the end -/
theorem walk_mp {l : PySem.W.OpenLaw} {n k : Nat} {q : Program} {loose : List Str} {XP : (Str → Option Value) → Heap → Prop} {d : DefRec} {t : Tb} {m : Nat} {f : FD}
    (hn : l.most = some n) (hn2 : n ≤ sizeLine) (hdf : d.params.defaults = []) (hr : Room (2 * k + 1) callerA) (hf : t.mg.fn Str.empty d.name = some f) (hN : f.np = 1) (hD : f.dfl = [])
    (law : ∀ ns : List Int, ns.length ≤ n → (∀ z ∈ ns, Builtin.Int.intBits z ≤ 1048576) → callAt t.mg k Str.empty d.name [.scr (ns.map W.int)] ⟨0, fun _ => none⟩ (fun w _ => w = .bl true) fun _ _ => False) :
    PySem.W.WalkO q loose XP (hookM m t).says l.row.toRowW d [] (fun f vs => PySem.call f vs) := by
  refine Att.attach_callB hn hdf fun w s₀ s₁ mg mb fa o pm cd doc a vs ns G Y ho hd hcd hmg hobj hints hlen hbits hg => ?_
  obtain ⟨K, KX, c⟩ := Y
  obtain ⟨ck, e2⟩ := look_ok c
  have G0 : s₁.heap.Ns mainGlobals mg := G.T.g
  obtain ⟨N, hm⟩ := fn_mem hf
  have FF := fnB_ok (all_get ck.c9 hm)
  have efa : fa = fAdr K Str.empty d.name := by
    have a := (fst_of (P := l.prog) (w := w) (base := s₁.heap) ck KX G0).fnG d.name f hf
    have a1 : mg d.name = some (.ref (fAdr K Str.empty d.name)) := a.1
    rw [hmg] at a1
    cases a1
    rfl
  have hps : (psAt K (fAdr K Str.empty d.name)).length = 1 := ((fst_of (P := l.prog) (w := w) (base := s₁.heap) ck KX G0).np _ _ _ hf).trans hN
  obtain ⟨x0, hx0⟩ : ∃ x0, psAt K (fAdr K Str.empty d.name) = [x0] := List.length_eq_one_iff.mp hps
  have hbind : ∀ (s : Shared) (u : Value), BindsTo s (fdAt K (fAdr K Str.empty d.name)) ⟨[u], []⟩ [(x0, u)] := fun s u => by
    obtain ⟨oc, od, osl, name, qual, params, body, scope, dV, kV, doc, pm, an, cdv, ct, lk, eq, hcd, hp, S, hns, hnp, hdd, hdl⟩ := FF.lk
    obtain ⟨p1, p2, p3, p4⟩ := par_ok hp
    have ePs : psAt K (fAdr K Str.empty d.name) = params.args.map (·.arg) := by unfold psAt; rw [eq]
    have eA : params.args.map (·.arg) = [x0] := ePs.symm.trans hx0
    obtain ⟨k', e1, e2'⟩ := bind_gen (fd := PySem.W.fnOf name qual params body scope dV kV doc pm an cdv ct) (us := [u]) (its := []) (ps := [x0]) p1 eA p2 p3 p4 (by simp) (Nat.le_refl _) (Nat.zero_le _) (by simp)
    have d1 : dV = .none := by
      have hdd : dflB K dV f.dfl = true := hdd
      rw [hD] at hdd
      cases dV <;> first | rfl | cases hdd
    subst d1
    rw [eq]
    refine BindsTo.of_eq (e1.trans ?_)
    show k' none = _
    rw [e2' none rfl]
    rfl
  have hF : ∀ base : Heap, K.In base → base.Ns mainGlobals mg → FnOk l.prog w K mg base (L2.CX l.prog w) (2 * k + 1) fa (fdAt K (fAdr K Str.empty d.name)) [x0] (fun vs H Q E => ∀ b, spM (geOf t l.prog w K mg b) k Str.empty d.name vs H Q E) := fun base KB GB => by
    have FN := fns_all (fst_of (P := l.prog) (w := w) (base := base) ck KB GB) (fnAt_of ck e2) k Str.empty d.name f hf
    have FN' : FnOk l.prog w K mg base (L2.CX l.prog w) (2 * k + 1) (fAdr K Str.empty d.name) (fdAt K (fAdr K Str.empty d.name)) (psAt K (fAdr K Str.empty d.name)) (spM (geOf t l.prog w K mg base) k Str.empty d.name) := FN
    rw [hx0] at FN'
    rw [efa]
    exact FN'.imp fun vs H Q E z => z base
  refine law_call KX G0 G.T.b G.T.builtins G.T.nolimit hg hobj hints (Nat.le_trans hlen hn2) hr hF hbind (fun H hO hS b => ?_) fun H e s' z => ?_
  · have fz : FzL K H a (ns.map V.int) := by
      rcases hS with (hS | hS) | hS
      · rcases hO a with z | ⟨o, xs, z⟩
        · rw [z] at hS; cases hS
        · rw [z] at hS; cases hS
      · exact .inl hS
      · exact .inr hS
    have rints : ∀ (l : List Int) N μ H, RWs K N μ H (l.map W.int) (l.map V.int) := fun l N μ H => by
      induction l with
      | nil => exact .nil
      | cons i l ih => exact .cons (.int i) ih
    refine ⟨by show 1 = (psAt K (fAdr K Str.empty d.name)).length; rw [hps], [.scr (ns.map W.int)], ⟨0, fun _ => none⟩, fun _ => 0, _, _, ⟨fun i j hi => absurd hi (Nat.not_lt_zero _), fun i hi => absurd hi (Nat.not_lt_zero _), fun i c e => by cases e⟩,
      .cons (.scr fz (rints ns _ _ _)) .nil, law ns hlen hbits, fun w' h' μ' H' v z R u r => ?_, fun e h' μ' H' cls dd z => z.elim⟩
    obtain rfl : w' = W.bl true := z
    cases r
    rfl
  · obtain ⟨_, _, _, _, _, _, _, _, _, _, _, _, zz⟩ := z
    exact zz
end MP
set_option Elab.async false
set_option linter.all false
set_option maxRecDepth 100000
set_option maxHeartbeats 1000000
/-! Stp: the small language's steps, one by one. -/
namespace MP
open PySem L2
section
variable {C : Fns} {G : MG} {loc : Loc} {h : MH} {Q : QW} {X : QX} {D : En} {a b c i lo hi e elt cd o : E} {es : Es} {s : S} {ss sa sb : Ss} {w : W} {n m : Nat} {it : I} {tg : Tg} {own is : List Nat} {x f : Str} {xs ys : List W}
theorem call_of {k : Nat} {c f : Str} {ws : List W} (d : FD) (e : G.fn c f = some d) (l : (fillD d ws).length = d.np) (z : wpSs (callAt G k) G d.body (entry d (fillD d ws)) h ⟨fun _ h1 => Q .non h1, Q, fun _ _ => False, fun e _ h1 => X e h1⟩) :
    callAt G (k + 1) c f ws h Q X := ⟨d, e, l, z⟩
theorem call_at {k : Nat} {c f : Str} {ws : List W} (d : FD) (l0 : Loc) (e : G.fn c f = some d) (l : (fillD d ws).length = d.np) (el : entry d (fillD d ws) = l0) (z : wpSs (callAt G k) G d.body l0 h ⟨fun _ h1 => Q .non h1, Q, fun _ _ => False, fun e _ h1 => X e h1⟩) :
    callAt G (k + 1) c f ws h Q X := ⟨d, e, l, by rw [el]; exact z⟩
theorem ws_nil (z : D.nx loc h) : wpSs C G .nil loc h D := z
theorem ws_cons (z : wpS C G s loc h { D with nx := fun l h1 => wpSs C G ss l h1 D }) : wpSs C G (.cons s ss) loc h D := z
theorem ws_set (z : wpE C G e loc h (fun w h1 => D.nx (loc.set n (some w)) h1) fun x h1 => D.ex x loc h1) : wpS C G (.set n e) loc h D := z
theorem ws_ret (z : wpE C G e loc h (fun w h1 => D.rt w h1) fun x h1 => D.ex x loc h1) : wpS C G (.ret e) loc h D := z
theorem ws_retn (z : D.rt .non h) : wpS C G .retn loc h D := z
theorem ws_cont (z : D.ct loc h) : wpS C G .cont loc h D := z
theorem ws_pass (z : D.nx loc h) : wpS C G .pass loc h D := z
theorem ws_expr (z : wpE C G e loc h (fun _ h1 => D.nx loc h1) fun x h1 => D.ex x loc h1) : wpS C G (.expr e) loc h D := z
theorem ws_ifs (z : wpE C G c loc h (fun x h1 => ∃ k, Tru h1 x k ∧ if k = true then wpSs C G sa loc h1 D else wpSs C G sb loc h1 D) fun x h1 => D.ex x loc h1) : wpS C G (.ifs c sa sb) loc h D := z
theorem ws_fors (z : wpI C G it loc h (fun xs gd h1 => wpFor gd tg (wpSs C G sa) D xs loc h1) fun x h1 => D.ex x loc h1) : wpS C G (.fors tg it sa) loc h D := z
theorem ws_unp (z : wpE C G e loc h (fun w h1 => ∃ xs, Seq h1 w xs ∧ xs.length = is.length ∧ D.nx (setAll is xs loc) h1) fun x h1 => D.ex x loc h1) : wpS C G (.unp is e) loc h D := z
theorem ws_aug {op : BOp} (e1 : loc[n]? = some (some w)) (z : wpE C G e loc h (fun y h1 => wpIp op w y h1 fun z h2 => D.nx (loc.set n (some z)) h2) fun x h1 => D.ex x loc h1) : wpS C G (.aug n op e) loc h D := ⟨w, e1, z⟩
theorem ws_sidx (z : wpE C G e loc h (fun w h1 => wpE C G o loc h1 (fun x h2 => wpE C G i loc h2 (fun y h3 => wpSet x y w h3 fun h4 => D.nx loc h4)
      fun x h1 => D.ex x loc h1) fun x h1 => D.ex x loc h1) fun x h1 => D.ex x loc h1) : wpS C G (.sidx o i e) loc h D := z
theorem ws_augi {op : BOp} (z : wpE C G o loc h (fun x h1 => wpE C G i loc h1 (fun y h2 => ∃ n k xs v, (x = .obj n ∧ y = .int k) ∧ (h2.g n = some (.lst xs) ∧ atI xs k = some v) ∧ wpE C G e loc h2 (fun u h4 => wpIp op v u h4 fun z h5 =>
      wpSet x y z h5 fun h6 => D.nx loc h6) fun x h1 => D.ex x loc h1) fun x h1 => D.ex x loc h1) fun x h1 => D.ex x loc h1) : wpS C G (.augi o i op e) loc h D := z
theorem ws_raise (z : D.ex ⟨x, []⟩ loc h) : wpS C G (.raise x) loc h D := z
theorem ws_raiser (z : wpE C G e loc h (fun w h1 => ∃ i, w = .int i ∧ i.natAbs.log2 < 1920 ∧ D.ex ⟨x, [(f, w)]⟩ loc h1) fun x h1 => D.ex x loc h1) : wpS C G (.raiser x f e) loc h D := z
theorem ws_tryas (z : wpSs C G sa loc h { D with ex := fun e l h1 => if G.sub e.c x = true then D.nx ((l.set m (some (.obj h1.n))).set n none) (h1.alloc (.exc e.c e.fs)) else D.ex e l h1 }) : wpS C G (.tryas sa x n m) loc h D := z
/-! ### expressions -/
theorem we_lit (z : Q w h) : wpE C G (.lit w) loc h Q X := z
theorem we_glo (e1 : G.con x = some w) (z : Q w h) : wpE C G (.glo x) loc h Q X := ⟨w, e1, z⟩
theorem we_var (e1 : loc[n]? = some (some w)) (z : Q w h) : wpE C G (.var n) loc h Q X := ⟨w, e1, z⟩
theorem we_nop (z : Q .non h) : wpE C G .nop loc h Q X := z
theorem we_bin {op : BOp} (z : wpE C G a loc h (fun x h1 => wpE C G b loc h1 (fun y h2 => wpBin op x y h2 Q) X) X) : wpE C G (.bin op a b) loc h Q X := z
theorem we_neg (z : wpE C G a loc h (fun x h1 => ∃ i, x = .int i ∧ Q (.int (-i)) h1) X) : wpE C G (.neg a) loc h Q X := z
theorem we_not (z : wpE C G a loc h (fun x h1 => ∃ k, Tru h1 x k ∧ Q (.bl (!k)) h1) X) : wpE C G (.not a) loc h Q X := z
theorem we_and (z : wpE C G a loc h (fun x h1 => ∃ k, Tru h1 x k ∧ if k = true then wpE C G b loc h1 Q X else Q x h1) X) : wpE C G (.and a b) loc h Q X := z
theorem we_or (z : wpE C G a loc h (fun x h1 => ∃ k, Tru h1 x k ∧ if k = true then Q x h1 else wpE C G b loc h1 Q X) X) : wpE C G (.or a b) loc h Q X := z
theorem we_cmp {op : COp} (z : wpE C G a loc h (fun x h1 => wpE C G b loc h1 (fun y h2 => ∃ r, CmpR h2 op x y r ∧ Q (.bl r) h2) X) X) : wpE C G (.cmp op a b) loc h Q X := z
theorem we_ife (z : wpE C G c loc h (fun x h1 => ∃ k, Tru h1 x k ∧ if k = true then wpE C G a loc h1 Q X else wpE C G b loc h1 Q X) X) : wpE C G (.ife c a b) loc h Q X := z
theorem we_tup (z : wpEs C G es loc h (fun ws h1 => ws.length ≤ sizeLine ∧ Q (.tup ws) h1) X) : wpE C G (.tup es) loc h Q X := z
theorem we_lst (z : wpEs C G es loc h (fun ws h1 => ws.length ≤ sizeLine ∧ Q (.obj h1.n) (h1.alloc (.lst ws))) X) : wpE C G (.lst es) loc h Q X := z
theorem we_idx (z : wpE C G a loc h (fun x h1 => wpE C G i loc h1 (fun y h2 => wpIdx x y h2 Q) X) X) : wpE C G (.idx a i) loc h Q X := z
theorem we_slc (z : wpE C G a loc h (fun x h1 => wpE C G lo loc h1 (fun y h2 => ∃ l, optI y = some l ∧ wpE C G hi loc h2 (fun z h3 => ∃ u, optI z = some u ∧ wpSlc x l u h3 Q) X) X) X) : wpE C G (.slc a lo hi) loc h Q X := z
theorem we_fld (z : wpE C G a loc h (fun x h1 => wpFld x f h1 Q) X) : wpE C G (.fld a f) loc h Q X := z
theorem we_call (z : wpEs C G es loc h (fun ws h1 => C Str.empty f ws h1 Q X) X) : wpE C G (.call f es) loc h Q X := z
theorem we_blt {bi : Bi} (z : wpEs C G es loc h (fun ws h1 => wpBi bi ws h1 Q) X) : wpE C G (.blt bi es) loc h Q X := z
theorem we_isi {t : Ty} (z : wpE C G a loc h (fun x h1 => ∃ b, isTy G h1 x t = some b ∧ Q (.bl b) h1) X) : wpE C G (.isi a t) loc h Q X := z
theorem we_meth {k : Me} (z : wpE C G o loc h (fun x h1 =>
      (∃ n c fs, x = .obj n ∧ h1.g n = some (.ins c fs) ∧ (fs.lookup f = none ∧ (G.fn c f).isSome = true) ∧ wpEs C G es loc h1 (fun ws h2 => C c f (x :: ws) h2 Q X) X) ∨
      (∃ t, (KindR h1 x t ∧ meOk k t = true) ∧ wpEs C G es loc h1 (fun ws h2 => wpMe k t x ws h2 Q) X)) X) : wpE C G (.meth o f k es) loc h Q X := z
theorem we_lc (z : wpI C G it loc h (fun xs gd h1 => wpTurns gd tg (fun l h2 K => wpE C G elt l h2 (fun y h3 => K (some y) h3) fun _ _ => False) (wipeL loc own) xs [] h1 fun ys h3 => Q (.obj h3.n) (h3.alloc (.lst ys))) X) : wpE C G (.lc elt tg own it) loc h Q X := z
theorem we_lcif (z : wpI C G it loc h (fun xs gd h1 => wpTurns gd tg (fun l h2 K => wpE C G cd l h2 (fun x h3 => ∃ b, Tru h3 x b ∧
      if b = true then wpE C G elt l h3 (fun y h4 => K (some y) h4) fun _ _ => False else K none h3) fun _ _ => False) (wipeL loc own) xs [] h1 fun ys h3 => Q (.obj h3.n) (h3.alloc (.lst ys))) X) : wpE C G (.lcif elt tg own it cd) loc h Q X := z
variable {Qs : List W → MH → Prop} {R : QI}
theorem wa_nil (z : Qs [] h) : wpEs C G .nil loc h Qs X := z
theorem wa_cons (z : wpE C G e loc h (fun x h1 => wpEs C G es loc h1 (fun xs h2 => Qs (x :: xs) h2) X) X) : wpEs C G (.cons e es) loc h Qs X := z
theorem wi_e (z : wpE C G a loc h (fun x h1 => ∃ xs gd, ItemsR h1 x xs gd ∧ R xs gd h1) X) : wpI C G (.e a) loc h R X := z
theorem wi_rng1 (z : wpE C G a loc h (fun x h1 => ∃ j, x = .int j ∧ -(2 ^ 62) ≤ j ∧ j < 2 ^ 62 ∧ R ((List.range j.toNat).map fun i => .int (i : Nat)) (fun _ => True) h1) X) : wpI C G (.rng1 a) loc h R X := z
theorem wi_rng2 (z : wpE C G a loc h (fun x h1 => wpE C G b loc h1 (fun y h2 => ∃ i j, x = .int i ∧ y = .int j ∧ -(2 ^ 62) ≤ i ∧ i < 2 ^ 62 ∧ -(2 ^ 62) ≤ j ∧ j < 2 ^ 62 ∧
      R ((List.range (j - i).toNat).map fun k => .int (i + (k : Nat))) (fun _ => True) h2) X) X) : wpI C G (.rng2 a b) loc h R X := z
theorem wi_rng3 (z : wpE C G a loc h (fun x h1 => wpE C G b loc h1 (fun y h2 => wpE C G c loc h2 (fun z h3 => ∃ i j s n, x = .int i ∧ y = .int j ∧ z = .int s ∧ RgC i j s n ∧
      R ((List.range n).map fun k => .int (i + (k : Nat) * s)) (fun _ => True) h3) X) X) X) : wpI C G (.rng3 a b c) loc h R X := z
/-! ### by values -/
theorem bi_add {i j : Int} (z : Q (.int (i + j)) h) : wpBin .add (.int i) (.int j) h Q := z
theorem bi_sub {i j : Int} (z : Q (.int (i - j)) h) : wpBin .sub (.int i) (.int j) h Q := z
theorem bi_mul {i j : Int} (z : Q (.int (i * j)) h) (m : MulOk i j) : wpBin .mul (.int i) (.int j) h Q := ⟨m, z⟩
theorem bi_mod {i j : Int} (z : Q (.int (i % j)) h) (m : 0 < j) : wpBin .mod (.int i) (.int j) h Q := ⟨m, z⟩
theorem bi_div {i j : Int} (z : Q (.int (i / j)) h) (m : CDivW i j) : wpBin .fdiv (.int i) (.int j) h Q := ⟨m, z⟩
theorem bi_pow {i j : Int} (z : Q (.int (i ^ j.toNat)) h) (m : CPow i j) : wpBin .pow (.int i) (.int j) h Q := ⟨m, z⟩
theorem bi_cat {x y : Str} (z : Q (.str (x ++ y)) h) (m : x.length + y.length ≤ sizeLine) : wpBin .add (.str x) (.str y) h Q := ⟨m, z⟩
theorem bi_catT (z : Q (.tup (xs ++ ys)) h) (m : xs.length + ys.length ≤ sizeLine) : wpBin .add (.tup xs) (.tup ys) h Q := ⟨m, z⟩
theorem ip_add' {i j : Int} (z : Q (.int (i + j)) h) : wpIp .add (.int i) (.int j) h Q := z
theorem tru_bl {k : Bool} {P : Bool → Prop} (z : P k) : ∃ k', Tru h (.bl k) k' ∧ P k' := ⟨k, rfl, z⟩
theorem cmp_eqI {i j : Int} {P : Bool → Prop} (z : P (decide (i = j))) : ∃ r, CmpR h .eq (.int i) (.int j) r ∧ P r := ⟨_, rfl, z⟩
theorem cmp_eqS {i j : Str} {P : Bool → Prop} (z : P (decide (i = j))) : ∃ r, CmpR h .eq (.str i) (.str j) r ∧ P r := ⟨_, rfl, z⟩
theorem cmp_neI {i j : Int} {P : Bool → Prop} (z : P (!decide (i = j))) : ∃ r, CmpR h .ne (.int i) (.int j) r ∧ P r := ⟨_, by show (!(!decide (i = j))) = _; rw [Bool.not_not], z⟩
theorem cmp_neS {i j : Str} {P : Bool → Prop} (z : P (!decide (i = j))) : ∃ r, CmpR h .ne (.str i) (.str j) r ∧ P r := ⟨_, by show (!(!decide (i = j))) = _; rw [Bool.not_not], z⟩
theorem cmp_lt {i j : Int} {P : Bool → Prop} (z : P (decide (i < j))) : ∃ r, CmpR h .lt (.int i) (.int j) r ∧ P r := ⟨_, ⟨i, j, rfl, rfl, rfl⟩, z⟩
theorem cmp_le {i j : Int} {P : Bool → Prop} (z : P (decide (i ≤ j))) : ∃ r, CmpR h .le (.int i) (.int j) r ∧ P r := ⟨_, ⟨i, j, rfl, rfl, rfl⟩, z⟩
theorem cmp_gt {i j : Int} {P : Bool → Prop} (z : P (decide (j < i))) : ∃ r, CmpR h .gt (.int i) (.int j) r ∧ P r := ⟨_, ⟨i, j, rfl, rfl, rfl⟩, z⟩
theorem cmp_ge {i j : Int} {P : Bool → Prop} (z : P (decide (j ≤ i))) : ∃ r, CmpR h .ge (.int i) (.int j) r ∧ P r := ⟨_, ⟨i, j, rfl, rfl, rfl⟩, z⟩
theorem cmp_isN {P : Bool → Prop} (z : P (match w with | .non => true | _ => false)) : ∃ r, CmpR h .is w .non r ∧ P r := ⟨_, ⟨rfl, rfl⟩, z⟩
theorem cmp_inS {i j : Str} {P : Bool → Prop} (z : P (strIn i j)) : ∃ r, CmpR h .isin (.str i) (.str j) r ∧ P r := ⟨_, rfl, z⟩
theorem cmp_ninS {i j : Str} {P : Bool → Prop} (z : P (!strIn i j)) : ∃ r, CmpR h .nin (.str i) (.str j) r ∧ P r := ⟨_, by show (!(!strIn i j)) = _; rw [Bool.not_not], z⟩
theorem len_str {x : Str} {P : Nat → Prop} (z : P x.length) (l : x.length ≤ sizeLine) : ∃ n, LenR h (.str x) n ∧ P n := ⟨_, ⟨l, rfl⟩, z⟩
theorem len_scr {P : Nat → Prop} (z : P xs.length) : ∃ n, LenR h (.scr xs) n ∧ P n := ⟨_, rfl, z⟩
theorem len_tup {P : Nat → Prop} (z : P xs.length) : ∃ n, LenR h (.tup xs) n ∧ P n := ⟨_, rfl, z⟩
theorem len_obj {n : Nat} {P : Nat → Prop} (e : h.g n = some (.lst xs)) (z : P xs.length) : ∃ m, LenR h (.obj n) m ∧ P m := ⟨_, ⟨xs, e, rfl⟩, z⟩
theorem bi_len (z : ∃ n, LenR h w n ∧ Q (.int n) h) : wpBi .len [w] h Q := z
theorem bi_max {i j : Int} (z : Q (.int (if j > i then j else i)) h) : wpBi .max [.int i, .int j] h Q := z
theorem bi_min {i j : Int} (z : Q (.int (if j < i then j else i)) h) : wpBi .min [.int i, .int j] h Q := z
theorem idx_str {x : Str} {k : Int} {ch : Nat} (e1 : atI x.cps.toList k = some ch) (z : Q (.str ⟨#[ch]⟩) h) (l : x.length ≤ sizeLine) : wpIdx (.str x) (.int k) h Q := ⟨l, ch, e1, z⟩
theorem idx_obj {n : Nat} {k : Int} {v : W} (e0 : h.g n = some (.lst xs)) (e1 : atI xs k = some v) (z : Q v h) : wpIdx (.obj n) (.int k) h Q := ⟨xs, v, e0, e1, z⟩
theorem idx_scr {k : Int} {v : W} (e1 : atI xs k = some v) (z : Q v h) : wpIdx (.scr xs) (.int k) h Q := ⟨xs, v, rfl, e1, z⟩
theorem set_obj {n j : Nat} {k : Int} {v : W} {P : MH → Prop} (e0 : h.g n = some (.lst xs)) (e1 : ixN xs.length k = some j) (z : P (h.put n (.lst (xs.set j v)))) : wpSet (.obj n) (.int k) v h P := ⟨xs, j, e0, e1, z⟩
/-- turns by an invariant: Inv after j items -/
theorem turns_inv {gd : MH → Prop} {step : Loc → MH → (Option W → MH → Prop) → Prop} {Qf : List W → MH → Prop} (Iv : List W → List W → MH → Prop) (hs : ∀ x r acc h, Iv (x :: r) acc h → gd h ∧ ∃ loc', BindR h tg x loc loc' ∧ step loc' h fun o h' => match o with
      | some y => acc.length < sizeLine ∧ Iv r (acc ++ [y]) h'
      | none => Iv r acc h') (hmono : ∀ loc' h K K', (∀ o h', K o h' → K' o h') → step loc' h K → step loc' h K') (hd : ∀ acc h, Iv [] acc h → gd h ∧ Qf acc h) : ∀ (xs acc : List W) (h : MH), Iv xs acc h → wpTurns gd tg step loc xs acc h Qf
  | [], acc, h, z => hd acc h z
  | x :: r, acc, h, z => by
    obtain ⟨g1, loc', b, s⟩ := hs x r acc h z
    refine ⟨g1, loc', b, hmono _ _ _ _ (fun o h' k => ?_) s⟩
    cases o with
    | some y => exact ⟨k.1, turns_inv Iv hs hmono hd r _ _ k.2⟩
    | none => exact turns_inv Iv hs hmono hd r _ _ k
end
end MP
namespace MP
open PySem L2
def b_data_text : Ss := (.cons (.ifs (.cmp .eq (.blt .len (.cons (.var 0) .nil)) (.lit (.int (0)))) (.cons (.ret (.lit (.str "-"))) .nil) .nil) (.cons (.ret (.meth (.lit (.str "")) "join" .join (.cons (.lc (.bin .add (.idx (.glo "SIGNS") (.bin .fdiv (.var 1) (.lit (.int (16))))) (.idx (.glo "SIGNS") (.bin .mod (.var 1) (.lit (.int (16)))))) (.one 1) [1] (.e (.var 0))) .nil))) .nil))
def b_data_by : Ss := (.cons (.ifs (.cmp .eq (.var 0) (.lit (.str "-"))) (.cons (.ret (.tup .nil)) .nil) .nil) (.cons (.ifs (.or (.cmp .eq (.var 0) (.lit (.str ""))) (.or (.cmp .eq (.bin .mod (.blt .len (.cons (.var 0) .nil)) (.lit (.int (2)))) (.lit (.int (1)))) (.not (.blt .all (.cons (.lc (.cmp .isin (.var 2) (.glo "SIGNS")) (.one 2) [2] (.e (.var 0))) .nil))))) (.cons (.ret (.lit .non)) .nil) .nil) (.cons (.ret (.blt .tuple (.cons (.lc (.bin .add (.bin .mul (.lit (.int (16))) (.meth (.glo "SIGNS") "index" .index (.cons (.idx (.var 0) (.var 1)) .nil))) (.meth (.glo "SIGNS") "index" .index (.cons (.idx (.var 0) (.bin .add (.var 1) (.lit (.int (1))))) .nil))) (.one 1) [1] (.rng3 (.lit (.int (0))) (.blt .len (.cons (.var 0) .nil)) (.lit (.int (2))))) .nil))) .nil)))
def b_read_data : Ss := (.cons (.set 1 (.call "data_by" (.cons (.var 0) .nil))) (.cons (.ifs (.cmp .is (.var 1) (.lit .non)) (.cons (.raiser "NoText" "row" (.lit (.int (0)))) .nil) .nil) (.cons (.ret (.var 1)) .nil)))
def b__law_mixed : Ss := (.cons (.set 2 (.bin .mod (.bin .mul (.bin .add (.bin .add (.var 0) (.bin .mul (.lit (.int (7919))) (.var 1))) (.lit (.int (11)))) (.lit (.int (48271)))) (.lit (.int (2147483647))))) (.cons (.ret (.bin .mod (.bin .add (.bin .mul (.var 2) (.var 2)) (.bin .mul (.lit (.int (40692))) (.var 2))) (.lit (.int (2147483399))))) .nil))
def b__law_draw : Ss := (.cons (.set 3 (.lit (.int (0)))) (.cons (.ifs (.cmp .lt (.var 1) (.blt .len (.cons (.var 0) .nil))) (.cons (.set 3 (.idx (.var 0) (.var 1))) .nil) .nil) (.cons (.ret (.lst (.cons (.blt .max (.cons (.lit (.int (0))) (.cons (.bin .sub (.var 3) (.bin .pow (.lit (.int (10))) (.lit (.int (18))))) .nil))) (.cons (.call "_law_mixed" (.cons (.var 3) (.cons (.bin .add (.lit (.int (300))) (.var 1)) .nil))) (.cons (.var 2) .nil))))) .nil)))
def b__law_next : Ss := (.cons (.ifs (.cmp .gt (.idx (.var 0) (.lit (.int (0)))) (.lit (.int (0)))) (.cons (.set 2 (.bin .mod (.idx (.var 0) (.lit (.int (0)))) (.var 1))) (.cons (.sidx (.var 0) (.lit (.int (0))) (.bin .fdiv (.idx (.var 0) (.lit (.int (0)))) (.var 1))) (.cons (.ret (.var 2)) .nil))) .nil) (.cons (.augi (.var 0) (.lit (.int (2))) .add (.lit (.int (1)))) (.cons (.ret (.bin .mod (.bin .fdiv (.call "_law_mixed" (.cons (.idx (.var 0) (.lit (.int (1)))) (.cons (.idx (.var 0) (.lit (.int (2)))) .nil))) (.lit (.int (7)))) (.var 1))) .nil)))
def b__law_pick : Ss := (.cons (.ret (.idx (.var 1) (.call "_law_next" (.cons (.var 0) (.cons (.blt .len (.cons (.var 1) .nil)) .nil))))) .nil)
def b__law_bytes : Ss := (.cons (.ret (.blt .tuple (.cons (.lc (.call "_law_pick" (.cons (.var 0) (.cons (.lst (.cons (.lit (.int (0))) (.cons (.lit (.int (255))) (.cons (.lit (.int (16))) (.cons (.call "_law_next" (.cons (.var 0) (.cons (.lit (.int (256))) .nil))) .nil))))) .nil))) (.one 2) [2] (.rng1 (.call "_law_next" (.cons (.var 0) (.cons (.bin .add (.var 1) (.lit (.int (1)))) .nil))))) .nil))) .nil)
def b__law_data_of : Ss := (.cons (.set 1 (.lit (.str "0123456789abcdef"))) (.cons (.ifs (.cmp .eq (.var 0) (.lit (.str "-"))) (.cons (.ret (.tup .nil)) .nil) .nil) (.cons (.ifs (.or (.cmp .eq (.var 0) (.lit (.str ""))) (.or (.cmp .eq (.bin .mod (.blt .len (.cons (.var 0) .nil)) (.lit (.int (2)))) (.lit (.int (1)))) (.cmp .ne (.lcif (.var 5) (.one 5) [5] (.e (.var 0)) (.cmp .nin (.var 5) (.var 1))) (.lst .nil)))) (.cons (.ret (.lit .non)) .nil) .nil) (.cons (.set 2 (.tup .nil)) (.cons (.fors (.one 3) (.rng3 (.lit (.int (0))) (.blt .len (.cons (.var 0) .nil)) (.lit (.int (2)))) (.cons (.set 4 (.meth (.var 1) "index" .index (.cons (.idx (.var 0) (.var 3)) .nil))) (.cons (.set 2 (.bin .add (.var 2) (.tup (.cons (.bin .add (.bin .mul (.lit (.int (16))) (.var 4)) (.meth (.var 1) "index" .index (.cons (.idx (.var 0) (.bin .add (.var 3) (.lit (.int (1))))) .nil))) .nil)))) .nil))) (.cons (.ret (.var 2)) .nil))))))
def b__law_asked : Ss := (.cons (.set 1 (.lit .non)) (.cons (.set 2 (.lit .non)) (.cons (.tryas (.cons (.set 1 (.lst (.cons (.call "read_data" (.cons (.var 0) .nil)) .nil))) .nil) "NoText" 3 2) (.cons (.ret (.ife (.cmp .is (.var 2) (.lit .non)) (.var 1) (.fld (.var 2) "row"))) .nil))))
def b_law : Ss := (.cons (.fors (.one 1) (.rng1 (.blt .max (.cons (.lit (.int (1))) (.cons (.blt .min (.cons (.blt .len (.cons (.var 0) .nil)) (.cons (.lit (.int (40))) .nil))) .nil)))) (.cons (.set 2 (.call "_law_draw" (.cons (.var 0) (.cons (.var 1) (.cons (.lit (.int (0))) .nil))))) (.cons (.set 3 (.call "_law_bytes" (.cons (.var 2) (.cons (.lit (.int (40))) .nil)))) (.cons (.set 4 (.call "data_text" (.cons (.var 3) .nil))) (.cons (.ifs (.or (.cmp .ne (.call "_law_data_of" (.cons (.var 4) .nil)) (.var 3)) (.cmp .isin (.var 4) (.tup (.cons (.lit (.str "")) (.cons (.lit (.str "--")) .nil))))) (.cons (.ret (.lit (.bl false))) .nil) .nil) (.cons (.set 5 (.call "_law_next" (.cons (.var 2) (.cons (.bin .add (.blt .len (.cons (.var 4) .nil)) (.lit (.int (1)))) .nil)))) (.cons (.set 6 (.call "_law_pick" (.cons (.var 2) (.cons (.blt .list (.cons (.lit (.str "0f9a-gA .x")) .nil)) .nil)))) (.cons (.fors (.one 7) (.e (.lst (.cons (.var 4) (.cons (.bin .add (.slc (.var 4) .nop (.var 5)) (.slc (.var 4) (.bin .add (.var 5) (.lit (.int (1)))) .nop)) (.cons (.bin .add (.bin .add (.slc (.var 4) .nop (.var 5)) (.var 6)) (.slc (.var 4) (.var 5) .nop)) (.cons (.bin .add (.bin .add (.slc (.var 4) .nop (.var 5)) (.var 6)) (.slc (.var 4) (.bin .add (.var 5) (.lit (.int (1)))) .nop)) .nil)))))) (.cons (.set 8 (.ife (.cmp .is (.call "_law_data_of" (.cons (.var 7) .nil)) (.lit .non)) (.lit (.int (0))) (.lst (.cons (.call "_law_data_of" (.cons (.var 7) .nil)) .nil)))) (.cons (.set 9 (.call "_law_asked" (.cons (.var 7) .nil))) (.cons (.ifs (.or (.cmp .ne (.var 9) (.var 8)) (.and (.isi (.var 9) .list) (.not (.isi (.idx (.var 9) (.lit (.int (0)))) .tuple)))) (.cons (.ret (.lit (.bl false))) .nil) .nil) .nil)))) (.cons (.ifs (.and (.cmp .ne (.meth (.var 4) "upper" .upper .nil) (.var 4)) (.cmp .ne (.call "_law_asked" (.cons (.meth (.var 4) "upper" .upper .nil) .nil)) (.lit (.int (0))))) (.cons (.ret (.lit (.bl false))) .nil) .nil) .nil))))))))) (.cons (.ret (.lit (.bl true))) .nil))
def tb : Tb where
  fns := [((("" : Str), ("data_text" : Str)), ([("data" : Str), ("one" : Str)], (⟨1, [], 2, b_data_text⟩ : FD))),
    ((("" : Str), ("data_by" : Str)), ([("word" : Str), ("at" : Str), ("sign" : Str)], (⟨1, [], 3, b_data_by⟩ : FD))),
    ((("" : Str), ("read_data" : Str)), ([("text" : Str), ("found" : Str)], (⟨1, [], 2, b_read_data⟩ : FD))),
    ((("" : Str), ("_law_mixed" : Str)), ([("_law_cell" : Str), ("_law_k" : Str), ("_law_mix" : Str)], (⟨2, [], 3, b__law_mixed⟩ : FD))),
    ((("" : Str), ("_law_draw" : Str)), ([("_law_script" : Str), ("_law_k" : Str), ("_law_count" : Str), ("_law_cell" : Str)], (⟨3, [], 4, b__law_draw⟩ : FD))),
    ((("" : Str), ("_law_next" : Str)), ([("_law_draw_here" : Str), ("_law_size" : Str), ("_law_digit" : Str)], (⟨2, [], 3, b__law_next⟩ : FD))),
    ((("" : Str), ("_law_pick" : Str)), ([("_law_draw_here" : Str), ("_law_some" : Str)], (⟨2, [], 2, b__law_pick⟩ : FD))),
    ((("" : Str), ("_law_bytes" : Str)), ([("_law_draw_here" : Str), ("_law_most" : Str), ("_law_k" : Str)], (⟨2, [], 3, b__law_bytes⟩ : FD))),
    ((("" : Str), ("_law_data_of" : Str)), ([("_law_text" : Str), ("_law_signs" : Str), ("_law_found" : Str), ("_law_at" : Str), ("_law_high" : Str), ("_law_sign" : Str)], (⟨1, [], 6, b__law_data_of⟩ : FD))),
    ((("" : Str), ("_law_asked" : Str)), ([("_law_text" : Str), ("_law_found" : Str), ("_law_error" : Str), ("e" : Str)], (⟨1, [], 4, b__law_asked⟩ : FD))),
    ((("" : Str), ("law" : Str)), ([("_law_script" : Str), ("_law_k" : Str), ("_law_draw_here" : Str), ("_law_data" : Str), ("_law_text" : Str), ("_law_at" : Str), ("_law_sign" : Str), ("_law_one" : Str), ("_law_due" : Str), ("_law_found" : Str)], (⟨1, [], 10, b_law⟩ : FD)))]
  con := [(("SIGNS" : Str), (.str "0123456789abcdef"))]
  sub := [(("WireError" : Str), ("WireError" : Str)), (("NoText" : Str), ("NoText" : Str)), (("NoText" : Str), ("WireError" : Str))]
  fld := [(("NoText" : Str), ("row" : Str))]
  cls := []
  exs := [("WireError" : Str), ("NoText" : Str)]
end MP
set_option Elab.async false
set_option linter.all false
set_option maxRecDepth 100000
set_option maxHeartbeats 1000000
namespace MP
open PySem L2
local macro_rules | `(tactic| wp_step) => `(tactic| first
  | with_reducible refine ws_cons ?_ | with_reducible refine ws_nil ?_ | with_reducible refine ws_set ?_ | with_reducible refine ws_ret ?_ | with_reducible refine ws_ifs ?_ | with_reducible refine ws_fors ?_ | with_reducible refine ws_unp ?_
  | ((with_reducible apply ws_aug); exact rfl) | with_reducible refine ws_sidx ?_ | with_reducible refine ws_augi ?_ | with_reducible refine ws_raise ?_ | with_reducible refine ws_raiser ?_ | with_reducible refine ws_tryas ?_ | with_reducible refine ws_retn ?_ | with_reducible refine ws_cont ?_ | with_reducible refine ws_pass ?_ | with_reducible refine ws_expr ?_
  | with_reducible refine we_lit ?_ | ((with_reducible apply we_var); exact rfl) | with_reducible refine we_nop ?_ | with_reducible refine we_bin ?_ | with_reducible refine we_neg ?_ | with_reducible refine we_not ?_ | with_reducible refine we_and ?_ | with_reducible refine we_or ?_ | with_reducible refine we_cmp ?_ | with_reducible refine we_ife ?_
  | with_reducible refine we_tup ?_ | with_reducible refine we_lst ?_ | with_reducible refine we_idx ?_ | with_reducible refine we_slc ?_ | with_reducible refine we_fld ?_ | with_reducible refine we_call ?_ | with_reducible refine we_blt ?_ | with_reducible refine we_isi ?_ | with_reducible refine we_meth ?_ | with_reducible refine we_lc ?_ | with_reducible refine we_lcif ?_
  | with_reducible refine wa_nil ?_ | with_reducible refine wa_cons ?_ | with_reducible refine wi_e ?_ | with_reducible refine wi_rng1 ?_ | with_reducible refine wi_rng2 ?_ | with_reducible refine wi_rng3 ?_
  | with_reducible refine bi_add ?_ | with_reducible refine bi_sub ?_ | with_reducible refine bi_mul ?_ ?_ | with_reducible refine bi_mod ?_ ?_ | with_reducible refine bi_div ?_ ?_ | with_reducible refine bi_pow ?_ ?_ | with_reducible refine len_scr ?_ | with_reducible refine len_tup ?_ | with_reducible refine bi_cat ?_ ?_ | with_reducible refine bi_catT ?_ ?_ | with_reducible refine ip_add' ?_
  | with_reducible refine tru_bl ?_ | with_reducible refine cmp_eqI ?_ | with_reducible refine cmp_eqS ?_ | with_reducible refine cmp_neI ?_ | with_reducible refine cmp_neS ?_ | with_reducible refine cmp_lt ?_ | with_reducible refine cmp_le ?_ | with_reducible refine cmp_gt ?_ | with_reducible refine cmp_ge ?_ | with_reducible refine cmp_isN ?_ | with_reducible refine cmp_inS ?_ | with_reducible refine cmp_ninS ?_
  | with_reducible refine bi_len ?_ | with_reducible refine len_str ?_ ?_ | with_reducible refine bi_max ?_ | with_reducible refine bi_min ?_)
def G78 : MG := tb.mg
theorem fn_mixed : G78.fn Str.empty "_law_mixed" = some ⟨2, [], 3, b__law_mixed⟩ := by kernel_rfl
theorem fn_draw : G78.fn Str.empty "_law_draw" = some ⟨3, [], 4, b__law_draw⟩ := by kernel_rfl
theorem fn_next : G78.fn Str.empty "_law_next" = some ⟨2, [], 3, b__law_next⟩ := by kernel_rfl
theorem fn_pick : G78.fn Str.empty "_law_pick" = some ⟨2, [], 2, b__law_pick⟩ := by kernel_rfl
theorem fn_bytes : G78.fn Str.empty "_law_bytes" = some ⟨2, [], 3, b__law_bytes⟩ := by kernel_rfl
def mixI (c i : Int) : Int := ((c + 7919 * i + 11) * 48271 % 2147483647 * ((c + 7919 * i + 11) * 48271 % 2147483647) + 40692 * ((c + 7919 * i + 11) * 48271 % 2147483647)) % 2147483399
theorem mixI_nn (c i : Int) : 0 ≤ mixI c i := Int.emod_nonneg _ (by decide)
theorem mulR {i j : Int} (h1 : -(2 ^ 64) < j) (h2 : j < 2 ^ 64) : MulOk i j := .inl (.inr ⟨h1, h2⟩)
theorem mulL {i j : Int} (h1 : -(2 ^ 64) < i) (h2 : i < 2 ^ 64) : MulOk i j := .inl (.inl ⟨h1, h2⟩)
theorem cdiv {i j : Int} (h1 : 0 < j) (h2 : j < 2 ^ 30) : CDivW i j := ⟨h1, by
  have h3 : j.natAbs < 2 ^ 30 := by omega
  have h4 : j.natAbs.log2 < 30 := (Nat.log2_lt (by omega)).mpr h3
  omega⟩
section
variable {k : Nat} {h : MH} {Q : QW} {X : QX}
theorem mixed_ok {c i : Int} (z : Q (.int (mixI c i)) h) : callAt G78 (k + 1) Str.empty "_law_mixed" [.int c, .int i] h Q X := by
  refine call_at _ [some (.int c), some (.int i), none] fn_mixed rfl rfl ?_
  unfold b__law_mixed
  repeat wp_step
  · exact z
  all_goals first | decide | exact mulL (by decide) (by decide) | exact mulR (by decide) (by decide) | exact mulL (by omega) (by omega)
theorem atI_map {ns : List Int} {i : Nat} (hi : i < ns.length) : atI (ns.map W.int) (i : Int) = some (.int ns[i]) := by
  unfold atI ixN
  simp [hi]
theorem draw_ok {ns : List Int} {i : Nat} (z : ∀ a b c : Int, 0 ≤ a → Q (.obj h.n) (h.alloc (.lst [.int a, .int b, .int c]))) : callAt G78 (k + 2) Str.empty "_law_draw" [.scr (ns.map .int), .int i, .int 0] h Q X := by
  refine call_at _ [some (.scr (ns.map .int)), some (.int i), some (.int 0), none] fn_draw rfl rfl ?_
  unfold b__law_draw
  repeat wp_step
  by_cases hi : i < ns.length
  · rw [if_pos (by simpa using hi)]
    repeat wp_step
    refine idx_scr (atI_map hi) ?_
    repeat wp_step
    · refine mixed_ok ?_
      repeat wp_step
      refine ⟨by show 3 ≤ sizeLine; rw [sizeLine_eq]; decide, z _ _ _ ?_⟩
      split <;> omega
    · exact ⟨by decide, by decide, by decide⟩
  · rw [if_neg (by simpa using hi)]
    repeat wp_step
    · refine mixed_ok ?_
      repeat wp_step
      refine ⟨by show 3 ≤ sizeLine; rw [sizeLine_eq]; decide, z _ _ _ ?_⟩
      split <;> omega
    · exact ⟨by decide, by decide, by decide⟩
theorem next_ok {d : Nat} {a b c size : Int} (hg : h.g d = some (.lst [.int a, .int b, .int c])) (ha : 0 ≤ a) (h1 : 0 < size) (h2 : size < 2 ^ 30)
    (z : ∀ a' c' r : Int, 0 ≤ a' → 0 ≤ r → r < size → ∀ h', h'.n = h.n → (∀ i, h'.g i = if i = d then some (.lst [.int a', .int b, .int c']) else h.g i) → Q (.int r) h') : callAt G78 (k + 2) Str.empty "_law_next" [.obj d, .int size] h Q X := by
  refine call_at _ [some (.obj d), some (.int size), none] fn_next rfl rfl ?_
  unfold b__law_next
  repeat wp_step
  refine idx_obj hg (show atI [W.int a, W.int b, W.int c] 0 = some (.int a) from rfl) ?_
  repeat wp_step
  by_cases hp : 0 < a
  · rw [if_pos (by simpa using hp)]
    repeat wp_step
    refine idx_obj hg (show atI [W.int a, W.int b, W.int c] 0 = some (.int a) from rfl) ?_
    repeat wp_step
    · refine idx_obj hg (show atI [W.int a, W.int b, W.int c] 0 = some (.int a) from rfl) ?_
      repeat wp_step
      · refine set_obj hg (show ixN 3 0 = some 0 from rfl) ?_
        repeat wp_step
        exact z (a / size) c (a % size) (Int.ediv_nonneg ha (by omega)) (Int.emod_nonneg _ (by omega)) (Int.emod_lt_of_pos _ h1) _ rfl fun i => rfl
      · exact cdiv h1 h2
    · exact h1
  · rw [if_neg (by simpa using hp)]
    repeat wp_step
    refine ⟨d, 2, _, .int c, ⟨rfl, rfl⟩, ⟨hg, rfl⟩, ?_⟩
    repeat wp_step
    refine set_obj hg (show ixN 3 2 = some 2 from rfl) ?_
    repeat wp_step
    have hg2 : (h.put d (.lst ([W.int a, W.int b, W.int c].set 2 (.int (c + 1))))).g d = some (.lst [.int a, .int b, .int (c + 1)]) := if_pos rfl
    refine idx_obj hg2 (show atI [W.int a, W.int b, W.int (c + 1)] 1 = some (.int b) from rfl) ?_
    repeat wp_step
    refine idx_obj hg2 (show atI [W.int a, W.int b, W.int (c + 1)] 2 = some (.int (c + 1)) from rfl) ?_
    repeat wp_step
    refine mixed_ok ?_
    repeat wp_step
    · exact z a (c + 1) _ ha (Int.emod_nonneg _ (by omega)) (Int.emod_lt_of_pos _ h1) _ rfl fun i => rfl
    · exact h1
    · exact cdiv (by decide) (by decide)
/-- a draw's list stands at d -/
structure Dr (h : MH) (d : Nat) : Prop where
  lt : d < h.n
  ex : ∃ a b c : Int, 0 ≤ a ∧ h.g d = some (.lst [.int a, .int b, .int c])
/-- later; d alone may be changed -/
structure Hx (d : Nat) (h h' : MH) : Prop where
  le : h.n ≤ h'.n
  same : ∀ i, i < h.n → i ≠ d → h'.g i = h.g i
theorem Hx.refl {d : Nat} {h : MH} : Hx d h h := ⟨Nat.le_refl _, fun _ _ _ => rfl⟩
theorem Hx.trans {d : Nat} {h h1 h2 : MH} (a : Hx d h h1) (b : Hx d h1 h2) : Hx d h h2 := ⟨Nat.le_trans a.le b.le, fun i h1 h2 => (b.same i (Nat.lt_of_lt_of_le h1 a.le) h2).trans (a.same i h1 h2)⟩
theorem Hx.alloc {d : Nat} {h : MH} {c : Cell} : Hx d h (h.alloc c) := ⟨Nat.le_succ _, fun i hi _ => if_neg (Nat.ne_of_lt hi)⟩
theorem Dr.alloc {d : Nat} {h : MH} {c : Cell} (x : Dr h d) : Dr (h.alloc c) d := ⟨Nat.lt_succ_of_lt x.lt, by
  obtain ⟨a, b, c, h0, e⟩ := x.ex
  exact ⟨a, b, c, h0, (if_neg (Nat.ne_of_lt x.lt)).trans e⟩⟩
theorem alloc_new {h : MH} {c : Cell} : (h.alloc c).g h.n = some c := if_pos rfl
theorem next_d {d : Nat} {size : Int} (x : Dr h d) (h1 : 0 < size) (h2 : size < 2 ^ 30) (z : ∀ r h', 0 ≤ r → r < size → Dr h' d → Hx d h h' → Q (.int r) h') : callAt G78 (k + 2) Str.empty "_law_next" [.obj d, .int size] h Q X := by
  obtain ⟨a, b, c, ha, hg⟩ := x.ex
  refine next_ok hg ha h1 h2 fun a' c' r ha' hr hr2 h' hn hgg => z r h' hr hr2 ⟨by rw [hn]; exact x.lt, a', b, c', ha', by rw [hgg, if_pos rfl]⟩ ⟨Nat.le_of_eq hn.symm, fun i _ hi => by rw [hgg, if_neg hi]⟩
theorem pick_d {d e : Nat} {xs : List W} (x : Dr h d) (he : e ≠ d) (hl : e < h.n) (hg : h.g e = some (.lst xs)) (h1 : 0 < xs.length) (h2 : xs.length < 2 ^ 30) (z : ∀ v h', v ∈ xs → Dr h' d → Hx d h h' → Q v h') : callAt G78 (k + 3) Str.empty "_law_pick" [.obj d, .obj e] h Q X := by
  refine call_at _ [some (.obj d), some (.obj e)] fn_pick rfl rfl ?_
  unfold b__law_pick
  repeat wp_step
  refine len_obj hg ?_
  repeat wp_step
  refine next_d x (by omega) (by omega) fun r h' hr hr2 x' hx => ?_
  repeat wp_step
  have hlt : r.toNat < xs.length := by omega
  have hg' : h'.g e = some (.lst xs) := (hx.same e hl he).trans hg
  refine idx_obj hg' (show atI xs r = some xs[r.toNat] from ?_) (z _ _ (List.getElem_mem _) x' hx)
  unfold atI ixN
  rw [if_pos hr, if_pos (by omega)]
  exact List.getElem?_eq_getElem hlt
def Byt (ds : List Int) : Prop := ∀ x ∈ ds, 0 ≤ x ∧ x < 256
theorem bytes_d {d : Nat} (x : Dr h d) (z : ∀ ds h', ds.length ≤ 40 → Byt ds → Dr h' d → Hx d h h' → Q (.tup (ds.map W.int)) h') : callAt G78 (k + 4) Str.empty "_law_bytes" [.obj d, .int 40] h Q X := by
  refine call_at _ [some (.obj d), some (.int 40), none] fn_bytes rfl rfl ?_
  unfold b__law_bytes
  repeat wp_step
  refine next_d x (by decide) (by decide) fun r h' hr hr2 x' hx => ?_
  refine ⟨r, rfl, by omega, by omega, ?_⟩
  refine turns_inv (fun xs acc h2 => Dr h2 d ∧ Hx d h h2 ∧ ∃ ds : List Int, acc = ds.map W.int ∧ Byt ds ∧ acc.length + xs.length ≤ 40) (fun y rr acc h2 iv => ?_) (fun loc' h2 K K' kk s => ?_) (fun acc h2 iv => ?_) _ _ _ ⟨x', hx, [], rfl, (fun _ h => by cases h), (by simp; omega)⟩
  · obtain ⟨d2, hx2, ds, rfl, hb, hl⟩ := iv
    refine ⟨trivial, _, rfl, ?_⟩
    repeat wp_step
    refine next_d d2 (by decide) (by decide) fun r2 h3 hr hr2 d3 hx3 => ?_
    repeat wp_step
    refine ⟨by show 4 ≤ sizeLine; rw [sizeLine_eq]; decide, ?_⟩
    repeat wp_step
    refine pick_d d3.alloc (Nat.ne_of_gt d3.lt) (Nat.lt_succ_self _) alloc_new (by show 0 < 4; decide) (by show 4 < 2 ^ 30; decide) fun v h4 hv d4 hx4 => ?_
    have hv' : ∃ i : Int, v = .int i ∧ 0 ≤ i ∧ i < 256 := by
      simp only [List.mem_cons, List.not_mem_nil, or_false] at hv
      rcases hv with rfl | rfl | rfl | rfl
      · exact ⟨0, rfl, by decide, by decide⟩
      · exact ⟨255, rfl, by decide, by decide⟩
      · exact ⟨16, rfl, by decide, by decide⟩
      · exact ⟨r2, rfl, hr, hr2⟩
    obtain ⟨i, rfl, hi1, hi2⟩ := hv'
    simp only [List.length_map, List.length_cons] at hl
    refine ⟨by rw [sizeLine_eq, List.length_map]; omega, d4, ((hx2.trans hx3).trans Hx.alloc).trans hx4, ds ++ [i], by simp, fun y hy => ?_, by simp; omega⟩
    rcases List.mem_append.mp hy with hy | hy
    · exact hb y hy
    · obtain rfl : y = i := by simpa using hy
      exact ⟨hi1, hi2⟩
  · exact wpE_mono (callAt_mono _ _ (Nat.le_refl _)) _ _ _ _ _ _ _ (fun y h3 k => kk _ _ k) (fun _ _ z => z) s
  · obtain ⟨d2, hx2, ds, rfl, hb, hl⟩ := iv
    refine ⟨trivial, ?_⟩
    repeat wp_step
    refine ⟨_, alloc_new, ?_⟩
    simp only [List.length_map, List.length_nil] at hl
    exact z ds _ (by omega) hb d2.alloc (hx2.trans Hx.alloc)
end
end MP
set_option Elab.async false
set_option linter.all false
set_option maxRecDepth 100000
set_option maxHeartbeats 1000000
namespace MP
open PySem L2
local macro_rules | `(tactic| wp_step) => `(tactic| first
  | with_reducible refine ws_cons ?_ | with_reducible refine ws_nil ?_ | with_reducible refine ws_set ?_ | with_reducible refine ws_ret ?_ | with_reducible refine ws_ifs ?_ | with_reducible refine ws_fors ?_ | with_reducible refine ws_unp ?_
  | ((with_reducible apply ws_aug); exact rfl) | with_reducible refine ws_sidx ?_ | with_reducible refine ws_augi ?_ | with_reducible refine ws_raise ?_ | with_reducible refine ws_raiser ?_ | with_reducible refine ws_tryas ?_ | with_reducible refine ws_retn ?_ | with_reducible refine ws_cont ?_ | with_reducible refine ws_pass ?_ | with_reducible refine ws_expr ?_
  | with_reducible refine we_lit ?_ | ((with_reducible apply we_var); exact rfl) | with_reducible refine we_nop ?_ | with_reducible refine we_bin ?_ | with_reducible refine we_neg ?_ | with_reducible refine we_not ?_ | with_reducible refine we_and ?_ | with_reducible refine we_or ?_ | with_reducible refine we_cmp ?_ | with_reducible refine we_ife ?_
  | with_reducible refine we_tup ?_ | with_reducible refine we_lst ?_ | with_reducible refine we_idx ?_ | with_reducible refine we_slc ?_ | with_reducible refine we_fld ?_ | with_reducible refine we_call ?_ | with_reducible refine we_blt ?_ | with_reducible refine we_isi ?_ | with_reducible refine we_meth ?_ | with_reducible refine we_lc ?_ | with_reducible refine we_lcif ?_
  | with_reducible refine wa_nil ?_ | with_reducible refine wa_cons ?_ | with_reducible refine wi_e ?_ | with_reducible refine wi_rng1 ?_ | with_reducible refine wi_rng2 ?_ | with_reducible refine wi_rng3 ?_
  | with_reducible refine bi_add ?_ | with_reducible refine bi_sub ?_ | with_reducible refine bi_mul ?_ ?_ | with_reducible refine bi_mod ?_ ?_ | with_reducible refine bi_div ?_ ?_ | with_reducible refine bi_pow ?_ ?_ | with_reducible refine len_scr ?_ | with_reducible refine len_tup ?_ | with_reducible refine bi_cat ?_ ?_ | with_reducible refine bi_catT ?_ ?_ | with_reducible refine ip_add' ?_
  | with_reducible refine tru_bl ?_ | with_reducible refine cmp_eqI ?_ | with_reducible refine cmp_eqS ?_ | with_reducible refine cmp_neI ?_ | with_reducible refine cmp_neS ?_ | with_reducible refine cmp_lt ?_ | with_reducible refine cmp_le ?_ | with_reducible refine cmp_gt ?_ | with_reducible refine cmp_ge ?_ | with_reducible refine cmp_isN ?_ | with_reducible refine cmp_inS ?_ | with_reducible refine cmp_ninS ?_
  | with_reducible refine bi_len ?_ | with_reducible refine len_str ?_ ?_ | with_reducible refine bi_max ?_ | with_reducible refine bi_min ?_)
theorem fn_text : G78.fn Str.empty "data_text" = some ⟨1, [], 2, b_data_text⟩ := by kernel_rfl
theorem fn_by : G78.fn Str.empty "data_by" = some ⟨1, [], 3, b_data_by⟩ := by kernel_rfl
theorem fn_of' : G78.fn Str.empty "_law_data_of" = some ⟨1, [], 6, b__law_data_of⟩ := by kernel_rfl
theorem con_signs : G78.con "SIGNS" = some (.str "0123456789abcdef") := by kernel_rfl
def sgn : Str := "0123456789abcdef"
def sgnL : List Nat := [48, 49, 50, 51, 52, 53, 54, 55, 56, 57, 97, 98, 99, 100, 101, 102]
theorem sgn_tl : sgn.cps.toList = sgnL := by decide +kernel
def hv (c : Nat) : Nat := if c < 58 then c - 48 else c - 87
def hx (n : Nat) : Nat := if n < 10 then 48 + n else 87 + n
theorem idx_sgn {c : Nat} (hc : c ∈ sgnL) : Txt.index0 sgn ⟨#[c]⟩ = some (hv c) := by
  have : (sgnL.all fun c => Txt.index0 sgn ⟨#[c]⟩ == some (hv c)) = true := by decide +kernel
  exact eq_of_beq (List.all_eq_true.mp this c hc)
theorem at_sgn {n : Nat} (hn : n < 16) : atI sgn.cps.toList (n : Int) = some (hx n) := by
  have : ((List.range 16).all fun n => atI sgn.cps.toList (n : Int) == some (hx n)) = true := by decide +kernel
  exact eq_of_beq (List.all_eq_true.mp this n (List.mem_range.mpr hn))
theorem hx_mem {n : Nat} (hn : n < 16) : hx n ∈ sgnL ∧ hv (hx n) = n := by
  have : ((List.range 16).all fun n => decide (hx n ∈ sgnL ∧ hv (hx n) = n)) = true := by decide +kernel
  exact of_decide_eq_true (List.all_eq_true.mp this n (List.mem_range.mpr hn))
def val (l : List Nat) (j : Nat) : Int := 16 * (hv (l.getD (2 * j) 0) : Int) + (hv (l.getD (2 * j + 1) 0) : Int)
def dataOf (l : List Nat) : Option (List Int) := if l = [45] then some [] else if l = [] ∨ l.length % 2 = 1 ∨ ¬ (∀ c ∈ l, c ∈ sgnL) then none else some ((List.range (l.length / 2)).map (val l))
def dataW (l : List Nat) : W := match dataOf l with
  | none => .non
  | some ds => .tup (ds.map W.int)
structure H0 (h h' : MH) : Prop where
  le : h.n ≤ h'.n
  same : ∀ i, i < h.n → h'.g i = h.g i
theorem H0.refl {h : MH} : H0 h h := ⟨Nat.le_refl _, fun _ _ => rfl⟩
theorem H0.trans {h h1 h2 : MH} (a : H0 h h1) (b : H0 h1 h2) : H0 h h2 := ⟨Nat.le_trans a.le b.le, fun i h1 => (b.same i (Nat.lt_of_lt_of_le h1 a.le)).trans (a.same i h1)⟩
theorem H0.alloc {h : MH} {c : Cell} : H0 h (h.alloc c) := ⟨Nat.le_succ _, fun i hi => if_neg (Nat.ne_of_lt hi)⟩
theorem H0.hx {h h' : MH} (a : H0 h h') (d : Nat) : Hx d h h' := ⟨a.le, fun i h1 _ => a.same i h1⟩
theorem H0.dr {h h' : MH} (a : H0 h h') {d : Nat} (x : Dr h d) : Dr h' d := ⟨Nat.lt_of_lt_of_le x.lt a.le, by
  obtain ⟨p, q, r, h0, e⟩ := x.ex
  exact ⟨p, q, r, h0, (a.same d x.lt).trans e⟩⟩
section
variable {k : Nat} {h : MH} {Q : QW} {X : QX}
theorem sm_mono {e : E} {loc : Loc} {C : Fns} (hC : C = callAt G78 k) {K K' : Option W → MH → Prop} (kk : ∀ o h', K o h' → K' o h') (s : wpE C G78 e loc h (fun y h3 => K (some y) h3) fun _ _ => False) : wpE C G78 e loc h (fun y h3 => K' (some y) h3) fun _ _ => False := by
  subst hC
  exact wpE_mono (callAt_mono _ _ (Nat.le_refl _)) _ _ _ _ _ _ _ (fun y h3 k => kk _ _ k) (fun _ _ z => z) s
def hexS (x : Int) : Str := (⟨#[hx (x / 16).toNat]⟩ : Str) ++ ⟨#[hx (x % 16).toNat]⟩
def txt (ds : List Int) : Str := if ds = [] then "-" else Txt.join "" (ds.map hexS)
theorem text_ok {ds : List Int} (hb : Byt ds) (hl : ds.length ≤ 40) (z : ∀ h', H0 h h' → Q (.str (txt ds)) h') : callAt G78 (k + 1) Str.empty "data_text" [.tup (ds.map W.int)] h Q X := by
  refine call_at _ [some (.tup (ds.map W.int)), none] fn_text rfl rfl ?_
  unfold b_data_text
  repeat wp_step
  by_cases h0 : ds = []
  · subst h0
    rw [if_pos (by rfl)]
    repeat wp_step
    exact z _ .refl
  · have hne : ((ds.map W.int).length : Int) ≠ 0 := by simpa using h0
    rw [if_neg (by simpa using h0)]
    repeat wp_step
    refine .inr ⟨.str, ⟨trivial, rfl⟩, ?_⟩
    repeat wp_step
    refine ⟨_, _, ⟨rfl, rfl⟩, ?_⟩
    refine turns_inv (fun xs acc h2 => H0 h h2 ∧ ∃ p q : List Int, ds = p ++ q ∧ xs = q.map W.int ∧ acc = (p.map hexS).map W.str) (fun y rr acc h2 iv => ?_) (fun loc' h2 K K' kk s => ?_) (fun acc h2 iv => ?_) _ [] _ ⟨.refl, [], ds, rfl, rfl, rfl⟩
    · obtain ⟨hh, p, q, e1, e2, rfl⟩ := iv
      cases q with
      | nil => cases e2
      | cons x q =>
        cases e2
        obtain ⟨b1, b2⟩ := hb x (by rw [e1]; simp)
        refine ⟨trivial, _, rfl, ?_⟩
        repeat wp_step
        refine we_glo con_signs ?_
        repeat wp_step
        · have e16 : x / 16 = ((x / 16).toNat : Int) := by omega
          rw [e16]
          refine idx_str (at_sgn (by omega)) ?_ (by show sgn.length ≤ sizeLine; rw [sizeLine_eq]; decide +kernel)
          repeat wp_step
          refine we_glo con_signs ?_
          repeat wp_step
          · have e17 : x % 16 = ((x % 16).toNat : Int) := by omega
            rw [e17]
            refine idx_str (at_sgn (by omega)) ?_ (by show sgn.length ≤ sizeLine; rw [sizeLine_eq]; decide +kernel)
            repeat wp_step
            · have lp : p.length < ds.length := by rw [e1]; simp
              refine ⟨by rw [sizeLine_eq]; simp; omega, hh, p ++ [x], q, by simp [e1], rfl, by simp [hexS]⟩
            · show 1 + 1 ≤ sizeLine
              rw [sizeLine_eq]; decide
          · decide
        · exact cdiv (by decide) (by decide)
    · exact wpE_mono (callAt_mono _ _ (Nat.le_refl _)) _ _ _ _ _ _ _ (fun y h3 k => kk _ _ k) (fun _ _ z => z) s
    · obtain ⟨hh, p, q, e1, e2, rfl⟩ := iv
      have : q = [] := by simpa using e2.symm
      subst this
      rw [List.append_nil] at e1
      subst e1
      refine ⟨trivial, ?_⟩
      repeat wp_step
      refine ⟨ds.map hexS, alloc_new, ?_, ?_⟩
      · have : ((ds.map hexS).map (·.length)).sum ≤ 2 * ds.length := by
          clear hb hl z h0 hne hh
          induction ds with
          | nil => simp
          | cons x r ih =>
            have e2 : (hexS x).length = 2 := rfl
            simp only [List.map_cons, List.sum_cons, e2, List.length_cons]
            omega
        simp only [List.length_map]
        have e0 : ds.length * (Str.ofString "").length = 0 := by rw [show (Str.ofString "").length = 0 from rfl, Nat.mul_zero]
        omega
      · have := z (h2.alloc (.lst ((ds.map hexS).map W.str))) (hh.trans .alloc)
        unfold txt at this
        rw [if_neg h0] at this
        exact this
end
end MP
set_option Elab.async false
set_option linter.all false
set_option maxRecDepth 100000
set_option maxHeartbeats 1000000
namespace MP
open PySem L2
local macro_rules | `(tactic| wp_step) => `(tactic| first
  | with_reducible refine ws_cons ?_ | with_reducible refine ws_nil ?_ | with_reducible refine ws_set ?_ | with_reducible refine ws_ret ?_ | with_reducible refine ws_ifs ?_ | with_reducible refine ws_fors ?_ | with_reducible refine ws_unp ?_
  | ((with_reducible apply ws_aug); exact rfl) | with_reducible refine ws_sidx ?_ | with_reducible refine ws_augi ?_ | with_reducible refine ws_raise ?_ | with_reducible refine ws_raiser ?_ | with_reducible refine ws_tryas ?_ | with_reducible refine ws_retn ?_ | with_reducible refine ws_cont ?_ | with_reducible refine ws_pass ?_ | with_reducible refine ws_expr ?_
  | with_reducible refine we_lit ?_ | ((with_reducible apply we_var); exact rfl) | with_reducible refine we_nop ?_ | with_reducible refine we_bin ?_ | with_reducible refine we_neg ?_ | with_reducible refine we_not ?_ | with_reducible refine we_and ?_ | with_reducible refine we_or ?_ | with_reducible refine we_cmp ?_ | with_reducible refine we_ife ?_
  | with_reducible refine we_tup ?_ | with_reducible refine we_lst ?_ | with_reducible refine we_idx ?_ | with_reducible refine we_slc ?_ | with_reducible refine we_fld ?_ | with_reducible refine we_call ?_ | with_reducible refine we_blt ?_ | with_reducible refine we_isi ?_ | with_reducible refine we_meth ?_ | with_reducible refine we_lc ?_ | with_reducible refine we_lcif ?_
  | with_reducible refine wa_nil ?_ | with_reducible refine wa_cons ?_ | with_reducible refine wi_e ?_ | with_reducible refine wi_rng1 ?_ | with_reducible refine wi_rng2 ?_ | with_reducible refine wi_rng3 ?_
  | with_reducible refine bi_add ?_ | with_reducible refine bi_sub ?_ | with_reducible refine bi_mul ?_ ?_ | with_reducible refine bi_mod ?_ ?_ | with_reducible refine bi_div ?_ ?_ | with_reducible refine bi_pow ?_ ?_ | with_reducible refine len_scr ?_ | with_reducible refine len_tup ?_ | with_reducible refine bi_cat ?_ ?_ | with_reducible refine bi_catT ?_ ?_ | with_reducible refine ip_add' ?_
  | with_reducible refine tru_bl ?_ | with_reducible refine cmp_eqI ?_ | with_reducible refine cmp_eqS ?_ | with_reducible refine cmp_neI ?_ | with_reducible refine cmp_neS ?_ | with_reducible refine cmp_lt ?_ | with_reducible refine cmp_le ?_ | with_reducible refine cmp_gt ?_ | with_reducible refine cmp_ge ?_ | with_reducible refine cmp_isN ?_ | with_reducible refine cmp_inS ?_ | with_reducible refine cmp_ninS ?_
  | with_reducible refine bi_len ?_ | with_reducible refine len_str ?_ ?_ | with_reducible refine bi_max ?_ | with_reducible refine bi_min ?_)
theorem small_two {m : Nat} (h : m < 1000000) : Builtin.Range.small 0 ((2 * m : Nat) : Int) 2 = true ∧ Builtin.Range.rangeSize 0 ((2 * m : Nat) : Int) 2 = (m : Int) := by
  have e : Builtin.Range.rangeSize 0 ((2 * m : Nat) : Int) 2 = (m : Int) := by
    rw [PyProof.Rows.rangeSize_pos (by decide) (by omega)]
    omega
  refine ⟨?_, e⟩
  unfold Builtin.Range.small
  rw [e]
  generalize hM : ((2 * m : Nat) : Int) = M
  have hM2 : M = 2 * (m : Int) := by omega
  have fl : ∀ x : Int, 0 ≤ x → x < 10000000 → Builtin.Range.rangeFitsLong x = true := fun x a b => by
    unfold Builtin.Range.rangeFitsLong
    simp only [Bool.and_eq_true, decide_eq_true_eq]
    omega
  rw [if_pos (by decide), fl 0 (by decide) (by decide), fl M (by omega) (by omega), fl 2 (by decide) (by decide), fl m (by omega) (by omega), fl (M + (2 - 1)) (by omega) (by omega)]
  simp
theorem strIn_sgn {c : Nat} : strIn ⟨#[c]⟩ sgn = decide (c ∈ sgnL) := by
  have := PySem.StrLaws.found_one sgn c
  rw [sgn_tl] at this
  exact this
theorem cps_get {s : Str} {i : Nat} (hi : i < s.cps.size) : atI s.cps.toList (i : Int) = some (s.cps.toList.getD i 0) := by
  unfold atI ixN
  have hl : s.cps.toList.length = s.cps.size := by simp
  rw [if_pos (by omega), if_pos (by rw [hl]; omega)]
  show s.cps.toList[(i : Int).toNat]? = _
  rw [Int.toNat_natCast, List.getElem?_eq_getElem (by rw [hl]; exact hi), List.getD_eq_getElem?_getD, List.getElem?_eq_getElem (by rw [hl]; exact hi)]
  rfl
section
variable {k : Nat} {h : MH} {Q : QW} {X : QX}
theorem getD_mem {l : List Nat} {i : Nat} (hi : i < l.length) : l.getD i 0 ∈ l := by
  rw [List.getD_eq_getElem?_getD, List.getElem?_eq_getElem hi]
  exact List.getElem_mem _
theorem by_ok {s : Str} (hl : s.length ≤ 1000) (z : ∀ h', H0 h h' → Q (dataW s.cps.toList) h') : callAt G78 (k + 1) Str.empty "data_by" [.str s] h Q X := by
  have hlen : s.cps.toList.length = s.length := by simp [Str.length]
  have hcs : s.cps.size = s.length := rfl
  have hsz : s.length ≤ sizeLine := by rw [sizeLine_eq]; omega
  have hsg : sgn.length ≤ sizeLine := by rw [sizeLine_eq]; decide +kernel
  refine call_at _ [some (.str s), none, none] fn_by rfl rfl ?_
  unfold b_data_by
  repeat wp_step
  by_cases h1 : s = "-"
  · rw [if_pos (by simpa using h1)]
    repeat wp_step
    refine ⟨Nat.zero_le _, ?_⟩
    have := z h .refl
    subst h1
    exact this
  · have h1' : s.cps.toList ≠ [45] := fun e => h1 (TL.ext_tl (by show s.cps.toList = _; rw [e]; rfl))
    rw [if_neg (by simpa using h1)]
    repeat wp_step
    have none_ : (s.cps.toList = [] ∨ s.cps.toList.length % 2 = 1 ∨ ¬ (∀ c ∈ s.cps.toList, c ∈ sgnL)) → dataW s.cps.toList = .non := fun e => by
      unfold dataW dataOf
      rw [if_neg h1', if_pos e]
    by_cases h2 : s = ""
    · rw [if_pos (by simpa using h2)]
      repeat wp_step
      rw [if_pos (by simpa using h2)]
      repeat wp_step
      have := z h .refl
      rw [none_ (.inl (by rw [h2]; rfl))] at this
      exact this
    · have h2' : s.cps.toList ≠ [] := fun e => h2 (TL.ext_tl (by show s.cps.toList = _; rw [e]; rfl))
      rw [if_neg (by simpa using h2)]
      repeat wp_step
      · by_cases h3 : s.length % 2 = 1
        · have h3' : decide (((s.length : Nat) : Int) % 2 = 1) = true := by simp; omega
          rw [if_pos h3']
          repeat wp_step
          rw [if_pos h3']
          repeat wp_step
          have := z h .refl
          rw [none_ (.inr (.inl (by rw [hlen]; exact h3)))] at this
          exact this
        · have h3' : ¬ decide (((s.length : Nat) : Int) % 2 = 1) = true := by simp; omega
          rw [if_neg h3']
          repeat wp_step
          refine ⟨_, _, ⟨rfl, rfl⟩, ?_⟩
          refine turns_inv (fun xs acc h2 => H0 h h2 ∧ ∃ p q : List Nat, s.cps.toList = p ++ q ∧ xs = (q.map fun c => W.str ⟨#[c]⟩) ∧ acc = (p.map fun c => decide (c ∈ sgnL)).map W.bl) (fun y rr acc h2 iv => ?_) (fun loc' h2 K K' kk s => ?_) (fun acc h2 iv => ?_) _ [] _ ⟨.refl, [], _, rfl, rfl, rfl⟩
          · obtain ⟨hh, p, q, e1, e2, rfl⟩ := iv
            cases q with
            | nil => cases e2
            | cons x q =>
              cases e2
              refine ⟨trivial, _, rfl, ?_⟩
              repeat wp_step
              refine we_glo con_signs ?_
              repeat wp_step
              have lp : p.length ≤ 1000 := by
                have := congrArg List.length e1
                rw [hlen, List.length_append] at this
                omega
              rw [show strIn ⟨#[x]⟩ (Str.ofString "0123456789abcdef") = decide (x ∈ sgnL) from strIn_sgn]
              exact ⟨by rw [sizeLine_eq]; simp; omega, hh, p ++ [x], q, by simp [e1], rfl, by simp⟩
          · exact wpE_mono (callAt_mono _ _ (Nat.le_refl _)) _ _ _ _ _ _ _ (fun y h3 k => kk _ _ k) (fun _ _ z => z) s
          · obtain ⟨hh, p, q, e1, e2, rfl⟩ := iv
            have : q = [] := by simpa using e2.symm
            subst this
            rw [List.append_nil] at e1
            refine ⟨trivial, ?_⟩
            repeat wp_step
            refine ⟨_, alloc_new, ?_⟩
            have hx : H0 h (h2.alloc (.lst ((p.map fun c => decide (c ∈ sgnL)).map W.bl))) := hh.trans .alloc
            generalize h2.alloc (.lst ((p.map fun c => decide (c ∈ sgnL)).map W.bl)) = hq at hx ⊢
            repeat wp_step
            by_cases h4 : ∀ c ∈ s.cps.toList, c ∈ sgnL
            · have h4' : (p.map fun c => decide (c ∈ sgnL)).all id = true := by
                rw [e1] at h4
                simpa using h4
              rw [h4']
              rw [if_neg (by decide)]
              repeat wp_step
              obtain ⟨m, hm⟩ : ∃ m, s.length = 2 * m := ⟨s.length / 2, by omega⟩
              obtain ⟨r1, r2⟩ := small_two (m := m) (by omega)
              refine ⟨0, ((2 * m : Nat) : Int), 2, m, rfl, by rw [hm], rfl, ⟨by decide, by decide, r1, r2⟩, ?_⟩
              refine turns_inv (fun xs acc h2 => H0 h h2 ∧ ∃ j, j ≤ m ∧ xs = ((List.range m).drop j).map (fun i => W.int (0 + ((i : Nat) : Int) * 2)) ∧ acc = ((List.range j).map (val s.cps.toList)).map W.int) (fun y rr acc h2 iv => ?_) (fun loc' h2 K K' kk s => ?_) (fun acc h2 iv => ?_) _ [] _ ⟨hx, 0, Nat.zero_le _, rfl, rfl⟩
              · obtain ⟨hh, j, hj, e2, rfl⟩ := iv
                by_cases hjm : j < m
                · have ed : (List.range m).drop j = j :: (List.range m).drop (j + 1) := by
                    rw [List.drop_eq_getElem_cons (by simpa using hjm)]
                    simp
                  rw [ed, List.map_cons] at e2
                  simp only [List.cons.injEq] at e2
                  obtain ⟨rfl, rfl⟩ := e2
                  have lt1 : 2 * j < s.cps.size := by rw [hcs]; omega
                  have lt2 : 2 * j + 1 < s.cps.size := by rw [hcs]; omega
                  have m1 : s.cps.toList.getD (2 * j) 0 ∈ sgnL := h4 _ (getD_mem (by rw [hlen, ← hcs]; exact lt1))
                  have m2 : s.cps.toList.getD (2 * j + 1) 0 ∈ sgnL := h4 _ (getD_mem (by rw [hlen, ← hcs]; exact lt2))
                  refine ⟨trivial, _, rfl, ?_⟩
                  repeat wp_step
                  refine we_glo con_signs (.inr ⟨.str, ⟨trivial, rfl⟩, ?_⟩)
                  repeat wp_step
                  rw [show (0 + (j : Int) * 2) = ((2 * j : Nat) : Int) by omega]
                  refine idx_str (cps_get lt1) ?_ hsz
                  repeat wp_step
                  refine ⟨_, idx_sgn m1, ?_⟩
                  repeat wp_step
                  · refine we_glo con_signs (.inr ⟨.str, ⟨trivial, rfl⟩, ?_⟩)
                    repeat wp_step
                    rw [show (((2 * j : Nat) : Int) + 1) = ((2 * j + 1 : Nat) : Int) by omega]
                    refine idx_str (cps_get lt2) ?_ hsz
                    repeat wp_step
                    refine ⟨_, idx_sgn m2, ?_⟩
                    repeat wp_step
                    refine ⟨by rw [sizeLine_eq]; simp; omega, hh, j + 1, hjm, rfl, ?_⟩
                    rw [List.range_succ, List.map_append, List.map_append]
                    rfl
                  · exact mulL (by decide) (by decide)
                · rw [List.drop_eq_nil_of_le (by simp; omega)] at e2
                  cases e2
              · exact wpE_mono (callAt_mono _ _ (Nat.le_refl _)) _ _ _ _ _ _ _ (fun y h3 k => kk _ _ k) (fun _ _ z => z) s
              · obtain ⟨hh, j, hj, e2, rfl⟩ := iv
                have hjm : j = m := by
                  have := congrArg List.length e2
                  simp at this
                  omega
                subst hjm
                refine ⟨trivial, ?_⟩
                repeat wp_step
                refine ⟨_, alloc_new, ?_⟩
                have := z _ (hh.trans (H0.alloc (c := .lst (((List.range j).map (val s.cps.toList)).map W.int))))
                unfold dataW dataOf at this
                rw [if_neg h1', if_neg (by rw [hlen]; exact fun e => e.elim h2' fun e => e.elim h3 fun e => e h4), hlen, hm, Nat.mul_div_cancel_left _ (by decide)] at this
                exact this
              · exact hsz
            · have h4' : (p.map fun c => decide (c ∈ sgnL)).all id = false := by
                rw [e1] at h4
                simpa using h4
              rw [h4']
              rw [if_pos (by decide)]
              repeat wp_step
              have := z hq hx
              rw [none_ (.inr (.inr h4))] at this
              exact this
      all_goals first | exact hsz | decide
end
end MP
set_option Elab.async false
set_option linter.all false
set_option maxRecDepth 100000
set_option maxHeartbeats 1000000
namespace MP
open PySem L2
local macro_rules | `(tactic| wp_step) => `(tactic| first
  | with_reducible refine ws_cons ?_ | with_reducible refine ws_nil ?_ | with_reducible refine ws_set ?_ | with_reducible refine ws_ret ?_ | with_reducible refine ws_ifs ?_ | with_reducible refine ws_fors ?_ | with_reducible refine ws_unp ?_
  | ((with_reducible apply ws_aug); exact rfl) | with_reducible refine ws_sidx ?_ | with_reducible refine ws_augi ?_ | with_reducible refine ws_raise ?_ | with_reducible refine ws_raiser ?_ | with_reducible refine ws_tryas ?_ | with_reducible refine ws_retn ?_ | with_reducible refine ws_cont ?_ | with_reducible refine ws_pass ?_ | with_reducible refine ws_expr ?_
  | with_reducible refine we_lit ?_ | ((with_reducible apply we_var); exact rfl) | with_reducible refine we_nop ?_ | with_reducible refine we_bin ?_ | with_reducible refine we_neg ?_ | with_reducible refine we_not ?_ | with_reducible refine we_and ?_ | with_reducible refine we_or ?_ | with_reducible refine we_cmp ?_ | with_reducible refine we_ife ?_
  | with_reducible refine we_tup ?_ | with_reducible refine we_lst ?_ | with_reducible refine we_idx ?_ | with_reducible refine we_slc ?_ | with_reducible refine we_fld ?_ | with_reducible refine we_call ?_ | with_reducible refine we_blt ?_ | with_reducible refine we_isi ?_ | with_reducible refine we_meth ?_ | with_reducible refine we_lc ?_ | with_reducible refine we_lcif ?_
  | with_reducible refine wa_nil ?_ | with_reducible refine wa_cons ?_ | with_reducible refine wi_e ?_ | with_reducible refine wi_rng1 ?_ | with_reducible refine wi_rng2 ?_ | with_reducible refine wi_rng3 ?_
  | with_reducible refine bi_add ?_ | with_reducible refine bi_sub ?_ | with_reducible refine bi_mul ?_ ?_ | with_reducible refine bi_mod ?_ ?_ | with_reducible refine bi_div ?_ ?_ | with_reducible refine bi_pow ?_ ?_ | with_reducible refine len_scr ?_ | with_reducible refine len_tup ?_ | with_reducible refine bi_cat ?_ ?_ | with_reducible refine bi_catT ?_ ?_ | with_reducible refine ip_add' ?_
  | with_reducible refine tru_bl ?_ | with_reducible refine cmp_eqI ?_ | with_reducible refine cmp_eqS ?_ | with_reducible refine cmp_neI ?_ | with_reducible refine cmp_neS ?_ | with_reducible refine cmp_lt ?_ | with_reducible refine cmp_le ?_ | with_reducible refine cmp_gt ?_ | with_reducible refine cmp_ge ?_ | with_reducible refine cmp_isN ?_ | with_reducible refine cmp_inS ?_ | with_reducible refine cmp_ninS ?_
  | with_reducible refine bi_len ?_ | with_reducible refine len_str ?_ ?_ | with_reducible refine bi_max ?_ | with_reducible refine bi_min ?_)
/-- a for by an invariant, without a way out -/
theorem for_inv {gd : MH → Prop} {tg : Tg} {body : Loc → MH → En → Prop} {D : En} (Iv : List W → Loc → MH → Prop) (hmono : ∀ l h D D', En.Le D D' → body l h D → body l h D')
    (hs : ∀ x r loc h, Iv (x :: r) loc h → gd h ∧ ∃ loc', BindR h tg x loc loc' ∧ body loc' h { D with nx := Iv r, ct := Iv r }) (hd : ∀ loc h, Iv [] loc h → gd h ∧ D.nx loc h) : ∀ (xs : List W) (loc : Loc) (h : MH), Iv xs loc h → wpFor gd tg body D xs loc h
  | [], loc, h, z => hd loc h z
  | x :: r, loc, h, z => by
    obtain ⟨g1, loc', b, s⟩ := hs x r loc h z
    exact ⟨g1, loc', b, hmono _ _ { D with nx := Iv r, ct := Iv r } _ ⟨fun l h z => for_inv Iv hmono hs hd r l h z, fun _ _ z => z, fun l h z => for_inv Iv hmono hs hd r l h z, fun _ _ _ z => z⟩ s⟩
theorem strs_dat {h : MH} : ∀ (l : List Nat), DatHs h (l.map fun c => W.str ⟨#[c]⟩) (l.map fun c => PyData.str ⟨#[c]⟩)
  | [] => .nil
  | c :: l => .cons (.str _) (strs_dat l)
theorem strs_can : ∀ (l : List Nat), (∀ c ∈ l, c < 128) → PyData.canLayAll0 (l.map fun c => PyData.str ⟨#[c]⟩) = true ∧ PyData.depthAll (l.map fun c => PyData.str ⟨#[c]⟩) = 0
  | [], _ => ⟨rfl, rfl⟩
  | c :: l, h => by
    obtain ⟨a1, a2⟩ := strs_can l fun x hx => h x (List.mem_cons_of_mem _ hx)
    refine ⟨?_, ?_⟩
    · show (PyData.canLay0 (.str ⟨#[c]⟩) && _) = true
      rw [a1, Bool.and_true]
      show PyData.strOk ⟨#[c]⟩ = true
      have := h c List.mem_cons_self
      unfold PyData.strOk
      simp
      omega
    · show max 0 (PyData.depthAll _) = 0
      rw [a2]; rfl
theorem strs_ne {h : MH} {m n : Nat} {l : List Nat} {P : Bool → Prop} (e1 : h.g m = some (.lst (l.map fun c => W.str ⟨#[c]⟩))) (e2 : h.g n = some (.lst [])) (hl : ∀ c ∈ l, c < 128) (z : P (!l.isEmpty)) : ∃ r, CmpR h .ne (.obj m) (.obj n) r ∧ P r := by
  refine ⟨_, ⟨.list (l.map fun c => PyData.str ⟨#[c]⟩), .list [], .lst e1 (strs_dat l), .lst e2 .nil, ?_, by decide, ?_⟩, z⟩
  · obtain ⟨a1, a2⟩ := strs_can l hl
    unfold SeqAt.shaped
    rw [Bool.and_eq_true, decide_eq_true_eq]
    refine ⟨a1, ?_⟩
    show PyData.depthAll _ + 1 ≤ 64
    rw [a2]
    decide
  · cases l <;> rfl
section
variable {k : Nat} {h : MH} {Q : QW} {X : QX}
theorem of_ok {s : Str} (hl : s.length ≤ 1000) (ha : ∀ c ∈ s.cps.toList, c < 128) (z : ∀ h', H0 h h' → Q (dataW s.cps.toList) h') : callAt G78 (k + 1) Str.empty "_law_data_of" [.str s] h Q X := by
  have hlen : s.cps.toList.length = s.length := by simp [Str.length]
  have hcs : s.cps.size = s.length := rfl
  have hsz : s.length ≤ sizeLine := by rw [sizeLine_eq]; omega
  refine call_at _ [some (.str s), none, none, none, none, none] fn_of' rfl rfl ?_
  unfold b__law_data_of
  repeat wp_step
  by_cases h1 : s = "-"
  · rw [if_pos (by simpa using h1)]
    repeat wp_step
    refine ⟨Nat.zero_le _, ?_⟩
    have := z h .refl
    subst h1
    exact this
  · have h1' : s.cps.toList ≠ [45] := fun e => h1 (TL.ext_tl (by show s.cps.toList = _; rw [e]; rfl))
    rw [if_neg (by simpa using h1)]
    repeat wp_step
    have none_ : (s.cps.toList = [] ∨ s.cps.toList.length % 2 = 1 ∨ ¬ (∀ c ∈ s.cps.toList, c ∈ sgnL)) → dataW s.cps.toList = .non := fun e => by
      unfold dataW dataOf
      rw [if_neg h1', if_pos e]
    by_cases h2 : s = ""
    · rw [if_pos (by simpa using h2)]
      repeat wp_step
      rw [if_pos (by simpa using h2)]
      repeat wp_step
      have := z h .refl
      rw [none_ (.inl (by rw [h2]; rfl))] at this
      exact this
    · have h2' : s.cps.toList ≠ [] := fun e => h2 (TL.ext_tl (by show s.cps.toList = _; rw [e]; rfl))
      rw [if_neg (by simpa using h2)]
      repeat wp_step
      · by_cases h3 : s.length % 2 = 1
        · have h3' : decide (((s.length : Nat) : Int) % 2 = 1) = true := by simp; omega
          rw [if_pos h3']
          repeat wp_step
          rw [if_pos h3']
          repeat wp_step
          have := z h .refl
          rw [none_ (.inr (.inl (by rw [hlen]; exact h3)))] at this
          exact this
        · have h3' : ¬ decide (((s.length : Nat) : Int) % 2 = 1) = true := by simp; omega
          rw [if_neg h3']
          repeat wp_step
          refine ⟨_, _, ⟨rfl, rfl⟩, ?_⟩
          refine turns_inv (fun xs acc h2 => H0 h h2 ∧ ∃ p q : List Nat, s.cps.toList = p ++ q ∧ xs = (q.map fun c => W.str ⟨#[c]⟩) ∧ acc = (p.filter fun c => decide (c ∉ sgnL)).map fun c => W.str ⟨#[c]⟩) (fun y rr acc h2 iv => ?_) (fun loc' h2 K K' kk s => ?_) (fun acc h2 iv => ?_) _ [] _ ⟨.refl, [], _, rfl, rfl, rfl⟩
          · obtain ⟨hh, p, q, e1, e2, rfl⟩ := iv
            cases q with
            | nil => cases e2
            | cons x q =>
              cases e2
              refine ⟨trivial, _, rfl, ?_⟩
              repeat wp_step
              have lp : p.length ≤ 1000 := by
                have := congrArg List.length e1
                rw [hlen, List.length_append] at this
                omega
              rw [show strIn ⟨#[x]⟩ (Str.ofString "0123456789abcdef") = decide (x ∈ sgnL) from strIn_sgn]
              by_cases hx : x ∈ sgnL
              · rw [if_neg (by simp [hx])]
                exact ⟨hh, p ++ [x], q, by simp [e1], rfl, by simp [hx]⟩
              · rw [if_pos (by simp [hx])]
                repeat wp_step
                have lf := List.length_filter_le (fun c => decide (c ∉ sgnL)) p
                exact ⟨by rw [sizeLine_eq, List.length_map]; omega, hh, p ++ [x], q, by simp [e1], rfl, by simp [hx]⟩
          · refine wpE_mono (callAt_mono _ _ (Nat.le_refl _)) _ _ _ _ _ _ _ (fun y h3 => ?_) (fun _ _ z => z) s
            rintro ⟨b, tb, kq⟩
            refine ⟨b, tb, ?_⟩
            cases b with
            | true => exact wpE_mono (callAt_mono _ _ (Nat.le_refl _)) _ _ _ _ _ _ _ (fun y h3 k => kk _ _ k) (fun _ _ z => z) kq
            | false => exact kk _ _ kq
          · obtain ⟨hh, p, q, e1, e2, rfl⟩ := iv
            have : q = [] := by simpa using e2.symm
            subst this
            rw [List.append_nil] at e1
            refine ⟨trivial, ?_⟩
            repeat wp_step
            refine ⟨Nat.zero_le _, ?_⟩
            generalize hbad : (p.filter fun c => decide (c ∉ sgnL)) = bad
            have hb128 : ∀ c ∈ bad, c < 128 := fun c hc => ha c (by rw [e1]; rw [← hbad] at hc; exact (List.mem_filter.mp hc).1)
            have hx : H0 h ((h2.alloc (.lst (bad.map fun c => W.str ⟨#[c]⟩))).alloc (.lst [])) := (hh.trans .alloc).trans .alloc
            refine strs_ne (m := h2.n) (n := h2.n + 1) ((if_neg (Nat.ne_of_lt (Nat.lt_succ_self _))).trans alloc_new) alloc_new hb128 ?_
            generalize ((h2.alloc (.lst (bad.map fun c => W.str ⟨#[c]⟩))).alloc (.lst [])) = hq at hx ⊢
            repeat wp_step
            by_cases h4 : ∀ c ∈ s.cps.toList, c ∈ sgnL
            · have hbe : bad = [] := by
                rw [← hbad, List.filter_eq_nil_iff]
                intro c hc
                have := h4 c (by rw [e1]; exact hc)
                simp [this]
              rw [hbe, if_neg (by decide)]
              repeat wp_step
              refine ⟨Nat.zero_le _, ?_⟩
              repeat wp_step
              obtain ⟨m, hm⟩ : ∃ m, s.length = 2 * m := ⟨s.length / 2, by omega⟩
              obtain ⟨r1, r2⟩ := small_two (m := m) (by omega)
              refine ⟨0, ((2 * m : Nat) : Int), 2, m, rfl, by rw [hm], rfl, ⟨by decide, by decide, r1, r2⟩, ?_⟩
              refine for_inv (fun xs loc h2 => H0 h h2 ∧ ∃ j, j ≤ m ∧ xs = ((List.range m).drop j).map (fun i => W.int (0 + ((i : Nat) : Int) * 2)) ∧ ∃ a b c, loc = [some (.str s), some (.str "0123456789abcdef"), some (.tup (((List.range j).map (val s.cps.toList)).map W.int)), a, b, c])
                (fun l h D D' d z => ?_) (fun y rr loc h2 iv => ?_) (fun loc h2 iv => ?_) _ _ _ ⟨hx, 0, Nat.zero_le _, rfl, none, none, none, rfl⟩
              · exact wpSs_mono (callAt_mono _ _ (Nat.le_refl _)) _ _ _ _ _ d z
              · obtain ⟨hh, j, hj, e2, a, b, c, rfl⟩ := iv
                by_cases hjm : j < m
                · have ed : (List.range m).drop j = j :: (List.range m).drop (j + 1) := by
                    rw [List.drop_eq_getElem_cons (by simpa using hjm)]
                    simp
                  rw [ed, List.map_cons] at e2
                  simp only [List.cons.injEq] at e2
                  obtain ⟨rfl, rfl⟩ := e2
                  have lt1 : 2 * j < s.cps.size := by rw [hcs]; omega
                  have lt2 : 2 * j + 1 < s.cps.size := by rw [hcs]; omega
                  have m1 : s.cps.toList.getD (2 * j) 0 ∈ sgnL := h4 _ (getD_mem (by rw [hlen, ← hcs]; exact lt1))
                  have m2 : s.cps.toList.getD (2 * j + 1) 0 ∈ sgnL := h4 _ (getD_mem (by rw [hlen, ← hcs]; exact lt2))
                  refine ⟨trivial, _, rfl, ?_⟩
                  repeat wp_step
                  refine .inr ⟨.str, ⟨trivial, rfl⟩, ?_⟩
                  repeat wp_step
                  rw [show (0 + (j : Int) * 2) = ((2 * j : Nat) : Int) by omega]
                  refine idx_str (cps_get lt1) ?_ hsz
                  repeat wp_step
                  refine ⟨_, idx_sgn m1, ?_⟩
                  repeat wp_step
                  · refine .inr ⟨.str, ⟨trivial, rfl⟩, ?_⟩
                    repeat wp_step
                    rw [show (((2 * j : Nat) : Int) + 1) = ((2 * j + 1 : Nat) : Int) by omega]
                    refine idx_str (cps_get lt2) ?_ hsz
                    repeat wp_step
                    refine ⟨_, idx_sgn m2, ?_⟩
                    repeat wp_step
                    refine ⟨by show 1 ≤ sizeLine; rw [sizeLine_eq]; decide, ?_⟩
                    repeat wp_step
                    · refine ⟨hh, j + 1, hjm, rfl, some (.int ((2 * j : Nat) : Int)), some (.int (hv (s.cps.toList.getD (2 * j) 0) : Nat)), c, ?_⟩
                      rw [List.range_succ, List.map_append, List.map_append]
                      rfl
                    · rw [sizeLine_eq]; simp; omega
                  · exact mulL (by decide) (by decide)
                · rw [List.drop_eq_nil_of_le (by simp; omega)] at e2
                  cases e2
              · obtain ⟨hh, j, hj, e2, a, b, c, rfl⟩ := iv
                have hjm : j = m := by
                  have := congrArg List.length e2
                  simp at this
                  omega
                subst hjm
                refine ⟨trivial, ?_⟩
                repeat wp_step
                have := z _ hh
                unfold dataW dataOf at this
                rw [if_neg h1', if_neg (by rw [hlen]; exact fun e => e.elim h2' fun e => e.elim h3 fun e => e h4), hlen, hm, Nat.mul_div_cancel_left _ (by decide)] at this
                exact this
              · exact hsz
            · have hbe : (!bad.isEmpty) = true := by
                cases hb : bad with
                | nil =>
                  exfalso
                  apply h4
                  intro c hc
                  rw [hb, List.filter_eq_nil_iff] at hbad
                  have := hbad c (by rw [← e1]; exact hc)
                  simpa using this
                | cons c r => rfl
              rw [if_pos hbe]
              repeat wp_step
              have := z hq hx
              rw [none_ (.inr (.inr h4))] at this
              exact this
      all_goals first | exact hsz | decide
end
end MP
set_option Elab.async false
set_option linter.all false
set_option maxRecDepth 100000
set_option maxHeartbeats 1000000
namespace MP
open PySem L2
local macro_rules | `(tactic| wp_step) => `(tactic| first
  | with_reducible refine ws_cons ?_ | with_reducible refine ws_nil ?_ | with_reducible refine ws_set ?_ | with_reducible refine ws_ret ?_ | with_reducible refine ws_ifs ?_ | with_reducible refine ws_fors ?_ | with_reducible refine ws_unp ?_
  | ((with_reducible apply ws_aug); exact rfl) | with_reducible refine ws_sidx ?_ | with_reducible refine ws_augi ?_ | with_reducible refine ws_raise ?_ | with_reducible refine ws_raiser ?_ | with_reducible refine ws_tryas ?_ | with_reducible refine ws_retn ?_ | with_reducible refine ws_cont ?_ | with_reducible refine ws_pass ?_ | with_reducible refine ws_expr ?_
  | with_reducible refine we_lit ?_ | ((with_reducible apply we_var); exact rfl) | with_reducible refine we_nop ?_ | with_reducible refine we_bin ?_ | with_reducible refine we_neg ?_ | with_reducible refine we_not ?_ | with_reducible refine we_and ?_ | with_reducible refine we_or ?_ | with_reducible refine we_cmp ?_ | with_reducible refine we_ife ?_
  | with_reducible refine we_tup ?_ | with_reducible refine we_lst ?_ | with_reducible refine we_idx ?_ | with_reducible refine we_slc ?_ | with_reducible refine we_fld ?_ | with_reducible refine we_call ?_ | with_reducible refine we_blt ?_ | with_reducible refine we_isi ?_ | with_reducible refine we_meth ?_ | with_reducible refine we_lc ?_ | with_reducible refine we_lcif ?_
  | with_reducible refine wa_nil ?_ | with_reducible refine wa_cons ?_ | with_reducible refine wi_e ?_ | with_reducible refine wi_rng1 ?_ | with_reducible refine wi_rng2 ?_ | with_reducible refine wi_rng3 ?_
  | with_reducible refine bi_add ?_ | with_reducible refine bi_sub ?_ | with_reducible refine bi_mul ?_ ?_ | with_reducible refine bi_mod ?_ ?_ | with_reducible refine bi_div ?_ ?_ | with_reducible refine bi_pow ?_ ?_ | with_reducible refine len_scr ?_ | with_reducible refine len_tup ?_ | with_reducible refine bi_cat ?_ ?_ | with_reducible refine bi_catT ?_ ?_ | with_reducible refine ip_add' ?_
  | with_reducible refine tru_bl ?_ | with_reducible refine cmp_eqI ?_ | with_reducible refine cmp_eqS ?_ | with_reducible refine cmp_neI ?_ | with_reducible refine cmp_neS ?_ | with_reducible refine cmp_lt ?_ | with_reducible refine cmp_le ?_ | with_reducible refine cmp_gt ?_ | with_reducible refine cmp_ge ?_ | with_reducible refine cmp_isN ?_ | with_reducible refine cmp_inS ?_ | with_reducible refine cmp_ninS ?_
  | with_reducible refine bi_len ?_ | with_reducible refine len_str ?_ ?_ | with_reducible refine bi_max ?_ | with_reducible refine bi_min ?_)
theorem fn_read : G78.fn Str.empty "read_data" = some ⟨1, [], 2, b_read_data⟩ := by kernel_rfl
theorem fn_asked : G78.fn Str.empty "_law_asked" = some ⟨1, [], 4, b__law_asked⟩ := by kernel_rfl
theorem sub_nt : G78.sub "NoText" "NoText" = true := by kernel_rfl
section
variable {k : Nat} {h : MH} {Q : QW} {X : QX}
theorem read_ok {s : Str} (hl : s.length ≤ 1000) (z : ∀ h' ds, dataOf s.cps.toList = some ds → H0 h h' → Q (.tup (ds.map W.int)) h') (x : ∀ h', dataOf s.cps.toList = none → H0 h h' → X ⟨"NoText", [("row", .int 0)]⟩ h') : callAt G78 (k + 2) Str.empty "read_data" [.str s] h Q X := by
  refine call_at _ [some (.str s), none] fn_read rfl rfl ?_
  unfold b_read_data
  repeat wp_step
  refine by_ok hl fun h' hh => ?_
  repeat wp_step
  unfold dataW
  cases e : dataOf s.cps.toList with
  | none =>
    rw [if_pos rfl]
    repeat wp_step
    exact ⟨0, rfl, by decide, x h' e hh⟩
  | some ds =>
    rw [if_neg Bool.false_ne_true]
    repeat wp_step
    exact z h' ds e hh
/-- what the law hears: a list of the data, or the row 0 -/
theorem asked_ok {s : Str} (hl : s.length ≤ 1000) (z : ∀ h' n ds, dataOf s.cps.toList = some ds → H0 h h' → h.n ≤ n → n < h'.n → h'.g n = some (.lst [.tup (ds.map W.int)]) → Q (.obj n) h') (x : ∀ h', dataOf s.cps.toList = none → H0 h h' → Q (.int 0) h') :
    callAt G78 (k + 3) Str.empty "_law_asked" [.str s] h Q X := by
  refine call_at _ [some (.str s), none, none, none] fn_asked rfl rfl ?_
  unfold b__law_asked
  repeat wp_step
  refine read_ok hl (fun h' ds e hh => ?_) (fun h' e hh => ?_)
  · repeat wp_step
    refine ⟨by show 1 ≤ sizeLine; rw [sizeLine_eq]; decide, ?_⟩
    repeat wp_step
    rw [if_pos rfl]
    repeat wp_step
    exact z _ h'.n ds e (hh.trans .alloc) hh.le (Nat.lt_succ_self _) alloc_new
  · dsimp only
    rw [if_pos sub_nt]
    repeat wp_step
    rw [if_neg Bool.false_ne_true]
    repeat wp_step
    exact ⟨_, _, _, _, rfl, .inr alloc_new, rfl, x _ e (hh.trans .alloc)⟩
end
end MP
set_option Elab.async false
set_option linter.all false
set_option maxRecDepth 100000
set_option maxHeartbeats 1000000
namespace MP
open PySem L2
def Asc (s : Str) : Prop := ∀ c ∈ s.cps.toList, c < 128
def hex2 (x : Int) : List Nat := [hx (x / 16).toNat, hx (x % 16).toNat]
theorem joinL_nil : ∀ ps : List (List Nat), TL.joinL [] ps = ps.flatten
  | [] => rfl
  | [p] => by simp [TL.joinL]
  | p :: q :: r => by
    show p ++ ([] ++ TL.joinL [] (q :: r)) = _
    rw [joinL_nil (q :: r)]
    simp
theorem txt_tl {ds : List Int} (h : ds ≠ []) : (txt ds).cps.toList = ds.flatMap hex2 := by
  unfold txt
  rw [if_neg h, TL.join_eq]
  have := TL.tl_join "" (ds.map hexS)
  rw [show TL.tl (Str.ofString "") = [] from rfl, joinL_nil, List.map_map] at this
  refine (show TL.tl _ = _ from this).trans ?_
  rw [List.flatMap_def]
  congr 1
theorem hex2_mem {ds : List Int} (hb : Byt ds) : ∀ c ∈ ds.flatMap hex2, c ∈ sgnL := fun c hc => by
  obtain ⟨x, hx1, hx2⟩ := List.mem_flatMap.mp hc
  obtain ⟨b1, b2⟩ := hb x hx1
  simp only [hex2, List.mem_cons, List.not_mem_nil, or_false] at hx2
  rcases hx2 with rfl | rfl
  · exact (hx_mem (by omega)).1
  · exact (hx_mem (by omega)).1
theorem hex2_len : ∀ ds : List Int, (ds.flatMap hex2).length = 2 * ds.length
  | [] => rfl
  | x :: r => by
    rw [List.flatMap_cons, List.length_append, hex2_len r]
    simp [hex2]; omega
theorem sgn_lt : ∀ c ∈ sgnL, c < 128 ∧ c ≠ 45 := by decide
theorem val_cons {x : Int} {r : List Int} (hb : 0 ≤ x ∧ x < 256) : val ((x :: r).flatMap hex2) 0 = x := by
  unfold val
  show 16 * ((hv (hx _) : Nat) : Int) + ((hv (hx _) : Nat) : Int) = x
  rw [(hx_mem (n := (x / 16).toNat) (by omega)).2, (hx_mem (n := (x % 16).toNat) (by omega)).2]
  omega
theorem val_succ {x : Int} {r : List Int} {j : Nat} : val ((x :: r).flatMap hex2) (j + 1) = val (r.flatMap hex2) j := by
  unfold val
  have e1 : 2 * (j + 1) = 2 * j + 1 + 1 := by omega
  have e2 : 2 * (j + 1) + 1 = 2 * j + 1 + 1 + 1 := by omega
  rw [e2, e1]
  rfl
theorem vals_eq : ∀ (ds : List Int), Byt ds → (List.range ds.length).map (val (ds.flatMap hex2)) = ds
  | [], _ => rfl
  | x :: r, hb => by
    have ih := vals_eq r fun y hy => hb y (List.mem_cons_of_mem _ hy)
    rw [List.length_cons, List.range_succ_eq_map, List.map_cons, val_cons (hb x List.mem_cons_self), List.map_map]
    exact congrArg (x :: ·) ((List.map_congr_left fun j _ => val_succ).trans ih)
theorem data_txt {ds : List Int} (hb : Byt ds) : dataOf (txt ds).cps.toList = some ds := by
  by_cases h : ds = []
  · subst h
    rfl
  · have hl := hex2_len ds
    have hp : 0 < ds.length := List.length_pos_iff.mpr h
    rw [txt_tl h]
    unfold dataOf
    rw [if_neg, if_neg, hl, Nat.mul_div_cancel_left _ (by decide), vals_eq ds hb]
    · rintro (e | e | e)
      · rw [e] at hl; simp at hl; omega
      · omega
      · exact e (hex2_mem hb)
    · intro e
      rw [e] at hl
      simp at hl
      omega
theorem txt_len {ds : List Int} (hl : ds.length ≤ 40) : (txt ds).length ≤ 80 := by
  by_cases h : ds = []
  · subst h; decide
  · have := hex2_len ds
    have e : (txt ds).length = (txt ds).cps.toList.length := by simp [Str.length]
    rw [e, txt_tl h]
    omega
theorem txt_asc {ds : List Int} (hb : Byt ds) : Asc (txt ds) := fun c hc => by
  by_cases h : ds = []
  · subst h
    have hc' : c ∈ [45] := hc
    obtain rfl : c = 45 := by simpa using hc'
    decide
  · rw [txt_tl h] at hc
    exact (sgn_lt c (hex2_mem hb c hc)).1
theorem txt_ne {ds : List Int} (hb : Byt ds) : txt ds ≠ "" ∧ txt ds ≠ "--" := by
  have d := data_txt hb
  refine ⟨fun e => ?_, fun e => ?_⟩
  · rw [e] at d
    have : dataOf (Str.ofString "").cps.toList = none := by decide +kernel
    rw [this] at d; cases d
  · rw [e] at d
    have : dataOf (Str.ofString "--").cps.toList = none := by decide +kernel
    rw [this] at d; cases d
theorem up_sgn : ∀ c ∈ sgnL, PyProof.Rows.up1 c = c ∨ PyProof.Rows.up1 c ∉ sgnL := by decide +kernel
theorem up_txt {ds : List Int} (hb : Byt ds) (hne : Txt.upper (txt ds) ≠ txt ds) : dataOf (Txt.upper (txt ds)).cps.toList = none ∧ (Txt.upper (txt ds)).length = (txt ds).length := by
  have ha : (txt ds).cps.toList.all (· < 128) = true := List.all_eq_true.mpr fun c hc => by simpa using txt_asc hb c hc
  have eS : SX.S (txt ds).cps.toList = txt ds := TL.ext_tl rfl
  have eu : Txt.upper (txt ds) = SX.S ((txt ds).cps.toList.map PyProof.Rows.up1) := by
    have := SX.upper_S ha
    rw [eS] at this
    exact this
  have etl : (Txt.upper (txt ds)).cps.toList = (txt ds).cps.toList.map PyProof.Rows.up1 := by rw [eu]
  refine ⟨?_, by
    have e1 : (Txt.upper (txt ds)).length = (Txt.upper (txt ds)).cps.toList.length := by simp [Str.length]
    have e2 : (txt ds).length = (txt ds).cps.toList.length := by simp [Str.length]
    rw [e1, e2, etl, List.length_map]⟩
  by_cases h : ds = []
  · subst h
    exact absurd (by decide +kernel) hne
  · have hm := hex2_mem hb
    rw [← txt_tl h] at hm
    have : ∃ c ∈ (txt ds).cps.toList, PyProof.Rows.up1 c ∉ sgnL := by
      refine Classical.byContradiction fun hno => hne (TL.ext_tl ?_)
      show (Txt.upper (txt ds)).cps.toList = (txt ds).cps.toList
      rw [etl]
      refine (List.map_congr_left fun c hc => ?_).trans (List.map_id _)
      rcases up_sgn c (hm c hc) with e | e
      · exact e
      · exact absurd ⟨c, hc, e⟩ hno
    obtain ⟨c, hc, hn⟩ := this
    unfold dataOf
    rw [etl, if_neg, if_pos]
    · exact .inr (.inr fun hall => hn (hall _ (List.mem_map_of_mem hc)))
    · intro e
      have hl := hex2_len ds
      rw [← txt_tl h] at hl
      have := congrArg List.length e
      rw [List.length_map, hl] at this
      simp at this
      omega
theorem cut_asc {s : Str} {lo hi : Option Int} (h : Asc s) : Asc (cutS s lo hi) := fun c hc => h c (List.mem_of_mem_drop (List.mem_of_mem_take (show c ∈ (s.cps.toList.drop _).take _ from by simpa [cutS] using hc)))
theorem cut_len {s : Str} {lo hi : Option Int} : (cutS s lo hi).length ≤ s.length := by
  have e : (cutS s lo hi).length = ((s.cps.toList.drop (HT.sIx s.length 0 lo)).take (HT.sIx s.length s.length hi - HT.sIx s.length 0 lo)).length := by
    unfold cutS Str.length
    simp
  rw [e, List.length_take, List.length_drop]
  have : s.cps.toList.length = s.length := by simp [Str.length]
  omega
theorem app_asc {s t : Str} (h1 : Asc s) (h2 : Asc t) : Asc (s ++ t) := fun c hc => by
  have : (s ++ t).cps.toList = s.cps.toList ++ t.cps.toList := by
    show (s.cps ++ t.cps).toList = _
    simp
  rw [this] at hc
  rcases List.mem_append.mp hc with hc | hc
  · exact h1 c hc
  · exact h2 c hc
theorem app_len {s t : Str} : (s ++ t).length = s.length + t.length := by
  show (s.cps ++ t.cps).size = _
  simp [Str.length]
end MP
set_option Elab.async false
set_option linter.all false
set_option maxRecDepth 100000
set_option maxHeartbeats 2000000
namespace MP
open PySem L2
local macro_rules | `(tactic| wp_step) => `(tactic| first
  | with_reducible refine ws_cons ?_ | with_reducible refine ws_nil ?_ | with_reducible refine ws_set ?_ | with_reducible refine ws_ret ?_ | with_reducible refine ws_ifs ?_ | with_reducible refine ws_fors ?_ | with_reducible refine ws_unp ?_
  | ((with_reducible apply ws_aug); exact rfl) | with_reducible refine ws_sidx ?_ | with_reducible refine ws_augi ?_ | with_reducible refine ws_raise ?_ | with_reducible refine ws_raiser ?_ | with_reducible refine ws_tryas ?_ | with_reducible refine ws_retn ?_ | with_reducible refine ws_cont ?_ | with_reducible refine ws_pass ?_ | with_reducible refine ws_expr ?_
  | with_reducible refine we_lit ?_ | ((with_reducible apply we_var); exact rfl) | with_reducible refine we_nop ?_ | with_reducible refine we_bin ?_ | with_reducible refine we_neg ?_ | with_reducible refine we_not ?_ | with_reducible refine we_and ?_ | with_reducible refine we_or ?_ | with_reducible refine we_cmp ?_ | with_reducible refine we_ife ?_
  | with_reducible refine we_tup ?_ | with_reducible refine we_lst ?_ | with_reducible refine we_idx ?_ | with_reducible refine we_slc ?_ | with_reducible refine we_fld ?_ | with_reducible refine we_call ?_ | with_reducible refine we_blt ?_ | with_reducible refine we_isi ?_ | with_reducible refine we_meth ?_ | with_reducible refine we_lc ?_ | with_reducible refine we_lcif ?_
  | with_reducible refine wa_nil ?_ | with_reducible refine wa_cons ?_ | with_reducible refine wi_e ?_ | with_reducible refine wi_rng1 ?_ | with_reducible refine wi_rng2 ?_ | with_reducible refine wi_rng3 ?_
  | with_reducible refine bi_add ?_ | with_reducible refine bi_sub ?_ | with_reducible refine bi_mul ?_ ?_ | with_reducible refine bi_mod ?_ ?_ | with_reducible refine bi_div ?_ ?_ | with_reducible refine bi_pow ?_ ?_ | with_reducible refine len_scr ?_ | with_reducible refine len_tup ?_ | with_reducible refine bi_cat ?_ ?_ | with_reducible refine bi_catT ?_ ?_ | with_reducible refine ip_add' ?_
  | with_reducible refine tru_bl ?_ | with_reducible refine cmp_eqI ?_ | with_reducible refine cmp_eqS ?_ | with_reducible refine cmp_neI ?_ | with_reducible refine cmp_neS ?_ | with_reducible refine cmp_lt ?_ | with_reducible refine cmp_le ?_ | with_reducible refine cmp_gt ?_ | with_reducible refine cmp_ge ?_ | with_reducible refine cmp_isN ?_ | with_reducible refine cmp_inS ?_ | with_reducible refine cmp_ninS ?_
  | with_reducible refine bi_len ?_ | with_reducible refine len_str ?_ ?_ | with_reducible refine bi_max ?_ | with_reducible refine bi_min ?_)
theorem opt_non {P : Option Int → Prop} (z : P none) : ∃ l, optI .non = some l ∧ P l := ⟨none, rfl, z⟩
theorem opt_int {i : Int} {P : Option Int → Prop} (z : P (some i)) : ∃ l, optI (.int i) = some l ∧ P l := ⟨some i, rfl, z⟩
theorem slc_str {s : Str} {lo hi : Option Int} {h : MH} {Q : QW} (z : Q (.str (cutS s lo hi)) h) (l : s.length ≤ sizeLine) : wpSlc (.str s) lo hi h Q := ⟨l, z⟩
local macro_rules | `(tactic| wp_step) => `(tactic| first | with_reducible refine opt_non ?_ | with_reducible refine opt_int ?_ | with_reducible refine slc_str ?_ ?_)
theorem fn_law : G78.fn Str.empty "law" = some ⟨1, [], 10, b_law⟩ := by kernel_rfl
theorem ints_dat {h : MH} : ∀ (l : List Int), DatHs h (l.map W.int) (l.map PyData.int)
  | [] => .nil
  | c :: l => .cons (.int _) (ints_dat l)
theorem ints_can : ∀ (l : List Int), PyData.canLayAll0 (l.map PyData.int) = true ∧ PyData.depthAll (l.map PyData.int) = 0 ∧ PyData.eqvAll (l.map PyData.int) (l.map PyData.int) = true
  | [] => ⟨rfl, rfl, rfl⟩
  | c :: l => by
    obtain ⟨a1, a2, a3⟩ := ints_can l
    refine ⟨?_, ?_, ?_⟩
    · show (true && _) = true
      rw [a1]; rfl
    · show max 0 (PyData.depthAll _) = 0
      rw [a2]; rfl
    · show ((c == c) && _) = true
      rw [a3]; simp
theorem tup_ne {h : MH} {ds : List Int} {P : Bool → Prop} (z : P false) : ∃ r, CmpR h .ne (.tup (ds.map W.int)) (.tup (ds.map W.int)) r ∧ P r := by
  obtain ⟨a1, a2, a3⟩ := ints_can ds
  have sh : SeqAt.shaped (.tuple (ds.map PyData.int)) = true := by
    unfold SeqAt.shaped
    rw [Bool.and_eq_true, decide_eq_true_eq]
    refine ⟨a1, ?_⟩
    show PyData.depthAll _ + 1 ≤ 64
    rw [a2]; decide
  exact ⟨false, ⟨_, _, .tup (ints_dat ds), .tup (ints_dat ds), sh, sh, a3.symm⟩, z⟩
theorem lt_ne {h : MH} {m n : Nat} {ds : List Int} {P : Bool → Prop} (e1 : h.g m = some (.lst [.tup (ds.map W.int)])) (e2 : h.g n = some (.lst [.tup (ds.map W.int)])) (z : P false) : ∃ r, CmpR h .ne (.obj m) (.obj n) r ∧ P r := by
  obtain ⟨a1, a2, a3⟩ := ints_can ds
  have sh : SeqAt.shaped (.list [.tuple (ds.map PyData.int)]) = true := by
    unfold SeqAt.shaped
    rw [Bool.and_eq_true, decide_eq_true_eq]
    refine ⟨?_, ?_⟩
    · show (PyData.canLayAll0 _ && true) = true
      rw [a1]; rfl
    · show max (PyData.depthAll _ + 1) 0 + 1 ≤ 64
      rw [a2]; decide
  refine ⟨false, ⟨_, _, .lst e1 (.cons (.tup (ints_dat ds)) .nil), .lst e2 (.cons (.tup (ints_dat ds)) .nil), sh, sh, ?_⟩, z⟩
  show true = (PyData.eqvAll _ _ && true)
  rw [a3]; rfl
theorem in_two {h : MH} {t : Str} (h1 : t ≠ "") (h2 : t ≠ "--") {P : Bool → Prop} (z : P false) : ∃ r, CmpR h .isin (.str t) (.tup [.str "", .str "--"]) r ∧ P r := by
  refine ⟨false, ⟨_, rfl, rfl, rfl, ?_⟩, z⟩
  show false = (((("" : Str) == t) || ((("--" : Str) == t) || false)))
  have e1 : (("" : Str) == t) = false := by simpa using Ne.symm h1
  have e2 : (("--" : Str) == t) = false := by simpa using Ne.symm h2
  rw [e1, e2]; rfl
section
variable {k : Nat} {h : MH} {Q : QW} {X : QX}
/-- the inner loop's body, at one text -/
theorem one_ok {D : En} {a0 a1 a2 a3 a4 a5 a6 a8 a9 : Option W} {s : Str} (hl : s.length ≤ 1000) (ha : Asc s)
    (z : ∀ h' b8 b9, H0 h h' → D.nx [a0, a1, a2, a3, a4, a5, a6, some (.str s), b8, b9] h') :
    wpSs (callAt G78 (k + 3)) G78 (.cons (.set 8 (.ife (.cmp .is (.call "_law_data_of" (.cons (.var 7) .nil)) (.lit .non)) (.lit (.int (0))) (.lst (.cons (.call "_law_data_of" (.cons (.var 7) .nil)) .nil)))) (.cons (.set 9 (.call "_law_asked" (.cons (.var 7) .nil))) (.cons (.ifs (.or (.cmp .ne (.var 9) (.var 8)) (.and (.isi (.var 9) .list) (.not (.isi (.idx (.var 9) (.lit (.int (0)))) .tuple)))) (.cons (.ret (.lit (.bl false))) .nil) .nil) .nil)))
      [a0, a1, a2, a3, a4, a5, a6, some (.str s), a8, a9] h D := by
  repeat wp_step
  refine of_ok hl ha fun h1 hh1 => ?_
  repeat wp_step
  cases e : dataOf s.cps.toList with
  | none =>
    have ew : dataW s.cps.toList = .non := by unfold dataW; rw [e]
    rw [ew, if_pos rfl]
    repeat wp_step
    refine asked_ok hl (fun h' n ds e2 => by rw [e] at e2; cases e2) fun h' _ hh => ?_
    repeat wp_step
    rw [if_neg (by decide)]
    repeat wp_step
    refine ⟨false, rfl, ?_⟩
    repeat wp_step
    rw [if_neg (by decide)]
    repeat wp_step
    rw [if_neg (by decide)]
    repeat wp_step
    exact z _ _ _ (hh1.trans hh)
  | some ds =>
    have ew : dataW s.cps.toList = .tup (ds.map W.int) := by unfold dataW; rw [e]
    rw [ew, if_neg Bool.false_ne_true]
    repeat wp_step
    refine of_ok hl ha fun h2 hh2 => ?_
    rw [ew]
    repeat wp_step
    refine ⟨by show 1 ≤ sizeLine; rw [sizeLine_eq]; decide, ?_⟩
    repeat wp_step
    refine asked_ok hl (fun h' n ds' e2 hh h4 h5 e3 => ?_) fun h' e2 => by rw [e] at e2; cases e2
    rw [e] at e2
    cases e2
    repeat wp_step
    refine lt_ne e3 ((hh.same _ (Nat.lt_succ_self _)).trans alloc_new) ?_
    repeat wp_step
    rw [if_neg (by decide)]
    repeat wp_step
    refine ⟨true, by simp only [isTy, e3]; rfl, ?_⟩
    repeat wp_step
    rw [if_pos rfl]
    repeat wp_step
    refine idx_obj e3 (show atI [W.tup (ds.map W.int)] 0 = some _ from rfl) ?_
    refine ⟨true, rfl, ?_⟩
    repeat wp_step
    rw [if_neg (by decide)]
    repeat wp_step
    exact z _ _ _ (((hh1.trans hh2).trans .alloc).trans hh)
theorem pick_sgn {v : W} (hv : v ∈ (("0f9a-gA .x" : Str).cps.toList.map fun c => W.str ⟨#[c]⟩)) : ∃ s : Str, v = .str s ∧ s.length = 1 ∧ Asc s := by
  obtain ⟨c, hc, rfl⟩ := List.mem_map.mp hv
  have hc128 : c < 128 := by
    have : (("0f9a-gA .x" : Str).cps.toList.all (· < 128)) = true := by decide +kernel
    simpa using List.all_eq_true.mp this c hc
  exact ⟨_, rfl, rfl, fun x hx => by
    have hx' : x ∈ [c] := hx
    obtain rfl : x = c := by simpa using hx'
    exact hc128⟩
/-- one turn of the law's loop -/
theorem turn_ok {ns : List Int} {i : Nat} {D : En} {a2 a3 a4 a5 a6 a7 a8 a9 : Option W}
    (z : ∀ h' b1 b2 b3 b4 b5 b6 b7 b8 b9, D.nx [some (.scr (ns.map W.int)), b1, b2, b3, b4, b5, b6, b7, b8, b9] h') :
    wpSs (callAt G78 (k + 4)) G78 (match b_law with | .cons (.fors _ _ b) _ => b | _ => .nil) [some (.scr (ns.map W.int)), some (.int i), a2, a3, a4, a5, a6, a7, a8, a9] h D := by
  show wpSs _ _ (.cons _ _) _ _ _
  repeat wp_step
  refine draw_ok fun p q r hp => ?_
  have d1 : Dr (h.alloc (.lst [.int p, .int q, .int r])) h.n := ⟨Nat.lt_succ_self _, p, q, r, hp, alloc_new⟩
  generalize h.alloc (.lst [.int p, .int q, .int r]) = h1 at d1 ⊢
  repeat wp_step
  refine bytes_d d1 fun ds h2 hl hb d2 _ => ?_
  repeat wp_step
  refine text_ok hb hl fun h3 hh3 => ?_
  have d3 := hh3.dr d2
  obtain ⟨ne1, ne2⟩ := txt_ne hb
  have dt := data_txt hb
  have hlen := txt_len (ds := ds) hl
  have hasc := txt_asc hb
  have hup := fun e => up_txt hb e
  generalize txt ds = t at ne1 ne2 dt hlen hasc hup ⊢
  have hsz : t.length ≤ sizeLine := by rw [sizeLine_eq]; omega
  repeat wp_step
  refine of_ok (by omega) hasc fun h4 hh4 => ?_
  have d4 := hh4.dr d3
  have ew : dataW t.cps.toList = .tup (ds.map W.int) := by unfold dataW; rw [dt]
  rw [ew]
  repeat wp_step
  refine tup_ne ?_
  repeat wp_step
  rw [if_neg Bool.false_ne_true]
  repeat wp_step
  refine ⟨by show 2 ≤ sizeLine; rw [sizeLine_eq]; decide, in_two ne1 ne2 ?_⟩
  repeat wp_step
  rw [if_neg Bool.false_ne_true]
  repeat wp_step
  · refine next_d d4 (by omega) (by omega) fun r1 h5 hr1 hr2 d5 _ => ?_
    repeat wp_step
    refine ⟨by rw [sizeLine_eq]; decide +kernel, ?_⟩
    repeat wp_step
    refine pick_d d5.alloc (Nat.ne_of_gt d5.lt) (Nat.lt_succ_self _) alloc_new (by decide +kernel) (by decide +kernel) fun v h6 hv d6 _ => ?_
    obtain ⟨sg, rfl, hs1, hs2⟩ := pick_sgn hv
    have cl : ∀ lo hi, (cutS t lo hi).length ≤ 80 := fun lo hi => Nat.le_trans cut_len hlen
    have ca : ∀ lo hi, Asc (cutS t lo hi) := fun lo hi => cut_asc hasc
    repeat wp_step
    · refine ⟨by show 4 ≤ sizeLine; rw [sizeLine_eq]; decide, ?_⟩
      refine ⟨_, _, ⟨alloc_new, rfl⟩, ?_⟩
      have hall : ∀ x ∈ [W.str t, .str (cutS t none (some r1) ++ cutS t (some (r1 + 1)) none), .str (cutS t none (some r1) ++ sg ++ cutS t (some r1) none), .str (cutS t none (some r1) ++ sg ++ cutS t (some (r1 + 1)) none)], ∃ s : Str, x = .str s ∧ s.length ≤ 1000 ∧ Asc s := by
        have c1 := cl none (some r1)
        have c2 := cl (some (r1 + 1)) none
        have c3 := cl (some r1) none
        intro x hx
        simp only [List.mem_cons, List.not_mem_nil, or_false] at hx
        rcases hx with rfl | rfl | rfl | rfl
        · exact ⟨_, rfl, by omega, hasc⟩
        · exact ⟨_, rfl, by rw [app_len]; omega, app_asc (ca _ _) (ca _ _)⟩
        · exact ⟨_, rfl, by rw [app_len, app_len]; omega, app_asc (app_asc (ca _ _) hs2) (ca _ _)⟩
        · exact ⟨_, rfl, by rw [app_len, app_len]; omega, app_asc (app_asc (ca _ _) hs2) (ca _ _)⟩
      generalize hL : [W.str t, .str (cutS t none (some r1) ++ cutS t (some (r1 + 1)) none), .str (cutS t none (some r1) ++ sg ++ cutS t (some r1) none), .str (cutS t none (some r1) ++ sg ++ cutS t (some (r1 + 1)) none)] = L at hall ⊢
      refine for_inv (fun xs loc h2 => (h6.n < h2.n ∧ h2.g h6.n = some (.lst L)) ∧ (∀ x ∈ xs, ∃ s : Str, x = .str s ∧ s.length ≤ 1000 ∧ Asc s) ∧ ∃ b7 b8 b9, loc = [some (.scr (ns.map W.int)), some (.int i), some (.obj h.n), some (.tup (ds.map W.int)), some (.str t), some (.int r1), some (.str sg), b7, b8, b9])
        (fun l h D D' d z => ?_) (fun x rr loc h2 iv => ?_) (fun loc h2 iv => ?_) _ _ _ ⟨⟨Nat.lt_succ_self _, alloc_new⟩, hall, a7, a8, a9, rfl⟩
      · exact wpSs_mono (callAt_mono _ _ (Nat.le_refl _)) _ _ _ _ _ d z
      · obtain ⟨⟨l1, l2⟩, hx, b7, b8, b9, rfl⟩ := iv
        obtain ⟨s, rfl, s1, s2⟩ := hx x List.mem_cons_self
        refine ⟨l2, _, rfl, ?_⟩
        exact one_ok (k := k + 1) s1 s2 fun h' b8 b9 hh => ⟨⟨Nat.lt_of_lt_of_le l1 hh.le, (hh.same _ l1).trans l2⟩, fun y hy => hx y (List.mem_cons_of_mem _ hy), _, _, _, rfl⟩
      · obtain ⟨⟨l1, l2⟩, _, b7, b8, b9, rfl⟩ := iv
        refine ⟨l2, ?_⟩
        repeat wp_step
        refine .inr ⟨.str, ⟨trivial, rfl⟩, ?_⟩
        repeat wp_step
        refine ⟨by omega, ?_⟩
        repeat wp_step
        by_cases hu : Txt.upper t = t
        · rw [if_neg (by simp [hu])]
          repeat wp_step
          rw [if_neg (by simp [hu])]
          repeat wp_step
          exact z _ _ _ _ _ _ _ _ _ _
        · rw [if_pos (by simp [hu])]
          repeat wp_step
          refine .inr ⟨.str, ⟨trivial, rfl⟩, ?_⟩
          repeat wp_step
          refine ⟨by omega, ?_⟩
          repeat wp_step
          obtain ⟨u1, u2⟩ := hup hu
          refine asked_ok (k := k + 1) (by omega) (fun h' n ds' e2 => by rw [u1] at e2; cases e2) fun h' _ hh => ?_
          repeat wp_step
          rw [if_neg (by decide)]
          repeat wp_step
          exact z _ _ _ _ _ _ _ _ _ _
    all_goals first | exact hsz | (rw [sizeLine_eq]; have c1 := cl none (some r1); have c2 := cl (some (r1 + 1)) none; have c3 := cl (some r1) none; first | omega | (rw [app_len]; omega))
  · exact hsz
theorem law_all (ns : List Int) (hl : ns.length ≤ 63) : callAt G78 8 Str.empty "law" [.scr (ns.map W.int)] ⟨0, fun _ => none⟩ (fun w _ => w = .bl true) fun _ _ => False := by
  refine call_at (k := 7) _ [some (.scr (ns.map W.int)), none, none, none, none, none, none, none, none, none] fn_law rfl rfl ?_
  unfold b_law
  repeat wp_step
  refine ⟨_, rfl, ?_, ?_, ?_⟩
  · split <;> split <;> omega
  · simp only [List.length_map]
    split <;> split <;> omega
  refine for_inv (fun xs loc h2 => (∀ x ∈ xs, ∃ i : Nat, x = .int i) ∧ ∃ b1 b2 b3 b4 b5 b6 b7 b8 b9, loc = [some (.scr (ns.map W.int)), b1, b2, b3, b4, b5, b6, b7, b8, b9])
    (fun l h D D' d z => ?_) (fun x rr loc h2 iv => ?_) (fun loc h2 iv => ?_) _ _ _ ⟨fun x hx => ?_, none, none, none, none, none, none, none, none, none, rfl⟩
  · exact wpSs_mono (callAt_mono _ _ (Nat.le_refl _)) _ _ _ _ _ d z
  · obtain ⟨hx, b1, b2, b3, b4, b5, b6, b7, b8, b9, rfl⟩ := iv
    obtain ⟨i, rfl⟩ := hx x List.mem_cons_self
    refine ⟨trivial, _, rfl, ?_⟩
    exact turn_ok (k := 3) fun h' c1 c2 c3 c4 c5 c6 c7 c8 c9 => ⟨fun y hy => hx y (List.mem_cons_of_mem _ hy), _, _, _, _, _, _, _, _, _, rfl⟩
  · obtain ⟨_, b1, b2, b3, b4, b5, b6, b7, b8, b9, rfl⟩ := iv
    refine ⟨trivial, ?_⟩
    repeat wp_step
    rfl
  · obtain ⟨i, _, rfl⟩ := List.mem_map.mp hx
    exact ⟨i, rfl⟩
end
end MP
set_option maxHeartbeats 0
namespace MP
open PySem L2 PySem.Spec PyProof.Rows
abbrev RR : PySem.W.OpenRow := PySem.W.OpenLaw.row PySem.Challenge.rw_surewire_k78_data_texts
def looseN : List Str := (["WireError", "NoText", "SIGNS", "data_text", "data_by", "read_data", "_law_mixed", "_law_draw", "_law_next", "_law_pick", "_law_bytes", "_law_data_of", "_law_asked"] : List Str)
def obH (s : PySem.W.SharedT) : Al := lookG 6 tb (HandSHeadRun.getT s)
theorem obH_eq (s : PySem.W.SharedT) : obH s = (hookM 6 tb).obs s.abs := lookG_eq (HandSHeadRun.getT_eq s)
theorem runH (w : World) : HandSHeadRun.RunEq RR (PySem.W.view RR.prog [17]) (hookM 6 tb) obH 12000 looseN w := by
  intro os
  kernel_rfl
theorem nameH : (HandSHeadRun.topDef RR.prog 17).name = ("law" : Str) := by kernel_rfl
end MP
open PySem PySem.W PySem.Calls PyProof.Rows
theorem PySem.Challenge.cw_surewire_k78_data_texts_holds : PySem.Challenge.rw_surewire_k78_data_texts.Holds := by
  w_on; o_law
  refine HandSHeadRun.head_any (r := OpenLaw.row PySem.Challenge.rw_surewire_k78_data_texts) (q := view (OpenLaw.row PySem.Challenge.rw_surewire_k78_data_texts).prog [17]) (H := MP.hookM 6 MP.tb) (ob := MP.obH) (M := 12000) (loose := MP.looseN) (d := HandSHeadRun.topDef (OpenLaw.row PySem.Challenge.rw_surewire_k78_data_texts).prog 17) (kwd := []) MP.obH_eq
    (by kernel_rfl) (fun s => by kernel_rfl) MP.runH (by kernel_rfl) (by kernel_rfl) (by kernel_rfl) (by rfl) (by first | assumption | decide +kernel) (by decide +kernel) ⟨rfl, rfl, rfl, rfl, rfl, by decide +kernel⟩ ?hw ?hc
  case hw => w_witness2
  case hc =>
    exact MP.walk_mp (l := PySem.Challenge.rw_surewire_k78_data_texts) (n := 63) (k := 8) (t := MP.tb) rfl (by decide) (by kernel_rfl) ⟨rfl, by decide, by decide⟩ (by rw [MP.nameH]; exact MP.fn_law) rfl rfl (fun ns hl hb => by rw [MP.nameH]; exact MP.law_all ns hl)
