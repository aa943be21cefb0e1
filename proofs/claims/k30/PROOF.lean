import PyProof.Rows.All
import Wide.All
import OpenK.AllK
import Wide.FinOn
import HandS.ForMost
import HandS.Text
import HandS.ForExc
import HandS.TupAny
import HandS.TupMul
import HandS.Zip
import HandS.FStr
import HandS.Wide
import HandS.Flow
import HandS.IsInst
import HandS.NoneIn
import HandS.Codes
import HandS.ExcOwn
import HandS.Iter
import KE.GoesEnum
import HandS.Comp
import PyProof.Rows.SetFrom
import HandS.Strs
import HandS.Exc
import HandS.HeadHook4
import HandS.HeadEnd
import HandS.Head2
import PySem.Challenge.RW_justfreed_k30_whole_texts_written
set_option autoImplicit false
set_option linter.all false
/-! JA: the small language: values, cells, trees of expressions and statements, and what they do. -/
namespace J
open PySem

inductive PV where
  | non | bl (b : Bool) | int (i : Int) | str (x : Str) | tup (xs : List PV) | lst (xs : List PV) | loc (n : Nat) | dct (ks : List L2.Key) (vs : List PV) | scr (xs : List PV)
inductive Cell where
  | dead | lst (xs : List PV) | dct (ks : List L2.Key) (vs : List PV)
abbrev Hh := List Cell
abbrev En := List (Option PV)
inductive Out (α : Type) where
  | ok (a : α) (h : Hh) | exc (c : Nat) (v : PV) (h : Hh) | bad
abbrev M (α : Type) := Hh → Out α
def M.pure {α : Type} (a : α) : M α := fun h => .ok a h
def M.bind {α β : Type} (m : M α) (k : α → M β) : M β := fun h =>
  match m h with
  | .ok a h' => k a h'
  | .exc c v h' => .exc c v h'
  | .bad => .bad
instance : Monad M where
  pure := M.pure
  bind := M.bind
def bad {α : Type} : M α := fun _ => .bad
/-- of an answer that may be lacking -/
def opt {α : Type} : Option α → M α
  | some a => pure a
  | none => bad
/-- an answer read off the cells -/
def rd {α : Type} (f : Hh → Option α) : M α := fun h => opt (f h) h
def chkB (b : Bool) : M Unit := if b then pure () else bad

inductive Op2 where | add | sub | mul | fdiv | mod | pow deriving DecidableEq
inductive Cmp where | eq | ne | lt | le | gt | ge | isin | notin deriving DecidableEq
inductive Ty where | int | bool | str | tup | lst deriving DecidableEq
inductive Bi where | len | all | any | int | abs | str | max1 | list | tuple | lenset deriving DecidableEq
inductive Me where | append | extend | join | pop deriving DecidableEq
inductive Tg where | name (i : Nat) | nil | cons (t : Tg) (ts : Tg)

mutual
inductive E where
  | var (i : Nat) | glob (n : Str) (v : PV) | int (i : Int) | str (x : Str) | bl (b : Bool) | non
  | bin (op : Op2) (m : Bool) (a b : E) | neg (a : E)
  | notv (a : E) | andv (es : Es) | orv (es : Es)
  | cmp (op : Cmp) (a b : E) | chain (op1 op2 : Cmp) (a b c : E) | isN (a : E) | notN (a : E)
  | ite (c : C) (a b : E)
  | tup (es : Es) | list (m : Bool) (es : Es)
  | idx (a i : E) | slice (m : Bool) (a : E) (lo hi : Oe)
  | call (f : Nat) (es : Es) | callK (f : Nat) (ord : List Nat) (es : Es)
  | bi (b : Bi) (m : Bool) (es : Es) | inst (a : E) (t : Ty)
  | me (k : Me) (o : E) (es : Es)
  | comp (m : Bool) (own : List Nat) (elt : E) (gs : Gs)
  | fstr (es : Es) | fmt (e : E)
inductive Es where | nil | cons (e : E) (es : Es)
inductive Oe where | none | some (e : E)
inductive C where | val (e : E) | and (cs : Cs) | or (cs : Cs) | not (a : C)
inductive It where | val (e : E) | range1 (a : E) | range2 (a b : E) | enum (a : E) | zip (a b : E)
inductive Gs where | last (t : Tg) (i : It) (cs : Cs) | cons (t : Tg) (i : It) (cs : Cs) (g : Gs)
inductive Cs where | nil | cons (c : C) (cs : Cs)
end
mutual
inductive S where
  | expr (e : E) | set (i : Nat) (e : E) | asg (t : Tg) (e : E) | seti (o i e : E) | aug (i : Nat) (op : Op2) (e : E) | augi (o i : E) (op : Op2) (e : E)
  | ite (c : C) (a b : Ss) | wh (c : C) (b : Ss) | for (t : Tg) (i : It) (b : Ss)
  | ret (e : E) | retN | brk | cont | pass | raise (c : Nat) (es : Es) | never | frz (i : Nat)
inductive Ss where | nil | cons (s : S) (ss : Ss)
end

/-! ### values -/
def sizeL : Nat := 16777216
/-- a list, by value or by place -/
def getL (h : Hh) : PV → Option (List PV)
  | .lst xs => some xs
  | .loc n => match h[n]? with | some (.lst xs) => some xs | _ => none
  | _ => none
/-- a list or a tuple -/
def getS (h : Hh) : PV → Option (List PV)
  | .tup xs => some xs
  | .scr xs => some xs
  | v => getL h v
/-- a new list -/
def mkL (m : Bool) (xs : List PV) : M PV := fun h =>
  if xs.length ≤ sizeL then (if m then .ok (.loc h.length) (h ++ [.lst xs]) else .ok (.lst xs) h) else .bad
/-- a new tuple -/
def mkT (xs : List PV) : M PV := if xs.length ≤ sizeL then pure (.tup xs) else bad
mutual
def dOf : PV → Option PyData
  | .non => some .none
  | .bl b => some (.bool b)
  | .int i => some (.int i)
  | .str x => some (.str x)
  | .tup xs => (dsOf xs).map .tuple
  | .lst xs => (dsOf xs).map .list
  | _ => none
termination_by structural x => x
def dsOf : List PV → Option (List PyData)
  | [] => some []
  | x :: xs => (dOf x).bind fun d => (dsOf xs).map (d :: ·)
termination_by structural x => x
end
def dTop (h : Hh) (v : PV) : Option PyData := match v with
  | .loc _ => (getL h v).bind fun xs => (dsOf xs).map .list
  | v => dOf v
def evEq (h : Hh) (a b : PV) : Option Bool := match a, b with
  | .int i, .int j => some (decide (i = j))
  | .str x, .str y => some (decide (x = y))
  | .bl x, .bl y => some (decide (x = y))
  | a, b => match dTop h a, dTop h b with
    | some d, some e => if SeqAt.shaped d && SeqAt.shaped e then some (PyData.eqv d e) else none
    | _, _ => none
def flatP : PV → Bool
  | .non => true | .bl _ => true | .int _ => true | .str _ => true | _ => false
def eqP : PV → PV → Bool
  | .non, .non => true
  | .bl a, .bl b => a == b
  | .bl a, .int b => (if a then 1 else 0) == b
  | .int a, .bl b => a == (if b then 1 else 0)
  | .int a, .int b => a == b
  | .str a, .str b => a == b
  | _, _ => false
def evIn (h : Hh) (a b : PV) : Option Bool := match a, b with
  | .str x, .str z => match x.cps.toList with
    | [c] => some (decide (c ∈ z.cps.toList))
    | _ => none
  | a, b => match getS h b with
    | some xs => if flatP a && xs.all flatP then some (xs.any fun y => eqP y a) else none
    | none => none
def truth (h : Hh) : PV → Option Bool
  | .non => some false
  | .bl b => some b
  | .int i => some (i != 0)
  | .str x => if x.length ≤ sizeL then some (x.length != 0) else none
  | v => (getS h v).map fun xs => !xs.isEmpty
def evCmp (op : Cmp) (a b : PV) (h : Hh) : Option Bool := match op with
  | .eq => evEq h a b
  | .ne => (evEq h a b).map (!·)
  | .lt => match a, b with | .int i, .int j => some (decide (i < j)) | _, _ => none
  | .le => match a, b with | .int i, .int j => some (decide (i ≤ j)) | _, _ => none
  | .gt => match a, b with | .int i, .int j => some (decide (j < i)) | _, _ => none
  | .ge => match a, b with | .int i, .int j => some (decide (j ≤ i)) | _, _ => none
  | .isin => evIn h a b
  | .notin => (evIn h a b).map (!·)
def mulOk (i j : Int) : Bool := (decide (i.natAbs < 2 ^ 64) || decide (j.natAbs < 2 ^ 64)) || (decide (i.natAbs < 2 ^ 200) && decide (j.natAbs < 2 ^ 200))
def evBin (op : Op2) (m : Bool) (a b : PV) : M PV := match op with
  | .add => match a, b with
    | .int i, .int j => pure (.int (i + j))
    | .str x, .str y => if x.length + y.length ≤ sizeL then pure (.str (x ++ y)) else bad
    | .tup xs, .tup ys => mkT (xs ++ ys)
    | a, b => do
      let xs ← rd (getL · a)
      let ys ← rd (getL · b)
      mkL m (xs ++ ys)
  | .sub => match a, b with | .int i, .int j => pure (.int (i - j)) | _, _ => bad
  | .mul => match a, b with
    | .int i, .int j => if mulOk i j then pure (.int (i * j)) else bad
    | .tup xs, .int k => if xs ≠ [] ∧ 2 ≤ k ∧ k ≤ 1000 ∧ xs.length ≤ 1000 then pure (.tup (List.replicate k.toNat xs).flatten) else bad
    | a, .int k => do
      let xs ← rd (getL · a)
      if k < 2 ^ 62 ∧ -(2 ^ 62) < k ∧ xs.length * k.toNat ≤ sizeL then mkL m (List.replicate k.toNat xs).flatten else bad
    | _, _ => bad
  | .fdiv => match a, b with | .int i, .int j => if 0 < j ∧ j < 2 ^ 200 then pure (.int (i / j)) else bad | _, _ => bad
  | .mod => match a, b with | .int i, .int j => if 0 < j then pure (.int (i % j)) else bad | _, _ => bad
  | .pow => match a, b with | .int i, .int j => if 0 ≤ j ∧ j ≤ 1000000 ∧ i.natAbs < 2 ^ 64 then pure (.int (i ^ j.toNat)) else bad | _, _ => bad
def evIdx (h : Hh) (a i : PV) : Option PV := match i with
  | .int k => match a with
    | .str z => if z.length ≤ sizeL then (L2.atI z.cps.toList k).map fun c => .str ⟨#[c]⟩ else none
    | a => (getS h a).bind fun xs => L2.atI xs k
  | _ => none
def cut {α : Type} (xs : List α) (lo hi : Option Int) : List α := (xs.drop (HT.sIx xs.length 0 lo)).take (HT.sIx xs.length xs.length hi - HT.sIx xs.length 0 lo)
def evSlice (m : Bool) (a : PV) (lo hi : Option Int) : M PV := match a with
  | .scr _ => bad
  | .str z => if z.length ≤ sizeL then pure (.str ⟨(cut z.cps.toList lo hi).toArray⟩) else bad
  | .tup xs => pure (.tup (cut xs lo hi))
  | a => do
    let xs ← rd (getL · a)
    mkL m (cut xs lo hi)
def evInst (h : Hh) (a : PV) (t : Ty) : Option Bool := match a with
  | .non => some false
  | .bl _ => some (t == .int || t == .bool)
  | .int _ => some (t == .int)
  | .str _ => some (t == .str)
  | .tup _ => some (t == .tup)
  | .dct _ _ => some false
  | .scr _ => none
  | a => (getL h a).map fun _ => t == .lst
def intsOf : List PV → Option (List Int)
  | [] => some []
  | .int i :: xs => (intsOf xs).map (i :: ·)
  | _ => none
def blsOf : List PV → Option (List Bool)
  | [] => some []
  | .bl b :: xs => (blsOf xs).map (b :: ·)
  | _ => none
def strsOf : List PV → Option (List Str)
  | [] => some []
  | .str x :: xs => (strsOf xs).map (x :: ·)
  | _ => none
def maxI : List Int → Option Int
  | [] => none
  | x :: xs => some (xs.foldl max x)
/-- the different ones, in the order of their first place -/
def dedup {α : Type} [DecidableEq α] (xs : List α) : List α := xs.foldl (fun acc x => if x ∈ acc then acc else acc ++ [x]) []
def evBi (b : Bi) (m : Bool) (vs : List PV) : M PV := match vs with
  | [a] => match b with
    | .len => match a with
      | .str z => if z.length ≤ sizeL then pure (.int z.length) else bad
      | a => do
        let xs ← rd (getS · a)
        pure (.int xs.length)
    | .all => do
      let xs ← rd (getL · a)
      let bs ← opt (blsOf xs)
      pure (.bl (bs.all id))
    | .any => do
      let xs ← rd (getL · a)
      let bs ← opt (blsOf xs)
      pure (.bl (bs.any id))
    | .int => match a with | .int i => pure (.int i) | .bl k => pure (.int (if k then 1 else 0)) | _ => bad
    | .abs => match a with | .int i => pure (.int (if i < 0 then -i else i)) | _ => bad
    | .str => match a with | .int i => if i.natAbs.log2 < 1920 then pure (.str (toString i)) else bad | _ => bad
    | .max1 => do
      let xs ← rd (getL · a)
      let ns ← opt (intsOf xs)
      let k ← opt (maxI ns)
      pure (.int k)
    | .list => do
      let xs ← rd (getS · a)
      mkL m xs
    | .tuple => do
      let xs ← rd (getS · a)
      mkT xs
    | .lenset => do
      let xs ← rd (getL · a)
      let zs ← opt (strsOf xs)
      if zs.length ≤ 4000 then pure (.int (dedup zs).length) else bad
  | _ => bad
def setL (h : Hh) (n : Nat) (xs : List PV) : Hh := h.set n (.lst xs)
/-- the list at a place is written anew -/
def wrL (a : PV) (f : List PV → Option (PV × List PV)) : M PV := fun h => match a with
  | .loc n => match getL h a with
    | some xs => match f xs with
      | some (v, ys) => if ys.length ≤ sizeL then .ok v (setL h n ys) else .bad
      | none => .bad
    | none => .bad
  | _ => .bad
/-- the receiver is of the method's kind -/
def recvB (k : Me) (x : PV) (h : Hh) : Option Unit := match k with
  | .join => match x with | .str _ => some () | _ => none
  | _ => (getL h x).map fun _ => ()
def evMe (k : Me) (o : PV) (vs : List PV) : M PV := match k, vs with
  | .append, [v] => wrL o fun xs => some (.non, xs ++ [v])
  | .extend, [v] => do
    let ys ← rd (getL · v)
    wrL o fun xs => some (.non, xs ++ ys)
  | .pop, [] => wrL o fun xs => match xs.reverse with | [] => none | y :: r => some (y, r.reverse)
  | .join, [v] => match o with
    | .str a => do
      let xs ← rd (getS · v)
      let ys ← opt (strsOf xs)
      if (ys.map (·.length)).sum + ys.length * a.length ≤ sizeL then pure (.str (Txt.join a ys)) else bad
    | _ => bad
  | _, _ => bad

/-! ### what is walked -/
inductive Src where | seq (v : PV) | enum (v : PV) | zip (v w : PV) | range (lo : Int) (n : Nat)
/-- the item of a turn: none where it cannot be told, some none at the end -/
def item (h : Hh) : Src → Nat → Option (Option PV)
  | .seq v, i => match v with
    | .str z => if z.length ≤ sizeL then some ((z.cps.toList[i]?).map fun c => .str ⟨#[c]⟩) else none
    | v => (getS h v).map fun xs => xs[i]?
  | .enum v, i => (getS h v).map fun xs => (xs[i]?).map fun x => .tup [.int i, x]
  | .zip v w, i => (getS h v).bind fun xs => (getS h w).map fun ys => (xs[i]?).bind fun x => (ys[i]?).map fun y => .tup [x, y]
  | .range lo n, i => if i < n then some (some (.int (lo + i))) else some none
/-- two lists, or two tuples -/
def zipOk (x y : PV) (h : Hh) : Option Unit := match x, y with
  | .tup _, .tup _ => some ()
  | x, y => (getL h x).bind fun _ => (getL h y).map fun _ => ()
def turns (h : Hh) : Src → Nat
  | .seq v => match v with
    | .str z => z.length + 1
    | v => ((getS h v).getD []).length + 1
  | .enum v => ((getS h v).getD []).length + 1
  | .zip v _ => ((getS h v).getD []).length + 1
  | .range _ n => n + 1
inductive Fl where | next | brk | cont | ret (v : PV) | exc (c : Nat) (v : PV)
/-- the turns of a for -/
def forGo (src : Src) (body : PV → En → M (Fl × En)) : Nat → Nat → En → M (Fl × En)
  | 0, _, _ => bad
  | n + 1, i, env => fun h => match item h src i with
    | none => .bad
    | some none => .ok (.next, env) h
    | some (some x) => match body x env h with
      | .ok (.next, env') h' => forGo src body n (i + 1) env' h'
      | .ok (.cont, env') h' => forGo src body n (i + 1) env' h'
      | .ok (.brk, env') h' => .ok (.next, env') h'
      | .ok (.ret v, env') h' => .ok (.ret v, env') h'
      | .ok (.exc c v, env') h' => .ok (.exc c v, env') h'
      | .exc c v h' => .exc c v h'
      | .bad => .bad
/-- the turns of a comprehension's clause -/
def compGo (src : Src) (body : PV → M (List PV)) : Nat → Nat → M (List PV)
  | 0, _ => bad
  | n + 1, i => fun h => match item h src i with
    | none => .bad
    | some none => .ok [] h
    | some (some x) => (body x >>= fun ys => compGo src body n (i + 1) >>= fun zs => pure (ys ++ zs)) h
/-- an expression in a statement: what it raises is a way out of the statement -/
def tryE {α : Type} (m : M α) (env : En) (k : α → M (Fl × En)) : M (Fl × En) := fun h =>
  match m h with
  | .ok a h' => k a h'
  | .exc c v h' => .ok (.exc c v, env) h'
  | .bad => .bad
def nox {α : Type} (m : M α) : M α := fun h =>
  match m h with
  | .ok a h' => .ok a h'
  | _ => .bad
def whGo (test : En → M Bool) (body : En → M (Fl × En)) : Nat → En → M (Fl × En)
  | 0, _ => bad
  | n + 1, env => tryE (test env) env fun b =>
    if b then do
      let r ← body env
      match r with
      | (.next, env') => whGo test body n env'
      | (.cont, env') => whGo test body n env'
      | (.brk, env') => pure (.next, env')
      | (.ret v, env') => pure (.ret v, env')
      | (.exc c v, env') => pure (.exc c v, env')
    else pure (.next, env)

mutual
def asgn : Tg → PV → En → Option En
  | .name i, v, env => if i < env.length then some (env.set i (some v)) else none
  | .nil, _, _ => none
  | .cons t ts, v, env => match v with
    | .tup xs => asgns (.cons t ts) xs env
    | .lst xs => asgns (.cons t ts) xs env
    | _ => none
def asgns : Tg → List PV → En → Option En
  | .nil, [], env => some env
  | .cons t ts, x :: xs, env => (asgn t x env).bind fun env' => asgns ts xs env'
  | _, _, _ => none
end
def wipe (env : En) : List Nat → En
  | [] => env
  | v :: vs => (wipe env vs).set v none

structure Ctx where
  call : Nat → List PV → M PV
  fuel : Nat

mutual
def evE (c : Ctx) : E → En → M PV
  | .var i, env => match env[i]? with | some (some v) => pure v | _ => bad
  | .glob _ v, _ => pure v
  | .int i, _ => pure (.int i)
  | .str x, _ => pure (.str x)
  | .bl b, _ => pure (.bl b)
  | .non, _ => pure .non
  | .bin op m a b, env => do
    let x ← evE c a env
    let y ← evE c b env
    evBin op m x y
  | .neg a, env => do
    let x ← evE c a env
    match x with | .int i => pure (.int (-i)) | _ => bad
  | .notv a, env => do
    let x ← evE c a env
    let b ← rd (truth · x)
    pure (.bl (!b))
  | .andv es, env => evAnd c es env
  | .orv es, env => evOr c es env
  | .cmp op a b, env => do
    let x ← evE c a env
    let y ← evE c b env
    let r ← rd (evCmp op x y)
    pure (.bl r)
  | .chain o1 o2 a b d, env => do
    let x ← evE c a env
    let y ← evE c b env
    let r ← rd (evCmp o1 x y)
    if r then do
      let z ← evE c d env
      let q ← rd (evCmp o2 y z)
      pure (.bl q)
    else pure (.bl false)
  | .isN a, env => do
    let x ← evE c a env
    pure (.bl (match x with | .non => true | _ => false))
  | .notN a, env => do
    let x ← evE c a env
    pure (.bl (match x with | .non => false | _ => true))
  | .ite t a b, env => do
    let r ← evC c t env
    if r then evE c a env else evE c b env
  | .tup es, env => do
    let xs ← evEs c es env
    mkT xs
  | .list m es, env => do
    let xs ← evEs c es env
    mkL m xs
  | .idx a i, env => do
    let x ← evE c a env
    let k ← evE c i env
    rd (evIdx · x k)
  | .slice m a lo hi, env => do
    let x ← evE c a env
    let l ← evO c lo env
    let u ← evO c hi env
    evSlice m x l u
  | .call f es, env => do
    let xs ← evEs c es env
    c.call f xs
  | .callK f ord es, env => do
    let xs ← evEs c es env
    let ys ← opt (if xs.length = ord.length then ord.mapM fun i => xs[i]? else none)
    c.call f ys
  | .bi b m es, env => do
    let xs ← evEs c es env
    evBi b m xs
  | .inst a t, env => do
    let x ← evE c a env
    let r ← rd (evInst · x t)
    pure (.bl r)
  | .me k o es, env => do
    let x ← evE c o env
    let _ ← rd (recvB k x)
    let xs ← evEs c es env
    evMe k x xs
  | .comp m own elt gs, env => do
    let xs ← nox (evG c (fun env' => evE c elt env') gs (wipe env own))
    mkL m xs
  | .fstr es, env => do
    let z ← evJs c es env Str.empty
    pure (.str z)
  | .fmt e, env => do
    let x ← evE c e env
    match x with
    | .str y => if y.length ≤ sizeL then pure (.str y) else bad
    | .int i => if i.natAbs.log2 < 1920 then pure (.str (toString i)) else bad
    | _ => bad
termination_by structural x => x
def evEs (c : Ctx) : Es → En → M (List PV)
  | .nil, _ => pure []
  | .cons e es, env => do
    let x ← evE c e env
    let xs ← evEs c es env
    pure (x :: xs)
termination_by structural x => x
def evJs (c : Ctx) : Es → En → Str → M Str
  | .nil, _, acc => pure acc
  | .cons e es, env, acc => do
    let x ← evE c e env
    match x with
    | .str y => if acc.length + y.length ≤ sizeL then evJs c es env (acc ++ y) else bad
    | _ => bad
termination_by structural x => x
def evO (c : Ctx) : Oe → En → M (Option Int)
  | .none, _ => pure none
  | .some e, env => do
    let x ← evE c e env
    match x with | .int i => pure (some i) | _ => bad
termination_by structural x => x
def evC (c : Ctx) : C → En → M Bool
  | .val e, env => do
    let x ← evE c e env
    rd (truth · x)
  | .and cs, env => evCA c cs env
  | .or cs, env => evCO c cs env
  | .not a, env => do
    let r ← evC c a env
    pure (!r)
termination_by structural x => x
def evI (c : Ctx) : It → En → M Src
  | .val e, env => do
    let x ← evE c e env
    let _ ← rd (item · (.seq x) 0)
    pure (.seq x)
  | .range1 a, env => do
    let x ← evE c a env
    match x with | .int j => if -(2 ^ 62) ≤ j ∧ j < 2 ^ 62 then pure (.range 0 j.toNat) else bad | _ => bad
  | .range2 a b, env => do
    let x ← evE c a env
    let y ← evE c b env
    match x, y with | .int i, .int j => if -(2 ^ 62) ≤ i ∧ i < 2 ^ 62 ∧ -(2 ^ 62) ≤ j ∧ j < 2 ^ 62 then pure (.range i (j - i).toNat) else bad | _, _ => bad
  | .enum a, env => do
    let x ← evE c a env
    let _ ← rd (item · (.enum x) 0)
    pure (.enum x)
  | .zip a b, env => do
    let x ← evE c a env
    let y ← evE c b env
    let _ ← rd (zipOk x y)
    pure (.zip x y)
termination_by structural x => x
def evG (c : Ctx) (elt : En → M PV) : Gs → En → M (List PV)
  | .last t i cs, env => do
    let src ← evI c i env
    fun h => compGo src (fun x => do
      let env' ← opt (asgn t x env)
      let b ← evCA c cs env'
      if b then do
        let y ← elt env'
        pure [y]
      else pure []) (turns h src) 0 h
  | .cons t i cs g, env => do
    let src ← evI c i env
    fun h => compGo src (fun x => do
      let env' ← opt (asgn t x env)
      let b ← evCA c cs env'
      if b then evG c elt g env' else pure []) (turns h src) 0 h
termination_by structural x => x
def evCA (c : Ctx) : Cs → En → M Bool
  | .nil, _ => pure true
  | .cons t ts, env => do
    let r ← evC c t env
    if r then evCA c ts env else pure false
termination_by structural x => x
def evCO (c : Ctx) : Cs → En → M Bool
  | .nil, _ => pure false
  | .cons t ts, env => do
    let r ← evC c t env
    if r then pure true else evCO c ts env
termination_by structural x => x
def evAnd (c : Ctx) : Es → En → M PV
  | .nil, _ => bad
  | .cons e es, env => do
    let x ← evE c e env
    match es with
    | .nil => pure x
    | es => match x with
      | .bl true => evAnd c es env
      | .bl false => pure (.bl false)
      | _ => bad
termination_by structural x => x
def evOr (c : Ctx) : Es → En → M PV
  | .nil, _ => bad
  | .cons e es, env => do
    let x ← evE c e env
    match es with
    | .nil => pure x
    | es => match x with
      | .bl false => evOr c es env
      | .bl true => pure (.bl true)
      | _ => bad
termination_by structural x => x
end
def evF (c : Ctx) (f : Nat) (xs : List PV) : M PV := c.call f xs

mutual
def evS (c : Ctx) : S → En → M (Fl × En)
  | .expr e, env => tryE (evE c e env) env fun _ => pure (.next, env)
  | .set i e, env => tryE (evE c e env) env fun x => if i < env.length then pure (.next, env.set i (some x)) else bad
  | .asg t e, env => tryE (evE c e env) env fun x => opt (asgn t x env) >>= fun env' => pure (.next, env')
  | .seti o i e, env => tryE (do
      let v ← evE c e env
      let x ← evE c o env
      let k ← evE c i env
      match k with
      | .int k => wrL x fun xs => (L2.ixN xs.length k).map fun j => (.non, xs.set j v)
      | _ => bad) env fun _ => pure (.next, env)
  | .aug i op e, env => tryE (do
      let x ← (match env[i]? with | some (some v) => pure v | _ => bad)
      let y ← evE c e env
      match x, y, op with
      | .int a, .int b, .add => pure (PV.int (a + b))
      | .int a, .int b, .sub => pure (PV.int (a - b))
      | _, _, _ => bad) env fun z => pure (.next, env.set i (some z))
  | .augi o i op e, env => tryE (do
      let x ← evE c o env
      let k ← evE c i env
      let old ← rd (fun h => match k with | .int j => if 0 ≤ j then (getL h x).bind fun xs => L2.atI xs j else none | _ => none)
      let y ← evE c e env
      let z ← (match old, y, op with
        | .int a, .int b, .add => pure (PV.int (a + b))
        | .int a, .int b, .sub => pure (PV.int (a - b))
        | _, _, _ => bad)
      match k with
      | .int k => wrL x fun xs => (L2.ixN xs.length k).map fun j => (.non, xs.set j z)
      | _ => bad) env fun _ => pure (.next, env)
  | .ite t a b, env => tryE (evC c t env) env fun r => if r then evSs c a env else evSs c b env
  | .wh t b, env => whGo (fun env => evC c t env) (fun env => evSs c b env) c.fuel env
  | .for t i b, env => tryE (evI c i env) env fun src => fun h => forGo src (fun x env => opt (asgn t x env) >>= fun env' => evSs c b env') (turns h src) 0 env h
  | .ret e, env => tryE (evE c e env) env fun x => pure (.ret x, env)
  | .retN, env => pure (.ret .non, env)
  | .brk, env => pure (.brk, env)
  | .cont, env => pure (.cont, env)
  | .pass, env => pure (.next, env)
  | .raise k es, env => tryE (evEs c es env) env fun xs => match xs with | [v] => pure (.exc k v, env) | _ => bad
  | .never, _ => bad
  | .frz i, env => fun h => match env[i]? with
    | some (some (.loc n)) => match h[n]? with
      | some (.lst xs) => .ok (.next, env.set i (some (.lst xs))) (h.set n .dead)
      | some (.dct ks vs) => .ok (.next, env.set i (some (.dct ks vs))) (h.set n .dead)
      | _ => .bad
    | _ => .bad
termination_by structural x => x
def evSs (c : Ctx) : Ss → En → M (Fl × En)
  | .nil, env => pure (.next, env)
  | .cons s ss, env => do
    let r ← evS c s env
    match r with
    | (.next, env') => evSs c ss env'
    | r => pure r
termination_by structural x => x
end

/-! ### defs -/
mutual
/-- all places lie below n -/
def clo (n : Nat) : PV → Bool
  | .tup xs => clos n xs
  | .lst xs => clos n xs
  | .scr xs => clos n xs
  | .dct _ xs => clos n xs
  | .loc m => decide (m < n)
  | _ => true
termination_by structural x => x
def clos (n : Nat) : List PV → Bool
  | [] => true
  | x :: xs => clo n x && clos n xs
termination_by structural x => x
end
mutual
def beqP : PV → PV → Bool
  | .non, .non => true
  | .bl a, .bl b => a == b
  | .int a, .int b => decide (a = b)
  | .str a, .str b => decide (a = b)
  | .tup xs, .tup ys => beqPs xs ys
  | .lst xs, .lst ys => beqPs xs ys
  | .scr xs, .scr ys => beqPs xs ys
  | .loc a, .loc b => decide (a = b)
  | .dct ks xs, .dct ls ys => decide (ks = ls) && beqPs xs ys
  | _, _ => false
termination_by structural x => x
def beqPs : List PV → List PV → Bool
  | [], [] => true
  | x :: xs, y :: ys => beqP x y && beqPs xs ys
  | _, _ => false
termination_by structural x => x
end
def cloC (n : Nat) : Cell → Bool
  | .dead => true
  | .lst xs => clos n xs
  | .dct _ xs => clos n xs
def beqC : Cell → Cell → Bool
  | .dead, .dead => true
  | .lst xs, .lst ys => beqPs xs ys
  | .dct ks xs, .dct ls ys => decide (ks = ls) && beqPs xs ys
  | _, _ => false
def oldOk (n : Nat) : Hh → Hh → Bool
  | [], _ => true
  | c :: h, c' :: h' => (beqC c c' || cloC n c') && oldOk n h h'
  | _ :: _, [] => false
/-- behind a call: the cells that it laid are forgotten where nothing leads to them -/
def tidy (h : Hh) (m : M PV) : M PV := fun h₀ => match m h₀ with
  | .ok v h' => if clo h.length v && oldOk h.length h h' then .ok v (h'.take h.length) else .ok v h'
  | r => r
structure Fd where
  name : Str
  ps : Nat
  slots : Nat
  body : Ss
def evDef (c : Ctx) (d : Fd) (xs : List PV) : M PV := fun h =>
  if xs.length = d.ps then tidy h (do
    let r ← evSs c d.body (xs.map some ++ List.replicate (d.slots - xs.length) none)
    match r with
    | (.next, _) => pure .non
    | (.ret v, _) => pure v
    | (.exc c v, _) => fun h => .exc c v h
    | _ => bad) h
  else .bad
def callAt (T : Nat → Option Fd) (fuel : Nat) : Nat → Nat → List PV → M PV
  | 0, _, _ => bad
  | k + 1, f, xs => match T f with
    | some d => evDef ⟨callAt T fuel k, fuel⟩ d xs
    | none => bad
end J

set_option autoImplicit false
set_option linter.all false
set_option maxRecDepth 100000
/-! JB1: which values of the machine are which values of the small language. -/
namespace J
open PySem PySem.Spec PyProof.Rows L2

structure Wd where
  f : List Addr
  F : Addr → Prop
  G : Addr → Prop
/-- the script -/
def ScL (K : PySem.W.Frag) (H : Hp) (a : Addr) (vs : List V) : Prop := (∃ o, H a = some (.frz o (.lst vs))) ∨ SqL K (fun _ => none) a vs
theorem ScL.sq {K : PySem.W.Frag} {H : Hp} {a : Addr} {vs : List V} (h : ScL K H a vs) : SqL K H a vs := by
  rcases h with ⟨o, h⟩ | h
  · exact .inl (.inr ⟨o, h⟩)
  · rcases h with (h | ⟨o, h⟩) | h
    · cases h
    · cases h
    · exact .inr h

mutual
def Rl (K : PySem.W.Frag) (w : Wd) (H : Hp) : PV → V → Prop
  | .non, v => v = .non
  | .bl b, v => v = .bl b
  | .int i, v => v = .int i
  | .str x, v => v = .str x
  | .tup xs, v => ∃ a vs, v = .ref a ∧ SqT K H a vs ∧ Rls K w H xs vs
  | .lst xs, v => ∃ a vs, v = .ref a ∧ w.F a ∧ H a = some (.lst vs) ∧ Rls K w H xs vs
  | .scr xs, v => ∃ a vs, v = .ref a ∧ ScL K H a vs ∧ Rls K w H xs vs
  | .loc n, v => ∃ a, v = .ref a ∧ w.f[n]? = some a
  | .dct ks xs, v => ∃ a kvs, v = .ref a ∧ w.F a ∧ H a = some (.dK kvs) ∧ kvs.map (·.1) = ks ∧ Rls K w H xs (kvs.map (·.2))
termination_by structural x => x
def Rls (K : PySem.W.Frag) (w : Wd) (H : Hp) : List PV → List V → Prop
  | [], vs => vs = []
  | x :: xs, vs => ∃ v r, vs = v :: r ∧ Rl K w H x v ∧ Rls K w H xs r
termination_by structural x => x
end

section
variable {K : PySem.W.Frag} {w w' : Wd} {H H' : Hp}
theorem Rls.len : ∀ {xs : List PV} {vs : List V}, Rls K w H xs vs → xs.length = vs.length
  | [], _, h => by cases h; rfl
  | x :: xs, _, h => by obtain ⟨v, r, rfl, _, h⟩ := h; simp [Rls.len h]
theorem Rls.get : ∀ {xs : List PV} {vs : List V} {i : Nat} {x : PV}, Rls K w H xs vs → xs[i]? = some x → ∃ v, vs[i]? = some v ∧ Rl K w H x v
  | [], _, _, _, _, e => by simp at e
  | x :: xs, _, 0, _, h, e => by obtain ⟨v, r, rfl, h1, _⟩ := h; simp at e; subst e; exact ⟨v, rfl, h1⟩
  | x :: xs, _, i + 1, y, h, e => by
    obtain ⟨v, r, rfl, _, h⟩ := h
    obtain ⟨u, e1, e2⟩ := Rls.get (i := i) (x := y) h (by simpa using e)
    exact ⟨u, by simpa using e1, e2⟩
theorem Rls.of : ∀ {xs : List PV} {vs : List V}, xs.length = vs.length → (∀ (i : Nat) x v, xs[i]? = some x → vs[i]? = some v → Rl K w H x v) → Rls K w H xs vs
  | [], vs, e, _ => by cases vs with | nil => rfl | cons _ _ => simp at e
  | x :: xs, vs, e, h => by
    cases vs with
    | nil => simp at e
    | cons v r => exact ⟨v, r, rfl, h 0 x v rfl rfl, Rls.of (by simpa using e) fun i y u e1 e2 => h (i + 1) y u (by simpa using e1) (by simpa using e2)⟩
theorem Rls.app : ∀ {xs ys : List PV} {vs us : List V}, Rls K w H xs vs → Rls K w H ys us → Rls K w H (xs ++ ys) (vs ++ us)
  | [], _, _, _, h, g => by cases h; exact g
  | x :: xs, _, _, _, h, g => by obtain ⟨v, r, rfl, h1, h⟩ := h; exact ⟨v, _, rfl, h1, Rls.app h g⟩
theorem Rls.take (n : Nat) {xs : List PV} {vs : List V} (h : Rls K w H xs vs) : Rls K w H (xs.take n) (vs.take n) := by
  refine .of (by simp [h.len]) fun i x v e1 e2 => ?_
  rw [List.getElem?_take] at e1 e2
  split at e1
  · rename_i hi
    rw [if_pos hi] at e2
    obtain ⟨u, e3, r⟩ := h.get e1
    rw [e2] at e3; cases e3; exact r
  · cases e1
theorem Rls.drop (n : Nat) {xs : List PV} {vs : List V} (h : Rls K w H xs vs) : Rls K w H (xs.drop n) (vs.drop n) := by
  refine .of (by simp [h.len]) fun i x v e1 e2 => ?_
  rw [List.getElem?_drop] at e1 e2
  obtain ⟨u, e3, r⟩ := h.get e1
  rw [e2] at e3; cases e3; exact r
theorem Rls.set {x : PV} {v : V} (hx : Rl K w H x v) (j : Nat) {xs : List PV} {vs : List V} (h : Rls K w H xs vs) : Rls K w H (xs.set j x) (vs.set j v) := by
  refine .of (by simp [h.len]) fun i y u e1 e2 => ?_
  rw [List.getElem?_set] at e1 e2
  have hl := h.len
  split at e1
  · rename_i hi
    rw [if_pos hi] at e2
    split at e1
    · cases e1
      split at e2
      · cases e2; exact hx
      · cases e2
    · cases e1
  · rename_i hi
    rw [if_neg hi] at e2
    obtain ⟨u', e3, r⟩ := h.get e1
    rw [e2] at e3; cases e3; exact r
theorem Rls.rev {xs : List PV} {vs : List V} (h : Rls K w H xs vs) : Rls K w H xs.reverse vs.reverse := by
  have hl := h.len
  refine .of (by simp [hl]) fun i x v e1 e2 => ?_
  have h1 : i < xs.length := by simpa using (List.getElem?_eq_some_iff.mp e1).1
  rw [List.getElem?_reverse h1] at e1
  rw [List.getElem?_reverse (by omega)] at e2
  obtain ⟨u, e3, r⟩ := h.get e1
  rw [hl] at e3
  rw [e2] at e3; cases e3; exact r
theorem Rls.flat : ∀ {xs : List PV} {vs : List V}, Rls K w H xs vs → ∀ n, Rls K w H (List.replicate n xs).flatten (List.replicate n vs).flatten
  | _, _, _, 0 => rfl
  | xs, vs, h, n + 1 => by
    simp only [List.replicate_succ, List.flatten_cons]
    exact h.app (h.flat n)

/-! ### the world goes on -/
structure Ext (w : Wd) (H : Hp) (w' : Wd) (H' : Hp) : Prop where
  f : ∃ t, w'.f = w.f ++ t
  F : ∀ a, w.F a → w'.F a ∧ H' a = H a
  G : ∀ a, w.G a → H' a = H a
  Ge : w'.G = w.G
  tup : ∀ a xs, H a = some (.tup xs) → H' a = some (.tup xs)
  frz : ∀ a o u, H a = some (.frz o u) → H' a = some (.frz o u)
theorem Ext.refl (w : Wd) (H : Hp) : Ext w H w H := ⟨⟨[], by simp⟩, fun _ h => ⟨h, rfl⟩, fun _ _ => rfl, rfl, fun _ _ h => h, fun _ _ _ h => h⟩
theorem Ext.trans {w1 w2 w3 : Wd} {H1 H2 H3 : Hp} (a : Ext w1 H1 w2 H2) (b : Ext w2 H2 w3 H3) : Ext w1 H1 w3 H3 := by
  refine ⟨?_, fun c h => ?_, fun c h => ?_, b.Ge.trans a.Ge, fun c xs h => b.tup c xs (a.tup c xs h), fun c o u h => b.frz c o u (a.frz c o u h)⟩
  · obtain ⟨t, e⟩ := a.f
    obtain ⟨t', e'⟩ := b.f
    exact ⟨t ++ t', by rw [e', e, List.append_assoc]⟩
  · obtain ⟨h1, e1⟩ := a.F c h
    obtain ⟨h2, e2⟩ := b.F c h1
    exact ⟨h2, e2.trans e1⟩
  · have h' : w2.G c := by rw [a.Ge]; exact h
    exact (b.G c h').trans (a.G c h)
theorem Ext.sqt (e : Ext w H w' H') {a : Addr} {vs : List V} (h : SqT K H a vs) : SqT K H' a vs := by
  rcases h with (h | ⟨o, h⟩) | h
  · exact .inl (.inl (e.tup _ _ h))
  · exact .inl (.inr ⟨o, e.frz _ _ _ h⟩)
  · exact .inr h
theorem Ext.sc (e : Ext w H w' H') {a : Addr} {vs : List V} (h : ScL K H a vs) : ScL K H' a vs := by
  rcases h with ⟨o, h⟩ | h
  · exact .inl ⟨o, e.frz _ _ _ h⟩
  · exact .inr h
theorem Ext.fget (e : Ext w H w' H') {n : Nat} {a : Addr} (h : w.f[n]? = some a) : w'.f[n]? = some a := by
  obtain ⟨t, e⟩ := e.f
  rw [e, List.getElem?_append_left (List.getElem?_eq_some_iff.mp h).1]; exact h
mutual
theorem Rl.mono (e : Ext w H w' H') : ∀ {x : PV} {v : V}, Rl K w H x v → Rl K w' H' x v
  | .non, _, h => h
  | .bl _, _, h => h
  | .int _, _, h => h
  | .str _, _, h => h
  | .tup xs, _, h => by
    obtain ⟨a, vs, e1, h1, h2⟩ := h
    exact ⟨a, vs, e1, e.sqt h1, Rls.mono e h2⟩
  | .lst xs, _, h => by
    obtain ⟨a, vs, e1, h1, h2, h3⟩ := h
    obtain ⟨h4, h5⟩ := e.F a h1
    exact ⟨a, vs, e1, h4, h5.trans h2, Rls.mono e h3⟩
  | .scr xs, _, h => by
    obtain ⟨a, vs, e1, h1, h2⟩ := h
    exact ⟨a, vs, e1, e.sc h1, Rls.mono e h2⟩
  | .loc n, _, h => by
    obtain ⟨a, e1, h1⟩ := h
    exact ⟨a, e1, e.fget h1⟩
  | .dct ks xs, _, h => by
    obtain ⟨a, kvs, e1, h1, h2, h3, h4⟩ := h
    obtain ⟨h5, h6⟩ := e.F a h1
    exact ⟨a, kvs, e1, h5, h6.trans h2, h3, Rls.mono e h4⟩
theorem Rls.mono (e : Ext w H w' H') : ∀ {xs : List PV} {vs : List V}, Rls K w H xs vs → Rls K w' H' xs vs
  | [], _, h => h
  | x :: xs, _, h => by
    obtain ⟨v, r, e1, h1, h2⟩ := h
    exact ⟨v, r, e1, Rl.mono e h1, Rls.mono e h2⟩
end
/-- the slots -/
def Re (K : PySem.W.Frag) (w : Wd) (H : Hp) (env : En) (σ : L2.St) : Prop := env.length = σ.length ∧ ∀ (i : Nat) (x : PV), env[i]? = some (some x) → ∃ v, σ[i]? = some (some v) ∧ Rl K w H x v
theorem Re.mono (e : Ext w H w' H') {env : En} {σ : L2.St} (h : Re K w H env σ) : Re K w' H' env σ := ⟨h.1, fun i x hx => let ⟨v, e1, r⟩ := h.2 i x hx; ⟨v, e1, r.mono e⟩⟩
theorem Re.set {env : En} {σ : L2.St} (h : Re K w H env σ) {i : Nat} {x : PV} {v : V} (hx : Rl K w H x v) : Re K w H (env.set i (some x)) (σ.set i (some v)) := by
  refine ⟨by simp [h.1], fun j y e => ?_⟩
  rw [List.getElem?_set] at e ⊢
  have hl := h.1
  split at e
  · rename_i hij
    rw [if_pos hij]
    split at e
    · rename_i hi
      cases e
      rw [if_pos (by omega)]
      exact ⟨v, rfl, hx⟩
    · cases e
  · rename_i hij
    rw [if_neg hij]
    exact h.2 j y e
theorem Re.wipe {env : En} {σ : L2.St} (h : Re K w H env σ) : ∀ (vs : List Nat), Re K w H (J.wipe env vs) (L2.wipe σ vs)
  | [] => h
  | v :: vs => by
    have ih := Re.wipe h vs
    refine ⟨by simp [J.wipe, L2.wipe, ih.1], fun j y e => ?_⟩
    simp only [J.wipe, L2.wipe] at e ⊢
    rw [List.getElem?_set] at e ⊢
    split at e
    · split at e
      · cases e
      · cases e
    · rename_i hij
      rw [if_neg hij]
      exact ih.2 j y e

/-! ### the cells -/
def CellOk (K : PySem.W.Frag) (w : Wd) (H : Hp) (n : Nat) : Cell → Prop
  | .dead => True
  | .lst xs => ∃ a vs, w.f[n]? = some a ∧ ¬ w.F a ∧ ¬ w.G a ∧ H a = some (.lst vs) ∧ Rls K w H xs vs
  | .dct ks xs => ∃ a kvs, w.f[n]? = some a ∧ ¬ w.F a ∧ ¬ w.G a ∧ H a = some (.dK kvs) ∧ kvs.map (·.1) = ks ∧ Rls K w H xs (kvs.map (·.2))
def live (h : Hh) (n : Nat) : Prop := ∃ c, h[n]? = some c ∧ c ≠ .dead
structure Sim (K : PySem.W.Frag) (w : Wd) (h : Hh) (H : Hp) : Prop where
  len : h.length = w.f.length
  cells : ∀ n c, h[n]? = some c → CellOk K w H n c
  inj : ∀ n m a, n ≠ m → live h n → live h m → w.f[n]? = some a → w.f[m]? ≠ some a
  F0 : ∀ a, w.F a → ∃ o, H a = some o
  G0 : ∀ a, w.G a → ∃ o, H a = some o
  FG : ∀ a, w.F a → ¬ w.G a
variable {h h' : Hh}
theorem CellOk.addr {n : Nat} {c : Cell} (x : CellOk K w H n c) (hc : c ≠ .dead) : ∃ a, w.f[n]? = some a ∧ ¬ w.F a ∧ ¬ w.G a ∧ Mut (H a) ∧ ∃ o, H a = some o := by
  cases c with
  | dead => exact absurd rfl hc
  | lst xs => obtain ⟨a, vs, h1, h2, h3, h4, _⟩ := x; exact ⟨a, h1, h2, h3, by rw [h4]; trivial, _, h4⟩
  | dct ks xs => obtain ⟨a, kvs, h1, h2, h3, h4, _⟩ := x; exact ⟨a, h1, h2, h3, by rw [h4]; trivial, _, h4⟩
theorem CellOk.mono (e : Ext w H w' H') {n : Nat} {c : Cell} (x : CellOk K w H n c)
    (hk : ∀ a, w.f[n]? = some a → ¬ w.F a → ¬ w.G a → c ≠ .dead → ¬ w'.F a ∧ H' a = H a) : CellOk K w' H' n c := by
  cases c with
  | dead => trivial
  | lst xs =>
    obtain ⟨a, vs, h1, h2, h3, h4, h5⟩ := x
    obtain ⟨k1, k2⟩ := hk a h1 h2 h3 (by simp)
    exact ⟨a, vs, e.fget h1, k1, by rw [e.Ge]; exact h3, k2.trans h4, h5.mono e⟩
  | dct ks xs =>
    obtain ⟨a, vs, h1, h2, h3, h4, h5, h6⟩ := x
    obtain ⟨k1, k2⟩ := hk a h1 h2 h3 (by simp)
    exact ⟨a, vs, e.fget h1, k1, by rw [e.Ge]; exact h3, k2.trans h4, h5, h6.mono e⟩

/-- a new object that stands still from now on -/
def Wd.fz (w : Wd) (p : Addr) : Wd := { w with F := fun a => w.F a ∨ a = p }
theorem Sim.fz (S : Sim K w h H) {p : Addr} {o : HO} (hp : H p = none) : Ext w H (w.fz p) (upd H p o) ∧ Sim K (w.fz p) h (upd H p o) := by
  have ne : ∀ {a u}, H a = some u → a ≠ p := fun {a u} e => ne_of_none e hp
  have E : Ext w H (w.fz p) (upd H p o) := ⟨⟨[], by simp [Wd.fz]⟩, fun a ha => ⟨.inl ha, let ⟨u, e⟩ := S.F0 a ha; upd_ne (ne e)⟩, fun a ha => let ⟨u, e⟩ := S.G0 a ha; upd_ne (ne e), rfl, fun a xs e => (upd_ne (ne e)).trans e, fun a o u e => (upd_ne (ne e)).trans e⟩
  refine ⟨E, ⟨S.len, fun n c e => ?_, S.inj, fun a ha => ?_, fun a ha => ?_, fun a ha hg => ?_⟩⟩
  · refine (S.cells n c e).mono E fun a h1 h2 h3 hc => ?_
    obtain ⟨a', k1, _, _, _, u, k2⟩ := (S.cells n c e).addr hc
    rw [h1] at k1; cases k1
    exact ⟨fun z => z.elim h2 (ne k2), upd_ne (ne k2)⟩
  · rcases ha with ha | rfl
    · obtain ⟨u, e⟩ := S.F0 a ha
      exact ⟨u, (upd_ne (ne e)).trans e⟩
    · exact ⟨o, upd_same⟩
  · obtain ⟨u, e⟩ := S.G0 a ha
    exact ⟨u, (upd_ne (ne e)).trans e⟩
  · rcases ha with ha | rfl
    · exact S.FG a ha hg
    · obtain ⟨u, e⟩ := S.G0 a hg
      rw [hp] at e; cases e
/-- a new object that nobody of ours holds yet (a tuple) -/
theorem Sim.lay (S : Sim K w h H) {p : Addr} {o : HO} (hp : H p = none) : Ext w H w (upd H p o) ∧ Sim K w h (upd H p o) := by
  have ne : ∀ {a u}, H a = some u → a ≠ p := fun {a u} e => ne_of_none e hp
  have E : Ext w H w (upd H p o) := ⟨⟨[], by simp⟩, fun a ha => ⟨ha, let ⟨u, e⟩ := S.F0 a ha; upd_ne (ne e)⟩, fun a ha => let ⟨u, e⟩ := S.G0 a ha; upd_ne (ne e), rfl, fun a xs e => (upd_ne (ne e)).trans e, fun a o u e => (upd_ne (ne e)).trans e⟩
  refine ⟨E, ⟨S.len, fun n c e => ?_, S.inj, fun a ha => ?_, fun a ha => ?_, S.FG⟩⟩
  · refine (S.cells n c e).mono E fun a h1 h2 h3 hc => ?_
    obtain ⟨a', k1, _, _, _, u, k2⟩ := (S.cells n c e).addr hc
    rw [h1] at k1; cases k1
    exact ⟨h2, upd_ne (ne k2)⟩
  · obtain ⟨u, e⟩ := S.F0 a ha
    exact ⟨u, (upd_ne (ne e)).trans e⟩
  · obtain ⟨u, e⟩ := S.G0 a ha
    exact ⟨u, (upd_ne (ne e)).trans e⟩
/-- a new object that may be changed by its place -/
def Wd.at (w : Wd) (p : Addr) : Wd := { w with f := w.f ++ [p] }
theorem Sim.at (S : Sim K w h H) {p : Addr} {o : HO} {c : Cell} (hp : H p = none) (hc : ∀ w' H', Ext w H w' H' → w'.f[h.length]? = some p → ¬ w'.F p → ¬ w'.G p → H' p = some o → CellOk K w' H' h.length c) :
    Ext w H (w.at p) (upd H p o) ∧ Sim K (w.at p) (h ++ [c]) (upd H p o) := by
  have ne : ∀ {a u}, H a = some u → a ≠ p := fun {a u} e => ne_of_none e hp
  have nF : ¬ w.F p := fun z => by obtain ⟨u, e⟩ := S.F0 p z; rw [hp] at e; cases e
  have nG : ¬ w.G p := fun z => by obtain ⟨u, e⟩ := S.G0 p z; rw [hp] at e; cases e
  have E : Ext w H (w.at p) (upd H p o) := ⟨⟨[p], rfl⟩, fun a ha => ⟨ha, let ⟨u, e⟩ := S.F0 a ha; upd_ne (ne e)⟩, fun a ha => let ⟨u, e⟩ := S.G0 a ha; upd_ne (ne e), rfl, fun a xs e => (upd_ne (ne e)).trans e, fun a o u e => (upd_ne (ne e)).trans e⟩
  have fl : (w.at p).f[h.length]? = some p := by
    show (w.f ++ [p])[h.length]? = _
    rw [S.len]; simp
  have old : ∀ {n a}, n < h.length → (w.at p).f[n]? = some a → w.f[n]? = some a := fun {n a} hn e => by
    have e : (w.f ++ [p])[n]? = some a := e
    rwa [List.getElem?_append_left (by rw [← S.len]; exact hn)] at e
  have lv : ∀ {n}, n < h.length → live (h ++ [c]) n → live h n := fun {n} hn ⟨d, e, hd⟩ => ⟨d, by rwa [List.getElem?_append_left hn] at e, hd⟩
  have np : ∀ {n}, n < h.length → live h n → w.f[n]? ≠ some p := fun {n} hn ⟨d, e, hd⟩ q => by
    obtain ⟨a', k1, _, _, _, u, k2⟩ := (S.cells n d e).addr hd
    rw [q] at k1; cases k1
    rw [hp] at k2; cases k2
  have lim : ∀ {n}, live (h ++ [c]) n → n < h.length ∨ n = h.length := fun {n} ⟨d, e, _⟩ => by
    have := (List.getElem?_eq_some_iff.mp e).1
    simp at this
    omega
  refine ⟨E, ⟨by simp [Wd.at, S.len], fun n d e => ?_, fun n m a hnm l1 l2 e1 e2 => ?_, fun a ha => ?_, fun a ha => ?_, S.FG⟩⟩
  · by_cases hn : n < h.length
    · rw [List.getElem?_append_left hn] at e
      refine (S.cells n d e).mono E fun a h1 h2 h3 hc => ?_
      obtain ⟨a', k1, _, _, _, u, k2⟩ := (S.cells n d e).addr hc
      rw [h1] at k1; cases k1
      exact ⟨h2, upd_ne (ne k2)⟩
    · have hn' : n = h.length := by
        have := (List.getElem?_eq_some_iff.mp e).1
        simp at this
        omega
      subst hn'
      simp at e
      subst e
      exact hc _ _ E fl nF nG upd_same
  · rcases lim l1 with hn | hn <;> rcases lim l2 with hm | hm
    · exact S.inj n m a hnm (lv hn l1) (lv hm l2) (old hn e1) (old hm e2)
    · subst hm; rw [fl] at e2; cases e2; exact np hn (lv hn l1) (old hn e1)
    · subst hn; rw [fl] at e1; cases e1; exact np hm (lv hm l2) (old hm e2)
    · omega
  · obtain ⟨u, e⟩ := S.F0 a ha
    exact ⟨u, (upd_ne (ne e)).trans e⟩
  · obtain ⟨u, e⟩ := S.G0 a ha
    exact ⟨u, (upd_ne (ne e)).trans e⟩
/-- an object of a place is written anew -/
theorem Sim.write (S : Sim K w h H) {n : Nat} {a : Addr} {o : HO} {c d : Cell} (hn : h[n]? = some d) (hd : d ≠ .dead) (ha : w.f[n]? = some a) (hc : ∀ H', Ext w H w H' → w.f[n]? = some a → ¬ w.F a → ¬ w.G a → H' a = some o → CellOk K w H' n c) :
    Ext w H w (upd H a o) ∧ Sim K w (h.set n c) (upd H a o) := by
  obtain ⟨a', k1, nF, nG, mu, u0, k2⟩ := (S.cells n d hn).addr hd
  rw [ha] at k1; cases k1
  have neF : ∀ {b}, w.F b → b ≠ a := fun {b} hb z => nF (z ▸ hb)
  have neG : ∀ {b}, w.G b → b ≠ a := fun {b} hb z => nG (z ▸ hb)
  have E : Ext w H w (upd H a o) := ⟨⟨[], by simp⟩, fun b hb => ⟨hb, upd_ne (neF hb)⟩, fun b hb => upd_ne (neG hb), rfl,
    fun b xs e => (upd_ne fun z => by subst z; rw [e] at mu; exact mu).trans e, fun b o u e => (upd_ne fun z => by subst z; rw [e] at mu; exact mu).trans e⟩
  have hlt : n < h.length := (List.getElem?_eq_some_iff.mp hn).1
  have lv : ∀ {m}, live (h.set n c) m → live h m := fun {m} ⟨x, e, hx⟩ => by
    rw [List.getElem?_set] at e
    split at e
    · rename_i q; subst q; exact ⟨d, hn, hd⟩
    · exact ⟨x, e, hx⟩
  refine ⟨E, ⟨by simp [S.len], fun m x e => ?_, fun p q b hpq l1 l2 e1 e2 => S.inj p q b hpq (lv l1) (lv l2) e1 e2, fun b hb => ?_, fun b hb => ?_, S.FG⟩⟩
  · rw [List.getElem?_set] at e
    split at e
    · rename_i q
      subst q
      first | rw [if_pos hlt] at e | skip
      cases e
      exact hc _ E ha nF nG upd_same
    · rename_i q
      refine (S.cells m x e).mono E fun b h1 h2 h3 hx => ⟨h2, upd_ne fun z => ?_⟩
      subst z
      exact S.inj n m b q ⟨d, hn, hd⟩ ⟨x, e, hx⟩ ha h1
  · obtain ⟨u, e⟩ := S.F0 b hb
    exact ⟨u, (upd_ne (neF hb)).trans e⟩
  · obtain ⟨u, e⟩ := S.G0 b hb
    exact ⟨u, (upd_ne (neG hb)).trans e⟩
/-- an object of a place stands still from now on -/
theorem Sim.still (S : Sim K w h H) {n : Nat} {a : Addr} {d : Cell} (hn : h[n]? = some d) (hd : d ≠ .dead) (ha : w.f[n]? = some a) : Ext w H (w.fz a) H ∧ Sim K (w.fz a) (h.set n .dead) H := by
  obtain ⟨a', k1, nF, nG, mu, u0, k2⟩ := (S.cells n d hn).addr hd
  rw [ha] at k1; cases k1
  have E : Ext w H (w.fz a) H := ⟨⟨[], by simp [Wd.fz]⟩, fun b hb => ⟨.inl hb, rfl⟩, fun b hb => rfl, rfl, fun b xs e => e, fun b o u e => e⟩
  have lv : ∀ {m}, live (h.set n .dead) m → m ≠ n ∧ live h m := fun {m} ⟨x, e, hx⟩ => by
    rw [List.getElem?_set] at e
    split at e
    · split at e
      · cases e; exact absurd rfl hx
      · cases e
    · rename_i q; exact ⟨fun z => q z.symm, x, e, hx⟩
  refine ⟨E, ⟨by simp [S.len, Wd.fz], fun m x e => ?_, fun p q b hpq l1 l2 e1 e2 => S.inj p q b hpq (lv l1).2 (lv l2).2 e1 e2, fun b hb => ?_, S.G0, fun b hb hg => ?_⟩⟩
  · by_cases hx : x = .dead
    · subst hx; trivial
    · obtain ⟨q, _⟩ := lv ⟨x, e, hx⟩
      rw [List.getElem?_set, if_neg (Ne.symm q)] at e
      refine (S.cells m x e).mono E fun b h1 h2 h3 hc => ⟨fun z => ?_, rfl⟩
      rcases z with z | z
      · exact h2 z
      · subst z
        exact S.inj n m b (Ne.symm q) ⟨d, hn, hd⟩ ⟨x, e, hc⟩ ha h1
  · rcases hb with hb | rfl
    · exact S.F0 b hb
    · exact ⟨u0, k2⟩
  · rcases hb with hb | rfl
    · exact S.FG b hb hg
    · exact nG hg
/-- an address is watched over: nobody of ours touches it -/
def Wd.gd (w : Wd) (p : Addr) : Wd := { w with G := fun a => w.G a ∨ a = p }
end
end J

set_option autoImplicit false
set_option linter.all false
set_option maxRecDepth 100000
set_option maxHeartbeats 1000000
/-! JB2: what one operation asks and gives, by values. -/
namespace J
open PySem PySem.Spec PyProof.Rows L2

/-- what an exception is -/
abbrev ExR := Nat → PV → Wd → Hp → Value → Option Addr → Prop
structure Cn where
  K : PySem.W.Frag
  ex : ExR
section
variable {cn : Cn} {w w1 : Wd} {H H1 : Hp} {h : Hh} {α β : Type}
def Post (cn : Cn) (w : Wd) (H : Hp) {α : Type} (o : Out α) (R : Wd → Hp → Hh → α → Prop) (EE : XK) : Prop :=
  match o with
  | .ok a h' => ∀ w' H', Ext w H w' H' → Sim cn.K w' h' H' → R w' H' h' a
  | .exc c v h' => ∀ w' H' cls d, Ext w H w' H' → Sim cn.K w' h' H' → cn.ex c v w' H' cls d → EE cls d H'
  | .bad => False
variable {R R' : Wd → Hp → Hh → α → Prop} {EE : XK} {o : Out α}
theorem Post.up (e : Ext w H w1 H1) (p : Post cn w H o R EE) : Post cn w1 H1 o R EE := by
  cases o with
  | ok a h' => exact fun w' H' e' S => p w' H' (e.trans e') S
  | exc c v h' => exact fun w' H' cls d e' S x => p w' H' cls d (e.trans e') S x
  | bad => exact p
theorem Post.imp (p : Post cn w H o R EE) (k : ∀ w' H' h' a, Ext w H w' H' → Sim cn.K w' h' H' → R w' H' h' a → R' w' H' h' a) : Post cn w H o R' EE := by
  cases o with
  | ok a h' => exact fun w' H' e' S => k w' H' h' a e' S (p w' H' e' S)
  | exc c v h' => exact p
  | bad => exact p
theorem Post.bind {m : M α} {k : α → M β} {R : Wd → Hp → Hh → β → Prop} (p : Post cn w H ((m >>= k) h) R EE) : Post cn w H (m h) (fun w' H' h' a => Post cn w' H' (k a h') R EE) EE := by
  change Post cn w H (M.bind m k h) R EE at p
  unfold M.bind at p
  cases e : m h with
  | ok a h' => rw [e] at p; exact fun w' H' e' S => p.up e'
  | exc c v h' => rw [e] at p; exact p
  | bad => rw [e] at p; exact p
/-- an answer that is there -/
theorem Post.pure {a : α} (S : Sim cn.K w h H) (p : Post cn w H ((Pure.pure a : M α) h) R EE) : R w H h a := p w H (Ext.refl w H) S
theorem Post.ok {a : α} {h' : Hh} (p : Post cn w H (.ok a h') R EE) {w' : Wd} {H' : Hp} (e : Ext w H w' H') (S : Sim cn.K w' h' H') : R w' H' h' a := p w' H' e S
theorem Post.bad {a : α} (p : Post cn w H ((J.bad : M α) h) R EE) : False := p
theorem Post.bad' (p : Post cn w H (.bad : Out α) R EE) : False := p
theorem Post.opt {x : Option α} (S : Sim cn.K w h H) (p : Post cn w H (J.opt x h) R EE) : ∃ a, x = some a ∧ R w H h a := by
  cases x with
  | none => exact p.elim
  | some a => exact ⟨a, rfl, p.pure S⟩
theorem Post.rd {f : Hh → Option α} (S : Sim cn.K w h H) (p : Post cn w H (J.rd f h) R EE) : ∃ a, f h = some a ∧ R w H h a := Post.opt (x := f h) S p
theorem Post.optB {x : Option α} {k : α → M β} {R : Wd → Hp → Hh → β → Prop} (p : Post cn w H ((J.opt x >>= k) h) R EE) : ∃ a, x = some a ∧ Post cn w H (k a h) R EE := by
  cases x with
  | none => exact p.elim
  | some a => exact ⟨a, rfl, p⟩
theorem Post.rdB {f : Hh → Option α} {k : α → M β} {R : Wd → Hp → Hh → β → Prop} (p : Post cn w H ((J.rd f >>= k) h) R EE) : ∃ a, f h = some a ∧ Post cn w H (k a h) R EE := by
  change Post cn w H (match J.opt (f h) h with | .ok a h' => k a h' | .exc c v h' => .exc c v h' | .bad => .bad) R EE at p
  cases e : f h with
  | none => rw [e] at p; exact p.elim
  | some a => rw [e] at p; exact ⟨a, rfl, p⟩
theorem Post.pureB {a : α} {k : α → M β} {R : Wd → Hp → Hh → β → Prop} (p : Post cn w H (((Pure.pure a : M α) >>= k) h) R EE) : Post cn w H (k a h) R EE := p
/-- what a value may be -/
def VQ (cn : Cn) (Q : VK) : Wd → Hp → Hh → PV → Prop := fun w' H' _ x => ∀ v, Rl cn.K w' H' x v → Q v H'
variable {Q : VK}

theorem sizeLine_is : sizeLine = sizeL := sizeLine_eq

/-! ### new lists and tuples -/
theorem post_mkT {xs : List PV} {vs : List V} (S : Sim cn.K w h H) (r : Rls cn.K w H xs vs) (p : Post cn w H (mkT xs h) (VQ cn Q) EE) :
    vs.length ≤ sizeLine ∧ ∀ q, H q = none → Q (.ref q) (upd H q (.tup vs)) := by
  unfold mkT at p
  split at p
  · rename_i hz
    refine ⟨by rw [sizeLine_is, ← r.len]; exact hz, fun q hq => ?_⟩
    obtain ⟨E, S'⟩ := S.lay (o := .tup vs) hq
    exact p.ok E S' (.ref q) ⟨q, vs, rfl, .inl (.inl upd_same), r.mono E⟩
  · exact p.elim
theorem post_mkL {m : Bool} {xs : List PV} {vs : List V} (S : Sim cn.K w h H) (r : Rls cn.K w H xs vs) (p : Post cn w H (mkL m xs h) (VQ cn Q) EE) :
    vs.length ≤ sizeLine ∧ ∀ q, H q = none → Q (.ref q) (upd H q (.lst vs)) := by
  unfold mkL at p
  split at p
  · rename_i hz
    refine ⟨by rw [sizeLine_is, ← r.len]; exact hz, fun q hq => ?_⟩
    cases m with
    | true =>
      rw [if_pos rfl] at p
      obtain ⟨E, S'⟩ := S.at (o := .lst vs) (c := .lst xs) hq fun w' H' E h1 h2 h3 h4 => ⟨q, vs, h1, h2, h3, h4, r.mono E⟩
      refine p.ok E S' (.ref q) ⟨q, rfl, ?_⟩
      show (w.f ++ [q])[h.length]? = _
      rw [S.len]; simp
    | false =>
      rw [if_neg (by decide)] at p
      obtain ⟨E, S'⟩ := S.fz (o := .lst vs) hq
      exact p.ok E S' (.ref q) ⟨q, vs, rfl, .inr rfl, upd_same, r.mono E⟩
  · exact p.elim

/-! ### what stands at a value -/
theorem getL_rel {x : PV} {v : V} {xs : List PV} (S : Sim cn.K w h H) (r : Rl cn.K w H x v) (e : getL h x = some xs) : ∃ a vs, v = .ref a ∧ H a = some (.lst vs) ∧ Rls cn.K w H xs vs := by
  cases x with
  | lst ys =>
    simp only [getL] at e
    cases e
    obtain ⟨a, vs, e1, h1, h2, h3⟩ := r
    exact ⟨a, vs, e1, h2, h3⟩
  | loc n =>
    simp only [getL] at e
    split at e
    · rename_i ys hc
      cases e
      obtain ⟨a, e1, h1⟩ := r
      obtain ⟨a', vs, k1, k2, k3, k4, k5⟩ := S.cells n _ hc
      rw [h1] at k1; cases k1
      exact ⟨a, vs, e1, k4, k5⟩
    · cases e
  | _ => simp [getL] at e
theorem getS_rel {x : PV} {v : V} {xs : List PV} (S : Sim cn.K w h H) (r : Rl cn.K w H x v) (e : getS h x = some xs) : ∃ a vs, v = .ref a ∧ (SqL cn.K H a vs ∨ SqT cn.K H a vs) ∧ Rls cn.K w H xs vs := by
  cases x with
  | tup ys =>
    simp only [getS] at e
    cases e
    obtain ⟨a, vs, e1, h1, h2⟩ := r
    exact ⟨a, vs, e1, .inr h1, h2⟩
  | scr ys =>
    simp only [getS] at e
    cases e
    obtain ⟨a, vs, e1, h1, h2⟩ := r
    exact ⟨a, vs, e1, .inl h1.sq, h2⟩
  | lst ys =>
    obtain ⟨a, vs, e1, h1, h2⟩ := getL_rel S r e
    exact ⟨a, vs, e1, .inl (.of h1), h2⟩
  | loc n =>
    obtain ⟨a, vs, e1, h1, h2⟩ := getL_rel S r e
    exact ⟨a, vs, e1, .inl (.of h1), h2⟩
  | _ => simp [getS, getL] at e
theorem ints_rel : ∀ {xs : List PV} {ns : List Int} {vs : List V}, Rls cn.K w H xs vs → intsOf xs = some ns → vs = ns.map V.int
  | [], _, _, r, e => by cases r; simp [intsOf] at e; subst e; rfl
  | x :: xs, ns, _, r, e => by
    obtain ⟨v, vs, rfl, r1, r2⟩ := r
    cases x with
    | int i =>
      simp only [intsOf, Option.map_eq_some_iff] at e
      obtain ⟨ms, e1, rfl⟩ := e
      cases r1
      rw [ints_rel r2 e1]; rfl
    | _ => simp [intsOf] at e
theorem bls_rel : ∀ {xs : List PV} {ns : List Bool} {vs : List V}, Rls cn.K w H xs vs → blsOf xs = some ns → vs = ns.map V.bl
  | [], _, _, r, e => by cases r; simp [blsOf] at e; subst e; rfl
  | x :: xs, ns, _, r, e => by
    obtain ⟨v, vs, rfl, r1, r2⟩ := r
    cases x with
    | bl i =>
      simp only [blsOf, Option.map_eq_some_iff] at e
      obtain ⟨ms, e1, rfl⟩ := e
      cases r1
      rw [bls_rel r2 e1]; rfl
    | _ => simp [blsOf] at e
theorem strs_rel : ∀ {xs : List PV} {ns : List Str} {vs : List V}, Rls cn.K w H xs vs → strsOf xs = some ns → vs = ns.map V.str
  | [], _, _, r, e => by cases r; simp [strsOf] at e; subst e; rfl
  | x :: xs, ns, _, r, e => by
    obtain ⟨v, vs, rfl, r1, r2⟩ := r
    cases x with
    | str i =>
      simp only [strsOf, Option.map_eq_some_iff] at e
      obtain ⟨ms, e1, rfl⟩ := e
      cases r1
      rw [strs_rel r2 e1]; rfl
    | _ => simp [strsOf] at e

theorem natAbs_lt {j : Int} {n : Nat} (h0 : 0 < j) (h : j < (2 : Int) ^ n) : j.natAbs < 2 ^ n := by
  have e : ((2 ^ n : Nat) : Int) = (2 : Int) ^ n := Int.natCast_pow 2 n
  generalize (2 : Int) ^ n = k at *
  omega
/-! ### two operands -/
def opOf : Op2 → Operator
  | .add => .Add | .sub => .Sub | .mul => .Mult | .fdiv => .FloorDiv | .mod => .Mod | .pow => .Pow
/-- an operation by the small language -/
def rB (cn : Cn) (EE : XK) (f : PV → PV → M PV) : R2 := fun u v H Q => ∃ w h x y, Sim cn.K w h H ∧ Rl cn.K w H x u ∧ Rl cn.K w H y v ∧ Post cn w H (f x y h) (VQ cn Q) EE
variable {X : Cx}
theorem op_bin (hK : X.K = cn.K) (op : Op2) (m : Bool) : OpR X (binaryOp (opOf op)) (rB cn EE (evBin op m)) := by
  intro pins s σ H x y v u Q I rx ry hq
  obtain ⟨w, h, a, b, S, ra, rb, p⟩ := hq
  cases op with
  | add =>
    show wpAny _ _ (binaryOp .Add v u) _ _ _
    have lists : (do let xs ← rd (getL · a); let ys ← rd (getL · b); mkL m (xs ++ ys) : M PV) h = evBin .add m a b h → wpAny (model X.prog X.w) X.A (binaryOp .Add v u) (EP X pins σ Q) X.xe s := fun e => by
      rw [← e] at p
      obtain ⟨xs, e1, p⟩ := p.rdB
      obtain ⟨ys, e2, p⟩ := p.rdB
      obtain ⟨l1, vs, rfl, h1, r1⟩ := getL_rel S ra e1
      obtain ⟨l2, us, rfl, h2, r2⟩ := getL_rel S rb e2
      obtain ⟨z, q⟩ := post_mkL S (r1.app r2) p
      exact op_cat pins s σ H _ _ v u Q I rx ry ⟨l1, l2, vs, us, rfl, rfl, h1, h2, by simpa using z, q⟩
    cases a with
    | int i =>
      cases b with
      | int j => cases ra; cases rb; exact op_add pins s σ H _ _ v u Q I rx ry ⟨i, j, rfl, rfl, p.pure S _ rfl⟩
      | _ => exact lists rfl
    | str i =>
      cases b with
      | str j =>
        cases ra; cases rb
        simp only [evBin] at p
        split at p
        · rename_i hz
          exact op_add_str pins s σ H _ _ v u Q I rx ry ⟨i, j, rfl, rfl, by rw [sizeLine_is]; exact hz, p.pure S _ rfl⟩
        · exact p.elim
      | _ => exact lists rfl
    | tup i =>
      cases b with
      | tup j =>
        obtain ⟨l1, vs, rfl, h1, r1⟩ := ra
        obtain ⟨l2, us, rfl, h2, r2⟩ := rb
        simp only [evBin, mkT] at p
        split at p
        · rename_i hz
          have l1' := r1.len
          have l2' := r2.len
          refine op_catA pins s σ H _ _ v u Q I rx ry ⟨l1, l2, vs, us, rfl, rfl, by rw [hK]; exact h1, by rw [hK]; exact h2, by rw [sizeLine_is, ← l1', ← l2']; simpa using hz, fun e => ?_, fun _ e => ?_, fun _ _ q hq => ?_⟩
          · subst e
            have : i = [] := List.eq_nil_of_length_eq_zero l1'
            subst this
            exact p.pure S _ ⟨l2, us, rfl, h2, by simpa using r2⟩
          · subst e
            have : j = [] := List.eq_nil_of_length_eq_zero l2'
            subst this
            exact p.pure S _ ⟨l1, vs, rfl, h1, by simpa using r1⟩
          · obtain ⟨E, S'⟩ := S.lay (o := .tup (vs ++ us)) hq
            exact p.ok E S' (.ref q) ⟨q, _, rfl, .inl (.inl upd_same), (r1.app r2).mono E⟩
        · exact p.elim
      | _ => exact lists rfl
    | non => exact lists (by cases b <;> rfl)
    | bl _ => exact lists (by cases b <;> rfl)
    | lst _ => exact lists (by cases b <;> rfl)
    | scr _ => exact lists (by cases b <;> rfl)
    | loc _ => exact lists (by cases b <;> rfl)
    | dct _ _ => exact lists (by cases b <;> rfl)
  | sub =>
    cases a with
    | int i =>
      cases b with
      | int j => cases ra; cases rb; exact op_sub pins s σ H _ _ v u Q I rx ry ⟨i, j, rfl, rfl, p.pure S _ rfl⟩
      | _ => exact p.elim
    | _ => exact p.elim
  | mul =>
    show wpAny _ _ (binaryOp .Mult v u) _ _ _
    have lists : ∀ k, b = .int k → (do let xs ← rd (getL · a); (if k < 2 ^ 62 ∧ -(2 ^ 62) < k ∧ xs.length * k.toNat ≤ sizeL then mkL m (List.replicate k.toNat xs).flatten else bad) : M PV) h = evBin .mul m a b h → wpAny (model X.prog X.w) X.A (binaryOp .Mult v u) (EP X pins σ Q) X.xe s := fun k hb e => by
      rw [← e] at p
      subst hb
      obtain ⟨xs, e1, p⟩ := p.rdB
      obtain ⟨l1, vs, rfl, h1, r1⟩ := getL_rel S ra e1
      cases rb
      split at p
      · rename_i hk
        obtain ⟨z, q⟩ := post_mkL S (r1.flat k.toNat) p
        exact op_rep pins s σ H _ _ v u Q I rx ry ⟨l1, k, vs, rfl, rfl, h1, by omega, by omega, by rw [sizeLine_is, ← r1.len]; exact hk.2.2, q⟩
      · exact p.elim
    cases a with
    | int i =>
      cases b with
      | int j =>
        cases ra; cases rb
        simp only [evBin] at p
        split at p
        · rename_i hz
          have q := p.pure S _ rfl
          simp only [mulOk, Bool.or_eq_true, Bool.and_eq_true, decide_eq_true_eq] at hz
          rcases hz with (hz | hz) | ⟨hz1, hz2⟩
          · exact op_mul pins s σ H _ _ v u Q I rx ry ⟨i, j, rfl, rfl, .inl (by omega), q⟩
          · exact op_mul pins s σ H _ _ v u Q I rx ry ⟨i, j, rfl, rfl, .inr (by omega), q⟩
          · exact op_mulW pins s σ H _ _ v u Q I rx ry ⟨i, j, rfl, rfl, wide_mul hz1 hz2 (by decide) (by decide) (by decide), q⟩
        · exact p.elim
      | _ => simp [evBin] at p; first | exact p.elim | exact p.rdB.elim fun _ z => by simp [getL] at z
    | tup xs =>
      cases b with
      | int k =>
        obtain ⟨l1, vs, rfl, h1, r1⟩ := ra
        cases rb
        simp only [evBin] at p
        split at p
        · rename_i hz
          obtain ⟨z1, z2, z3, z4⟩ := hz
          refine op_repT pins s σ H _ _ v u Q I rx ry ⟨l1, k, vs, rfl, rfl, by rw [hK]; exact h1, fun e => ?_, z2, z3, by rw [← r1.len]; exact z4, fun q hq => ?_⟩
          · subst e
            exact z1 (List.eq_nil_of_length_eq_zero r1.len)
          · obtain ⟨E, S'⟩ := S.lay (o := .tup (List.replicate k.toNat vs).flatten) hq
            exact p.ok E S' (.ref q) ⟨q, _, rfl, .inl (.inl upd_same), (r1.flat k.toNat).mono E⟩
        · exact p.elim
      | _ => exact p.elim
    | str _ => cases b <;> first | exact lists _ rfl rfl | exact p.elim
    | non => cases b <;> first | exact lists _ rfl rfl | exact p.elim
    | bl _ => cases b <;> first | exact lists _ rfl rfl | exact p.elim
    | lst _ => cases b <;> first | exact lists _ rfl rfl | exact p.elim
    | scr _ => cases b <;> first | exact lists _ rfl rfl | exact p.elim
    | loc _ => cases b <;> first | exact lists _ rfl rfl | exact p.elim
    | dct _ _ => cases b <;> first | exact lists _ rfl rfl | exact p.elim
  | fdiv =>
    cases a with
    | int i =>
      cases b with
      | int j =>
        cases ra; cases rb
        simp only [evBin] at p
        split at p
        · rename_i hz
          exact op_fdivW pins s σ H _ _ v u Q I rx ry ⟨i, j, rfl, rfl, wide_div (b := 200) hz.1 (natAbs_lt hz.1 hz.2) (by decide) (by decide), p.pure S _ rfl⟩
        · exact p.elim
      | _ => exact p.elim
    | _ => exact p.elim
  | mod =>
    cases a with
    | int i =>
      cases b with
      | int j =>
        cases ra; cases rb
        simp only [evBin] at p
        split at p
        · rename_i hz
          exact op_mod pins s σ H _ _ v u Q I rx ry ⟨i, j, rfl, rfl, hz, p.pure S _ rfl⟩
        · exact p.elim
      | _ => exact p.elim
    | _ => exact p.elim
  | pow =>
    cases a with
    | int i =>
      cases b with
      | int j =>
        cases ra; cases rb
        simp only [evBin] at p
        split at p
        · rename_i hz
          exact op_pow pins s σ H _ _ v u Q I rx ry ⟨i, j, rfl, rfl, hz, p.pure S _ rfl⟩
        · exact p.elim
      | _ => exact p.elim
    | _ => exact p.elim
end
end J

set_option autoImplicit false
set_option linter.all false
set_option maxRecDepth 100000
set_option maxHeartbeats 1000000
/-! JB3: comparisons, places, truth, built-ins. -/
namespace J
open PySem PySem.Spec PyProof.Rows L2
section
variable {cn : Cn} {w w1 : Wd} {H H1 : Hp} {h : Hh} {EE : XK} {Q : VK} {X : Cx}

mutual
theorem dp_rel : ∀ {x : PV} {v : V} {d : PyData}, Rl cn.K w H x v → dOf x = some d → Dp cn.K H v d
  | .non, _, _, r, e => by cases r; simp [dOf] at e; subst e; exact .non
  | .bl b, _, _, r, e => by cases r; simp [dOf] at e; subst e; exact .bl b
  | .int i, _, _, r, e => by cases r; simp [dOf] at e; subst e; exact .int i
  | .str x, _, _, r, e => by cases r; simp [dOf] at e; subst e; exact .str x
  | .tup xs, _, _, r, e => by
    obtain ⟨a, vs, rfl, h1, h2⟩ := r
    simp only [dOf, Option.map_eq_some_iff] at e
    obtain ⟨ds, e1, rfl⟩ := e
    exact .tup h1 (dps_rel h2 e1)
  | .lst xs, _, _, r, e => by
    obtain ⟨a, vs, rfl, h0, h1, h2⟩ := r
    simp only [dOf, Option.map_eq_some_iff] at e
    obtain ⟨ds, e1, rfl⟩ := e
    exact .lst (.of h1) (dps_rel h2 e1)
  | .loc _, _, _, _, e => by simp [dOf] at e
  | .dct _ _, _, _, _, e => by simp [dOf] at e
  | .scr _, _, _, _, e => by simp [dOf] at e
theorem dps_rel : ∀ {xs : List PV} {vs : List V} {ds : List PyData}, Rls cn.K w H xs vs → dsOf xs = some ds → DpAll cn.K H vs ds
  | [], _, _, r, e => by cases r; simp [dsOf] at e; subst e; exact .nil
  | x :: xs, _, _, r, e => by
    obtain ⟨v, vs, rfl, r1, r2⟩ := r
    simp only [dsOf, Option.bind_eq_some_iff, Option.map_eq_some_iff] at e
    obtain ⟨d, e1, ds, e2, rfl⟩ := e
    exact .cons (dp_rel r1 e1) (dps_rel r2 e2)
end
theorem dpt_rel (S : Sim cn.K w h H) {x : PV} {v : V} {d : PyData} (r : Rl cn.K w H x v) (e : dTop h x = some d) : Dp cn.K H v d := by
  cases x with
  | loc n =>
    simp only [dTop, Option.bind_eq_some_iff, Option.map_eq_some_iff] at e
    obtain ⟨xs, e1, ds, e2, rfl⟩ := e
    obtain ⟨a, vs, rfl, h1, h2⟩ := getL_rel S r e1
    exact .lst (.of h1) (dps_rel h2 e2)
  | _ => exact dp_rel r e
def cmpOf : Cmp → CmpOp
  | .eq => .Eq | .ne => .NotEq | .lt => .Lt | .le => .LtE | .gt => .Gt | .ge => .GtE | .isin => .In | .notin => .NotIn
/-- an answer read off the cells, as an operation -/
def rR (cn : Cn) (f : PV → PV → Hh → Option Bool) : R2 := fun u v H Q => ∃ w h x y b, Sim cn.K w h H ∧ Rl cn.K w H x u ∧ Rl cn.K w H y v ∧ f x y h = some b ∧ Q (.bl b) H
theorem evEq_ok (hK : X.K = cn.K) (hu : X.A.units + 64 < cLine) {pins : List (Addr × Obj)} {s : Shared} {σ : L2.St} {v u : Value} {x y : V} {a b : PV} {r : Bool} (I : Inv X pins σ H s) (rx : RelV x v) (ry : RelV y u) (S : Sim cn.K w h H) (ra : Rl cn.K w H a x) (rb : Rl cn.K w H b y)
    (e : evEq h a b = some r) : (Q (.bl r) H → wpAny (model X.prog X.w) X.A (compareOp .Eq v u) (EP X pins σ Q) X.xe s) ∧ (Q (.bl (!r)) H → wpAny (model X.prog X.w) X.A (compareOp .NotEq v u) (EP X pins σ Q) X.xe s) := by
  have data : (match dTop h a, dTop h b with
    | some d, some e => if SeqAt.shaped d && SeqAt.shaped e then some (PyData.eqv d e) else none
    | _, _ => none) = some r → (Q (.bl r) H → wpAny (model X.prog X.w) X.A (compareOp .Eq v u) (EP X pins σ Q) X.xe s) ∧ (Q (.bl (!r)) H → wpAny (model X.prog X.w) X.A (compareOp .NotEq v u) (EP X pins σ Q) X.xe s) := fun e => by
    split at e
    · rename_i d d' e1 e2
      split at e
      · rename_i hs
        cases e
        rw [Bool.and_eq_true] at hs
        have h1 := dpt_rel S ra e1
        have h2 := dpt_rel S rb e2
        rw [← hK] at h1 h2
        exact ⟨fun q => op_eqD hu pins s σ H x y v u Q I rx ry ⟨d, d', h1, h2, hs.1, hs.2, q⟩, fun q => op_neD hu pins s σ H x y v u Q I rx ry ⟨d, d', h1, h2, hs.1, hs.2, q⟩⟩
      · cases e
    · cases e
  cases a with
  | int i =>
    cases b with
    | int j =>
      cases ra; cases rb
      simp only [evEq] at e; cases e
      refine ⟨fun q => op_eq pins s σ H _ _ v u Q I rx ry ⟨rfl, ?_⟩, fun q => op_ne pins s σ H _ _ v u Q I rx ry ⟨rfl, ?_⟩⟩
      · rw [show decide (V.int i = V.int j) = decide (i = j) from by simp]; exact q
      · rw [show decide (V.int i = V.int j) = decide (i = j) from by simp]; exact q
    | _ => exact data e
  | str i =>
    cases b with
    | str j =>
      cases ra; cases rb
      simp only [evEq] at e; cases e
      refine ⟨fun q => op_eq pins s σ H _ _ v u Q I rx ry ⟨rfl, ?_⟩, fun q => op_ne pins s σ H _ _ v u Q I rx ry ⟨rfl, ?_⟩⟩
      · rw [show decide (V.str i = V.str j) = decide (i = j) from by simp]; exact q
      · rw [show decide (V.str i = V.str j) = decide (i = j) from by simp]; exact q
    | _ => exact data e
  | bl i =>
    cases b with
    | bl j =>
      cases ra; cases rb
      simp only [evEq] at e; cases e
      refine ⟨fun q => op_eq pins s σ H _ _ v u Q I rx ry ⟨rfl, ?_⟩, fun q => op_ne pins s σ H _ _ v u Q I rx ry ⟨rfl, ?_⟩⟩
      · rw [show decide (V.bl i = V.bl j) = decide (i = j) from by simp]; exact q
      · rw [show decide (V.bl i = V.bl j) = decide (i = j) from by simp]; exact q
    | _ => exact data e
  | non => exact data e
  | tup _ => exact data e
  | lst _ => exact data e
  | scr _ => exact data e
  | loc _ => exact data e
  | dct _ _ => exact data e
theorem flat_rel {x : PV} {v : V} (r : Rl cn.K w H x v) (f : flatP x = true) : flatV v = true ∧ (∀ {y : PV} {u : V}, Rl cn.K w H y u → flatP y = true → eqV u v = eqP y x) := by
  cases x with
  | non => cases r; exact ⟨rfl, fun {y u} r f => by cases y <;> first | (simp [flatP] at f; done) | (cases r; rfl)⟩
  | bl b => cases r; exact ⟨rfl, fun {y u} r f => by cases y <;> first | (simp [flatP] at f; done) | (cases r; rfl)⟩
  | int b => cases r; exact ⟨rfl, fun {y u} r f => by cases y <;> first | (simp [flatP] at f; done) | (cases r; rfl)⟩
  | str b => cases r; exact ⟨rfl, fun {y u} r f => by cases y <;> first | (simp [flatP] at f; done) | (cases r; rfl)⟩
  | _ => simp [flatP] at f
theorem flats_rel {a : PV} {x : V} (ra : Rl cn.K w H a x) (fa : flatP a = true) : ∀ {xs : List PV} {vs : List V}, Rls cn.K w H xs vs → xs.all flatP = true → vs.all flatV = true ∧ inV x vs = xs.any fun y => eqP y a
  | [], _, r, _ => by cases r; exact ⟨rfl, rfl⟩
  | y :: ys, _, r, f => by
    obtain ⟨v, vs, rfl, r1, r2⟩ := r
    rw [List.all_cons, Bool.and_eq_true] at f
    obtain ⟨h1, h2⟩ := flats_rel ra fa r2 f.2
    refine ⟨by rw [List.all_cons, (flat_rel r1 f.1).1, h1]; rfl, ?_⟩
    show (v :: vs).any (fun z => eqV z x) = _
    rw [List.any_cons, List.any_cons, (flat_rel ra fa).2 r1 f.1]
    congr 1
theorem evIn_ok (hK : X.K = cn.K) {pins : List (Addr × Obj)} {s : Shared} {σ : L2.St} {v u : Value} {x y : V} {a b : PV} {r : Bool} (I : Inv X pins σ H s) (rx : RelV x v) (ry : RelV y u) (S : Sim cn.K w h H) (ra : Rl cn.K w H a x) (rb : Rl cn.K w H b y)
    (e : evIn h a b = some r) : (Q (.bl r) H → wpAny (model X.prog X.w) X.A (compareOp .In v u) (EP X pins σ Q) X.xe s) ∧ (Q (.bl (!r)) H → wpAny (model X.prog X.w) X.A (compareOp .NotIn v u) (EP X pins σ Q) X.xe s) := by
  have data : (match getS h b with
    | some xs => if flatP a && xs.all flatP then some (xs.any fun y => eqP y a) else none
    | none => none) = some r → (Q (.bl r) H → wpAny (model X.prog X.w) X.A (compareOp .In v u) (EP X pins σ Q) X.xe s) ∧ (Q (.bl (!r)) H → wpAny (model X.prog X.w) X.A (compareOp .NotIn v u) (EP X pins σ Q) X.xe s) := fun e => by
    split at e
    · rename_i xs e1
      split at e
      · rename_i hs
        rw [Bool.and_eq_true] at hs
        cases e
        obtain ⟨p, vs, rfl, hp, rs⟩ := getS_rel S rb e1
        obtain ⟨h1, h2⟩ := flats_rel ra hs.1 rs hs.2
        rw [← hK] at hp
        rw [← h2]
        exact ⟨fun q => op_in_seq pins s σ H _ _ v u Q I rx ry ⟨p, vs, rfl, hp, (flat_rel ra hs.1).1, h1, q⟩, fun q => op_notIn_seq pins s σ H _ _ v u Q I rx ry ⟨p, vs, rfl, hp, (flat_rel ra hs.1).1, h1, q⟩⟩
      · cases e
    · cases e
  cases a with
  | str z =>
    cases b with
    | str t =>
      cases ra; cases rb
      simp only [evIn] at e
      split at e
      · rename_i c hc
        cases e
        obtain ⟨⟨l⟩⟩ := z
        have hc : l = [c] := hc
        subst hc
        exact ⟨fun q => op_in_sign pins s σ H _ _ v u Q I rx ry ⟨c, t, rfl, rfl, q⟩, fun q => op_notIn_sign pins s σ H _ _ v u Q I rx ry ⟨c, t, rfl, rfl, q⟩⟩
      · cases e
    | _ => exact data e
  | _ => exact data (by cases b <;> exact e)
theorem op_cmp (hK : X.K = cn.K) (hu : X.A.units + 64 < cLine) (op : Cmp) : OpR X (compareOp (cmpOf op)) (rR cn (evCmp op)) := by
  intro pins s σ H x y v u Q I rx ry hq
  obtain ⟨w, h, a, b, r, S, ra, rb, e, q⟩ := hq
  cases op with
  | eq => exact (evEq_ok hK hu I rx ry S ra rb e).1 q
  | ne =>
    simp only [evCmp, Option.map_eq_some_iff] at e
    obtain ⟨k, e, rfl⟩ := e
    exact (evEq_ok hK hu I rx ry S ra rb e).2 q
  | isin => exact (evIn_ok hK I rx ry S ra rb e).1 q
  | notin =>
    simp only [evCmp, Option.map_eq_some_iff] at e
    obtain ⟨k, e, rfl⟩ := e
    exact (evIn_ok hK I rx ry S ra rb e).2 q
  | lt =>
    cases a <;> cases b <;> first | (simp [evCmp] at e; done) | skip
    cases ra; cases rb; simp only [evCmp] at e; cases e
    exact op_lt pins s σ H _ _ v u Q I rx ry ⟨_, _, rfl, rfl, q⟩
  | le =>
    cases a <;> cases b <;> first | (simp [evCmp] at e; done) | skip
    cases ra; cases rb; simp only [evCmp] at e; cases e
    exact op_le pins s σ H _ _ v u Q I rx ry ⟨_, _, rfl, rfl, q⟩
  | gt =>
    cases a <;> cases b <;> first | (simp [evCmp] at e; done) | skip
    cases ra; cases rb; simp only [evCmp] at e; cases e
    exact op_gt pins s σ H _ _ v u Q I rx ry ⟨_, _, rfl, rfl, q⟩
  | ge =>
    cases a <;> cases b <;> first | (simp [evCmp] at e; done) | skip
    cases ra; cases rb; simp only [evCmp] at e; cases e
    exact op_ge pins s σ H _ _ v u Q I rx ry ⟨_, _, rfl, rfl, q⟩

/-! ### truth, places, parts -/
theorem truth_rel (S : Sim cn.K w h H) {x : PV} {v : V} {b : Bool} (r : Rl cn.K w H x v) (e : truth h x = some b) : TruV cn.K v H b := by
  have seq : (getS h x).map (fun xs => !xs.isEmpty) = some b → TruV cn.K v H b := fun e => by
    rw [Option.map_eq_some_iff] at e
    obtain ⟨xs, e1, rfl⟩ := e
    obtain ⟨p, vs, rfl, hp, rs⟩ := getS_rel S r e1
    have : xs.isEmpty = vs.isEmpty := by
      have := rs.len
      cases xs <;> cases vs <;> simp_all
    rcases hp with hp | hp
    · exact .inl ⟨vs, hp, by rw [this]⟩
    · exact .inr (.inl ⟨vs, hp, by rw [this]⟩)
  cases x with
  | non => cases r; simp only [truth] at e; cases e; rfl
  | bl b => cases r; simp only [truth] at e; cases e; rfl
  | int i => cases r; simp only [truth] at e; cases e; rfl
  | str z =>
    cases r
    simp only [truth] at e
    split at e
    · rename_i hz
      cases e
      refine ⟨by rw [sizeLine_is]; exact hz, ?_⟩
      by_cases h0 : z.length = 0
      · simp [h0]
      · have : ((z.length : Int) != 0) = true := by simp; omega
        rw [this]; simp [h0]
    · cases e
  | _ => exact seq e
theorem atI_rel {xs : List PV} {vs : List V} {k : Int} {x : PV} (r : Rls cn.K w H xs vs) (e : L2.atI xs k = some x) : ∃ v, L2.atI vs k = some v ∧ Rl cn.K w H x v := by
  unfold L2.atI at e ⊢
  rw [← r.len]
  rw [Option.bind_eq_some_iff] at e
  obtain ⟨j, e1, e2⟩ := e
  obtain ⟨v, e3, r1⟩ := r.get e2
  exact ⟨v, by rw [e1]; exact e3, r1⟩
def rIxJ (cn : Cn) : R2 := fun u v H Q => ∃ w h x y z, Sim cn.K w h H ∧ Rl cn.K w H x u ∧ Rl cn.K w H y v ∧ evIdx h x y = some z ∧ ∀ v, Rl cn.K w H z v → Q v H
theorem ixJ_of (hK : X.K = cn.K) {x y : V} (hq : rIxJ cn x y H Q) : rIx X.K x y H Q := by
  obtain ⟨w, h, a, b, z, S, ra, rb, e, q⟩ := hq
  cases b with
  | int k =>
    cases rb
    have seq : (getS h a).bind (fun xs => L2.atI xs k) = some z → rIx X.K x (.int k) H Q := fun e => by
      rw [Option.bind_eq_some_iff] at e
      obtain ⟨xs, e1, e2⟩ := e
      obtain ⟨p, vs, rfl, hp, rs⟩ := getS_rel S ra e1
      obtain ⟨v, e3, r3⟩ := atI_rel rs e2
      rw [hK]
      rcases hp with hp | hp
      · exact .inl ⟨p, vs, k, v, rfl, rfl, hp, e3, q v r3⟩
      · exact .inr (.inl ⟨p, vs, k, v, rfl, rfl, hp, e3, q v r3⟩)
    cases a with
    | str t =>
      cases ra
      simp only [evIdx] at e
      split at e
      · rename_i hz
        rw [Option.map_eq_some_iff] at e
        obtain ⟨c, e1, rfl⟩ := e
        exact .inr (.inr ⟨t, k, c, rfl, rfl, by rw [sizeLine_is]; exact hz, e1, q _ rfl⟩)
      · cases e
    | _ => exact seq e
  | _ => simp [evIdx] at e
theorem ix_J (hK : X.K = cn.K) : IxR X (rIxJ cn) := fun value slice pins s σ H x y v u Q I rx ry hq hs => ix_seq value slice pins s σ H x y v u Q I rx ry (ixJ_of hK hq) hs
theorem cut_rel {xs : List PV} {vs : List V} (r : Rls cn.K w H xs vs) (lo hi : Option Int) : Rls cn.K w H (cut xs lo hi) (cutV vs lo hi) := by
  unfold cut cutV
  rw [← r.len]
  exact (r.drop _).take _
def rSlJ (cn : Cn) (EE : XK) (m : Bool) : V → Option Int → Option Int → Hp → VK → Prop := fun u lo hi H Q => ∃ w h x, Sim cn.K w h H ∧ Rl cn.K w H x u ∧ Post cn w H (evSlice m x lo hi h) (VQ cn Q) EE
theorem cut_whole {α : Type} {xs : List α} {lo hi : Option Int} (hw : HT.sIx xs.length 0 lo = 0 ∧ HT.sIx xs.length xs.length hi = xs.length) : cut xs lo hi = xs := by
  unfold cut
  rw [hw.1, hw.2]
  simp
theorem sl_J (hK : X.K = cn.K) (m : Bool) : SlR X (rSlJ cn EE m) := by
  intro pins s σ H x v vl vu lo hi sl Q I rx hs pl pu hq
  obtain ⟨w, h, a, S, ra, p⟩ := hq
  have lists : (do let xs ← rd (getL · a); mkL m (cut xs lo hi) : M PV) h = evSlice m a lo hi h → ∃ T id, typeLookup (.type T) "__getitem__" = pure (some (.builtin id)) ∧ s.TypeIs v T ∧ wpAny (model X.prog X.w) X.A (getItem v (.ref sl)) (EP X pins σ Q) X.xe s := fun e => by
    rw [← e] at p
    obtain ⟨xs, e1, p⟩ := p.rdB
    obtain ⟨l1, vs, rfl, h1, r1⟩ := getL_rel S ra e1
    obtain ⟨z, q⟩ := post_mkL S (cut_rel r1 lo hi) p
    exact sl_list pins s σ H _ v vl vu lo hi sl Q I rx hs pl pu ⟨l1, vs, rfl, .of h1, q⟩
  cases a with
  | str z =>
    cases ra
    simp only [evSlice] at p
    split at p
    · rename_i hz
      refine sl_str pins s σ H _ v vl vu lo hi sl Q I rx hs pl pu ⟨z, rfl, by rw [sizeLine_is]; exact hz, ?_⟩
      have q := p.pure S _ rfl
      have e : cutS z lo hi = ⟨(cut z.cps.toList lo hi).toArray⟩ := by
        unfold cutS cut
        have : z.cps.toList.length = z.length := by simp [Str.length]
        rw [this]
      rw [e]; exact q
    · exact p.elim
  | tup xs =>
    obtain ⟨l1, vs, rfl, h1, r1⟩ := ra
    have q : ∀ {w' H'}, Ext w H w' H' → Sim cn.K w' h H' → _ := fun {w' H'} e S => Post.ok (cn := cn) p (w' := w') (H' := H') e S
    refine sl_tupA pins s σ H _ v vl vu lo hi sl Q I rx hs pl pu ⟨l1, vs, rfl, by rw [hK]; exact h1, fun hw => ?_, fun _ t ht => ?_⟩
    · rw [← r1.len] at hw
      exact q (Ext.refl _ _) S (.ref l1) ⟨l1, vs, rfl, h1, by rw [cut_whole hw]; exact r1⟩
    · obtain ⟨E, S'⟩ := S.lay (o := .tup (cutV vs lo hi)) ht
      exact q E S' (.ref t) ⟨t, _, rfl, .inl (.inl upd_same), (cut_rel r1 lo hi).mono E⟩
  | scr _ => exact p.elim
  | non => exact lists rfl
  | bl _ => exact lists rfl
  | int _ => exact lists rfl
  | lst _ => exact lists rfl
  | loc _ => exact lists rfl
  | dct _ _ => exact lists rfl

/-! ### isinstance -/
def tyOf : Ty → String
  | .int => "int" | .bool => "bool" | .str => "str" | .tup => "tuple" | .lst => "list"
theorem inst_ok (hK : X.K = cn.K) {pins : List (Addr × Obj)} {s : Shared} {σ : L2.St} {us : List Value} {x : V} {a : PV} {t : Ty} {b : Bool} (I : Inv X pins σ H s) (r : Vals [x, .ty (tyOf t)] us) (S : Sim cn.K w h H) (ra : Rl cn.K w H a x) (e : evInst h a t = some b)
    (q : Q (.bl b) H) : wpAny (model X.prog X.w) X.A (call (.builtin "isinstance") us) (EP X pins σ Q) X.xe s := by
  have go : ∀ {T : String}, TyX X.K H x (.type T) → PySem.W.kitOne X.K (.type T) (.type (tyOf t)) = some b → wpAny (model X.prog X.w) X.A (call (.builtin "isinstance") us) (EP X pins σ Q) X.xe s := fun {T} ty k =>
    call_isi pins s σ H _ us Q I r ⟨x, .ty (tyOf t), _, _, b, rfl, .ty _, ty, k, q⟩
  have lists : (getL h a).map (fun _ => t == .lst) = some b → wpAny (model X.prog X.w) X.A (call (.builtin "isinstance") us) (EP X pins σ Q) X.xe s := fun e => by
    rw [Option.map_eq_some_iff] at e
    obtain ⟨xs, e1, rfl⟩ := e
    obtain ⟨l1, vs, rfl, h1, r1⟩ := getL_rel S ra e1
    exact go (.base (.lst h1)) (by cases t <;> exact kit_ty (by decide +kernel))
  cases a with
  | non => cases ra; simp only [evInst] at e; cases e; exact go (.base .non) (by cases t <;> exact kit_ty (by decide +kernel))
  | bl k => cases ra; simp only [evInst] at e; cases e; exact go (.base (.bl k)) (by cases t <;> exact kit_ty (by decide +kernel))
  | int k => cases ra; simp only [evInst] at e; cases e; exact go (.base (.int k)) (by cases t <;> exact kit_ty (by decide +kernel))
  | str k => cases ra; simp only [evInst] at e; cases e; exact go (.base (.str k)) (by cases t <;> exact kit_ty (by decide +kernel))
  | tup xs =>
    obtain ⟨l1, vs, rfl, h1, r1⟩ := ra
    simp only [evInst] at e; cases e
    rw [← hK] at h1
    rcases h1 with (h1 | ⟨o, h1⟩) | ⟨o, its, n, h1, h2, _⟩
    · exact go (.base (.tup h1)) (by cases t <;> exact kit_ty (by decide +kernel))
    · exact go (.fTuple h1) (by cases t <;> exact kit_ty (by decide +kernel))
    · exact go (.kTuple h1 h2) (by cases t <;> exact kit_ty (by decide +kernel))
  | dct ks xs =>
    obtain ⟨l1, kvs, rfl, h0, h1, _⟩ := ra
    simp only [evInst] at e; cases e
    exact go (.base (.dK h1)) (by cases t <;> exact kit_ty (by decide +kernel))
  | lst _ => exact lists e
  | loc _ => exact lists e
  | scr _ => simp [evInst] at e
end
end J

set_option autoImplicit false
set_option linter.all false
set_option maxRecDepth 100000
set_option maxHeartbeats 1000000
/-! JB4: built-ins and methods. -/
namespace J
open PySem PySem.Spec PyProof.Rows L2
section
variable {cn : Cn} {w w1 : Wd} {H H1 : Hp} {h : Hh} {EE : XK} {Q : VK} {X : Cx}
def rBi (cn : Cn) (EE : XK) (b : Bi) (m : Bool) : List V → Hp → VK → Prop := fun vs H Q => ∃ w h xs, Sim cn.K w h H ∧ Rls cn.K w H xs vs ∧ Post cn w H (evBi b m xs h) (VQ cn Q) EE
theorem one_arg {xs : List PV} {vs : List V} {b : Bi} {m : Bool} (r : Rls cn.K w H xs vs) (p : Post cn w H (evBi b m xs h) (VQ cn Q) EE) : ∃ x v, xs = [x] ∧ vs = [v] ∧ Rl cn.K w H x v := by
  match xs, r, p with
  | [], _, p => exact p.elim
  | [x], r, _ =>
    obtain ⟨v, vs', rfl, r1, r2⟩ := r
    cases r2
    exact ⟨x, v, rfl, rfl, r1⟩
  | _ :: _ :: _, _, p => exact p.elim
theorem maxI_spec : ∀ {ns : List Int} {k : Int}, maxI ns = some k → 0 < ns.length ∧ ∀ m, m ∈ ns → (∀ y, y ∈ ns → y ≤ m) → m = k := by
  intro ns k e
  cases ns with
  | nil => simp [maxI] at e
  | cons x xs =>
    simp only [maxI, Option.some.injEq] at e
    subst e
    refine ⟨by simp, fun m hm hle => ?_⟩
    have key : ∀ (l : List Int) (a : Int), (∀ y ∈ l, y ≤ l.foldl max a) ∧ a ≤ l.foldl max a ∧ (l.foldl max a = a ∨ l.foldl max a ∈ l) := by
      intro l
      induction l with
      | nil => intro a; simp
      | cons b l ih =>
        intro a
        obtain ⟨h1, h2, h3⟩ := ih (max a b)
        refine ⟨fun y hy => ?_, ?_, ?_⟩
        · rcases List.mem_cons.mp hy with rfl | hy
          · exact Int.le_trans (Int.le_max_right a y) h2
          · exact h1 y hy
        · exact Int.le_trans (Int.le_max_left a b) h2
        · simp only [List.foldl_cons]
          rcases h3 with h3 | h3
          · rw [h3]
            by_cases c : a ≤ b
            · right; rw [Int.max_eq_right c]; simp
            · left; rw [Int.max_eq_left (by omega)]
          · right; exact List.mem_cons_of_mem _ h3
    obtain ⟨h1, h2, h3⟩ := key xs x
    have hk : xs.foldl max x ∈ x :: xs := by
      rcases h3 with h3 | h3
      · rw [h3]; simp
      · exact List.mem_cons_of_mem _ h3
    have a1 := hle _ hk
    have a2 : m ≤ xs.foldl max x := by
      rcases List.mem_cons.mp hm with rfl | hm
      · exact h2
      · exact h1 m hm
    omega
theorem bi_len (hK : X.K = cn.K) (m : Bool) : CallR X (.builtin "len") (rBi cn EE .len m) := by
  intro pins s σ H vs us Q I r hq
  obtain ⟨w, h, xs, S, ra, p⟩ := hq
  obtain ⟨x, v, rfl, rfl, rx⟩ := one_arg ra p
  have seq : (do let xs ← rd (getS · x); pure (.int xs.length) : M PV) h = evBi .len m [x] h → wpAny (model X.prog X.w) X.A (call (.builtin "len") us) (EP X pins σ Q) X.xe s := fun e => by
    rw [← e] at p
    obtain ⟨ys, e1, p⟩ := p.rdB
    obtain ⟨l1, vs, rfl, h1, r1⟩ := getS_rel S rx e1
    have q := p.pure S _ rfl
    rw [r1.len, ] at q
    rw [← hK] at h1
    refine call_len pins s σ H _ us Q I r ⟨_, vs.length, rfl, ?_, q⟩
    rcases h1 with h1 | h1
    · exact .inl ⟨_, h1, rfl⟩
    · exact .inr ⟨_, h1, rfl⟩
  cases x with
  | str z =>
    cases rx
    simp only [evBi] at p
    split at p
    · rename_i hz
      exact call_len pins s σ H _ us Q I r ⟨.str z, z.length, rfl, ⟨by rw [sizeLine_is]; exact hz, rfl⟩, p.pure S _ rfl⟩
    · exact p.elim
  | _ => exact seq rfl
theorem bi_all (hK : X.K = cn.K) (hc : X.calm = true) (m : Bool) : CallR X (.builtin "all") (rBi cn EE .all m) := by
  intro pins s σ H vs us Q I r hq
  obtain ⟨w, h, xs, S, ra, p⟩ := hq
  obtain ⟨x, v, rfl, rfl, rx⟩ := one_arg ra p
  simp only [evBi] at p
  obtain ⟨ys, e1, p⟩ := p.rdB
  obtain ⟨bs, e2, p⟩ := p.optB
  obtain ⟨l1, vs, rfl, h1, r1⟩ := getL_rel S rx e1
  have e3 := bls_rel r1 e2
  subst e3
  exact cr_all hc pins s σ H _ us Q I r ⟨l1, bs, rfl, .of h1, p.pure S _ rfl⟩
theorem bi_any (hK : X.K = cn.K) (hc : X.calm = true) (m : Bool) : CallR X (.builtin "any") (rBi cn EE .any m) := by
  intro pins s σ H vs us Q I r hq
  obtain ⟨w, h, xs, S, ra, p⟩ := hq
  obtain ⟨x, v, rfl, rfl, rx⟩ := one_arg ra p
  simp only [evBi] at p
  obtain ⟨ys, e1, p⟩ := p.rdB
  obtain ⟨bs, e2, p⟩ := p.optB
  obtain ⟨l1, vs, rfl, h1, r1⟩ := getL_rel S rx e1
  have e3 := bls_rel r1 e2
  subst e3
  exact cr_any hc pins s σ H _ us Q I r ⟨l1, bs, rfl, .of h1, p.pure S _ rfl⟩
theorem bi_max (hK : X.K = cn.K) (hc : X.calm = true) (m : Bool) : CallR X (.builtin "max") (rBi cn EE .max1 m) := by
  intro pins s σ H vs us Q I r hq
  obtain ⟨w, h, xs, S, ra, p⟩ := hq
  obtain ⟨x, v, rfl, rfl, rx⟩ := one_arg ra p
  simp only [evBi] at p
  obtain ⟨ys, e1, p⟩ := p.rdB
  obtain ⟨ns, e2, p⟩ := p.optB
  obtain ⟨k, e4, p⟩ := p.optB
  obtain ⟨l1, vs, rfl, h1, r1⟩ := getL_rel S rx e1
  have e3 := ints_rel r1 e2
  subst e3
  obtain ⟨k1, k2⟩ := maxI_spec e4
  exact cr_max hc pins s σ H _ us Q I r ⟨l1, ns, rfl, .of h1, k1, fun m hm hle => by rw [k2 m hm hle]; exact p.pure S _ rfl⟩
theorem bi_abs (m : Bool) : CallR X (.builtin "abs") (rBi cn EE .abs m) := by
  intro pins s σ H vs us Q I r hq
  obtain ⟨w, h, xs, S, ra, p⟩ := hq
  obtain ⟨x, v, rfl, rfl, rx⟩ := one_arg ra p
  cases x with
  | int i => cases rx; exact call_abs pins s σ H _ us Q I r ⟨i, rfl, p.pure S _ rfl⟩
  | _ => exact p.elim
theorem bi_int (m : Bool) : CallR X (.type "int") (rBi cn EE .int m) := by
  intro pins s σ H vs us Q I r hq
  obtain ⟨w, h, xs, S, ra, p⟩ := hq
  obtain ⟨x, v, rfl, rfl, rx⟩ := one_arg ra p
  cases x with
  | int i => cases rx; exact call_int1 pins s σ H _ us Q I r (.inl ⟨i, rfl, p.pure S _ rfl⟩)
  | bl i => cases rx; exact call_int1 pins s σ H _ us Q I r (.inr ⟨i, rfl, p.pure S _ rfl⟩)
  | _ => exact p.elim
theorem bi_str (m : Bool) : CallR X (.type "str") (rBi cn EE .str m) := by
  intro pins s σ H vs us Q I r hq
  obtain ⟨w, h, xs, S, ra, p⟩ := hq
  obtain ⟨x, v, rfl, rfl, rx⟩ := one_arg ra p
  cases x with
  | int i =>
    cases rx
    simp only [evBi] at p
    split at p
    · rename_i hz
      exact call_str_int pins s σ H _ us Q I r ⟨i, rfl, hz, p.pure S _ rfl⟩
    · exact p.elim
  | _ => exact p.elim
theorem bi_list (hK : X.K = cn.K) (m : Bool) : CallR X (.type "list") (rBi cn EE .list m) := by
  intro pins s σ H vs us Q I r hq
  obtain ⟨w, h, xs, S, ra, p⟩ := hq
  obtain ⟨x, v, rfl, rfl, rx⟩ := one_arg ra p
  simp only [evBi] at p
  obtain ⟨ys, e1, p⟩ := p.rdB
  obtain ⟨l1, vs, rfl, h1, r1⟩ := getS_rel S rx e1
  obtain ⟨z, q⟩ := post_mkL S r1 p
  rw [← hK] at h1
  exact call_list_of pins s σ H _ us Q I r ⟨l1, vs, rfl, h1, q⟩
theorem bi_tuple (hK : X.K = cn.K) (m : Bool) : CallR X (.type "tuple") (rBi cn EE .tuple m) := by
  intro pins s σ H vs us Q I r hq
  obtain ⟨w, h, xs, S, ra, p⟩ := hq
  obtain ⟨x, v, rfl, rfl, rx⟩ := one_arg ra p
  simp only [evBi] at p
  obtain ⟨ys, e1, p⟩ := p.rdB
  obtain ⟨l1, vs, rfl, h1, r1⟩ := getS_rel S rx e1
  rw [← hK] at h1
  rcases h1 with h1 | h1
  · obtain ⟨z, q⟩ := post_mkT S r1 p
    exact call_tuple_of pins s σ H _ us Q I r ⟨l1, vs, rfl, .inl ⟨h1, q⟩⟩
  · unfold mkT at p
    split at p
    · exact call_tuple_of pins s σ H _ us Q I r ⟨l1, vs, rfl, .inr ⟨h1, p.pure S _ ⟨l1, vs, rfl, by rw [← hK]; exact h1, r1⟩⟩⟩
    · exact p.elim

/-! ### methods -/
def rMe (cn : Cn) (EE : XK) (k : Me) : V → List V → Hp → VK → Prop := fun u vs H Q => ∃ w h x xs, Sim cn.K w h H ∧ Rl cn.K w H x u ∧ Rls cn.K w H xs vs ∧ Post cn w H (evMe k x xs h) (VQ cn Q) EE
/-- a list of a place is written anew -/
theorem post_wr {a : PV} {u : V} {f : List PV → Option (PV × List PV)} {R : Wd → Hp → Hh → PV → Prop} (S : Sim cn.K w h H) (r : Rl cn.K w H a u) (p : Post cn w H (wrL a f h) R EE) :
    ∃ l vs xs v ys, u = .ref l ∧ H l = some (.lst vs) ∧ Rls cn.K w H xs vs ∧ f xs = some (v, ys) ∧ ys.length ≤ sizeL ∧
      ∀ us, (∀ H', Ext w H w H' → Rls cn.K w H' ys us) → ∃ h', Ext w H w (upd H l (.lst us)) ∧ R w (upd H l (.lst us)) h' v := by
  cases a with
  | loc n =>
    simp only [wrL, getL] at p
    split at p
    · rename_i xs he
      split at he
      · rename_i ys hc
        cases he
        obtain ⟨l, e1, h1⟩ := r
        obtain ⟨a', vs, k1, k2, k3, k4, k5⟩ := S.cells n _ hc
        rw [h1] at k1; cases k1
        split at p
        · rename_i v zs ef
          split at p
          · rename_i hz
            refine ⟨l, vs, xs, v, zs, e1, k4, k5, ef, hz, fun us hus => ?_⟩
            obtain ⟨E, S'⟩ := S.write (o := .lst us) (c := .lst zs) hc (by simp) h1 fun H' E' f1 f2 f3 f4 => ⟨l, us, f1, f2, f3, f4, hus H' E'⟩
            exact ⟨_, E, p.ok E S'⟩
          · exact p.elim
        · exact p.elim
      · cases he
    · exact p.elim
  | _ => exact p.elim
theorem me_append : MtR X "list.append" (rMe cn EE .append) := by
  intro pins s σ H x vs v us Q I rx rs hq
  obtain ⟨w, h, a, xs, S, ra, rvs, p⟩ := hq
  match xs, rvs, p with
  | [], _, p => exact p.elim
  | _ :: _ :: _, _, p => exact p.elim
  | [y], r, p =>
    obtain ⟨z, vs', rfl, r1, r2⟩ := r
    cases r2
    simp only [evMe] at p
    obtain ⟨l, ls, xs, v', ys, rfl, h1, h2, e, hz, k⟩ := post_wr S ra p
    cases e
    obtain ⟨h', E, q⟩ := k (ls ++ [z]) fun H' E => (h2.mono E).app ⟨z, [], rfl, r1.mono E, rfl⟩
    refine mt_append pins s σ H _ _ v us Q I rx rs ⟨l, ls, z, rfl, rfl, h1, ?_, q _ rfl⟩
    rw [sizeLine_is, ← h2.len]
    simp at hz; omega
theorem me_extend : MtR X "list.extend" (rMe cn EE .extend) := by
  intro pins s σ H x vs v us Q I rx rs hq
  obtain ⟨w, h, a, xs, S, ra, rvs, p⟩ := hq
  match xs, rvs, p with
  | [], _, p => exact p.elim
  | _ :: _ :: _, _, p => exact p.elim
  | [y], r, p =>
    obtain ⟨z, vs', rfl, r1, r2⟩ := r
    cases r2
    simp only [evMe] at p
    obtain ⟨zs, e1, p⟩ := p.rdB
    obtain ⟨l2, ls2, rfl, g1, g2⟩ := getL_rel S r1 e1
    obtain ⟨l, ls, xs, v', ys, rfl, h1, h2, e, hz, k⟩ := post_wr S ra p
    cases e
    obtain ⟨h', E, q⟩ := k (ls ++ ls2) fun H' E => (h2.mono E).app (g2.mono E)
    refine mt_extend pins s σ H _ _ v us Q I rx rs ⟨l, l2, ls, ls2, rfl, rfl, h1, g1, ?_, q _ rfl⟩
    rw [sizeLine_is, ← h2.len, ← g2.len]
    simpa using hz
theorem me_pop : MtR X "list.pop" (rMe cn EE .pop) := by
  intro pins s σ H x vs v us Q I rx rs hq
  obtain ⟨w, h, a, xs, S, ra, rvs, p⟩ := hq
  match xs, rvs, p with
  | _ :: _, _, p => exact p.elim
  | [], r, p =>
    cases r
    simp only [evMe] at p
    obtain ⟨l, ls, xs, v', ys, rfl, h1, h2, e, hz, k⟩ := post_wr S ra p
    split at e
    · cases e
    · rename_i y r er
      obtain ⟨rfl, rfl⟩ : y = v' ∧ r.reverse = ys := by simpa using e
      have er : xs = r.reverse ++ [y] := by rw [← List.reverse_reverse xs, er]; simp
      subst er
      have hl := h2.len
      simp at hl
      obtain ⟨u, e1, ru⟩ := h2.get (i := r.length) (x := y) (by simp)
      have ed : ls = ls.dropLast ++ [u] := by
        have hn : ls ≠ [] := fun z => by subst z; simp at hl
        rw [← List.dropLast_concat_getLast hn] at e1 ⊢
        simp only [List.dropLast_concat]
        have : ls.dropLast.length = r.length := by simp; omega
        rw [← this] at e1
        simp at e1
        rw [e1]
      have rd : Rls cn.K w H r.reverse ls.dropLast := by
        have := h2.take r.length
        rw [List.take_left' (by simp)] at this
        rwa [ed, List.take_left' (by simp; omega), ] at this
      obtain ⟨h', E, q⟩ := k ls.dropLast fun H' E => rd.mono E
      refine mt_pop pins s σ H _ _ v us Q I rx rs ⟨l, ls, u, rfl, rfl, h1, ?_, q _ (ru.mono E)⟩
      have : ls.length - 1 = r.length := by omega
      rw [this]; exact e1
theorem me_join (hK : X.K = cn.K) : MtR X "str.join" (rMe cn EE .join) := by
  intro pins s σ H x vs v us Q I rx rs hq
  obtain ⟨w, h, a, xs, S, ra, rvs, p⟩ := hq
  match xs, rvs, p with
  | [], _, p => exact p.elim
  | _ :: _ :: _, _, p => exact p.elim
  | [y], r, p =>
    obtain ⟨z, vs', rfl, r1, r2⟩ := r
    cases r2
    cases a with
    | str t =>
      cases ra
      simp only [evMe] at p
      obtain ⟨zs, e1, p⟩ := p.rdB
      obtain ⟨ts, e2, p⟩ := p.optB
      obtain ⟨l2, ls2, rfl, g1, g2⟩ := getS_rel S r1 e1
      have e3 := strs_rel g2 e2
      subst e3
      rw [← hK] at g1
      split at p
      · rename_i hz
        exact mt_join pins s σ H _ _ v us Q I rx rs ⟨t, l2, ts, rfl, rfl, g1, hz, p.pure S _ rfl⟩
      · exact p.elim
    | _ => exact p.elim
/-- xs[k] = v -/
def rSetJ (cn : Cn) (EE : XK) : V → V → V → Hp → (Hp → Prop) → Prop := fun o i u H Q => ∃ w h x k y, Sim cn.K w h H ∧ Rl cn.K w H x o ∧ i = .int k ∧ Rl cn.K w H y u ∧
  Post cn w H (wrL x (fun xs => (L2.ixN xs.length k).map fun j => (.non, xs.set j y)) h) (fun _ H' _ _ => Q H') EE
theorem set_J : PSet X (rSetJ cn EE) := by
  intro pins s σ H o i v ov iv u Q I ro ri rv hq
  obtain ⟨w, h, x, k, y, S, rx, rfl, ry, p⟩ := hq
  obtain ⟨l, ls, xs, v', ys, rfl, h1, h2, e, hz, kk⟩ := post_wr S rx p
  rw [Option.map_eq_some_iff] at e
  obtain ⟨j, e1, e2⟩ := e
  cases e2
  obtain ⟨h', E, q⟩ := kk (ls.set j v) fun H' E => (h2.mono E).set (ry.mono E) j
  exact set_list pins s σ H _ _ v ov iv u Q I ro ri rv ⟨l, ls, k, j, rfl, rfl, h1, by rw [← h2.len]; exact e1, q⟩
/-- xs[k] read for xs[k] op= .. -/
def rGetJ (cn : Cn) : V → V → Hp → VK → Prop := fun o i H Q => ∃ w h x k xs z, Sim cn.K w h H ∧ Rl cn.K w H x o ∧ i = .int k ∧ 0 ≤ k ∧ getL h x = some xs ∧ L2.atI xs k = some z ∧ ∀ v, Rl cn.K w H z v → Q v H
theorem get_J (hK : X.K = cn.K) : PGet X (rGetJ cn) := by
  intro pins s σ H o i ov iv Q I ro ri hq
  obtain ⟨w, h, x, k, xs, z, S, rx, rfl, h0, e1, e2, q⟩ := hq
  obtain ⟨l, ls, rfl, h1, h2⟩ := getL_rel S rx e1
  cases ro
  obtain ⟨t, rfl⟩ := ri
  obtain ⟨y, e3, ry⟩ := atI_rel h2 e2
  obtain ⟨its, r, pl, hz⟩ := I.list (xs := ls) (.of h1)
  obtain ⟨j, k1, k2, k3, k4, k5⟩ := atI_get e3
  obtain ⟨u, eu, ru⟩ := r.get k2
  have hl := r.length
  have hn := line63
  have hj : k.toNat = j := by
    rw [seqIndex_of h0 k5] at k1
    exact Option.some.inj k1
  exact wpAny_getItem_list pl.isList h0 (by omega) (by rw [hj]; simpa using eu) ⟨y, H, I, ru, q y ry⟩
end
end J

set_option autoImplicit false
set_option linter.all false
set_option maxRecDepth 100000
set_option maxHeartbeats 1000000
/-! JB5: that a tree of the small language is a tree of the text; the contexts; what is walked. -/
namespace J
open PySem PySem.Spec PyProof.Rows L2

structure SC where
  N : List Str
  sc : Scope
  st : Str → Bool
  fs : List (Nat × Str)
  gl : List (Str × PV)
  kw : List (Nat × Nat × List Str × List Nat)
def visB (sc : Scope) (x : Str) : Bool := match sc.names.lookup x with | some .local => true | some .cell => true | some .free => true | _ => false
def glB (sc : Scope) (x : Str) : Bool := decide (sc.names.lookup x = some .globalImplicit) && decide ((x == ("__debug__" : Str)) = false)
def glook (n : Str) : List (Str × PV) → Option PV
  | [] => none
  | (x, v) :: r => if x = n then some v else glook n r
def isStar : Expr → Bool
  | .Starred _ _ => true
  | _ => false
def isSl : Expr → Bool
  | .Slice _ _ _ _ => true
  | _ => false
/-- its test is its value's truth -/
def plainT : Expr → Bool
  | .UnaryOp .Not _ _ => false
  | .BoolOp _ _ _ => false
  | .IfExp _ _ _ _ => false
  | .Compare _ _ _ _ => false
  | _ => true
def isSetE : Expr → Bool
  | .Set _ _ _ => true
  | _ => false
def tgIx : Tg → List Nat
  | .name i => [i]
  | .nil => []
  | .cons t ts => tgIx t ++ tgIx ts
def gsIx : Gs → List Nat
  | .last t _ _ => tgIx t
  | .cons t _ _ g => tgIx t ++ gsIx g
def isTupE : Expr → Bool
  | .Tuple _ _ _ => true
  | _ => false
def isSuper : Expr → Bool
  | .Call (.Name _ _) [] [] _ => true
  | _ => false
def SC.blk (s : SC) (scope : Scope) : SC := { s with sc := L2.relS scope s.sc, st := fun x => match (L2.relS scope s.sc).names.lookup x with | some .local => true | some .cell => decide (scope.names.lookup x = some .cell) | _ => false }
def biId : Bi → Str
  | .len => "len" | .all => "all" | .any => "any" | .int => "int" | .abs => "abs" | .str => "str" | .max1 => "max" | .list => "list" | .tuple => "tuple" | .lenset => "len"
def meId : Me → Str
  | .append => "append" | .extend => "extend" | .join => "join" | .pop => "pop"
def tyId (t : Ty) : Str := Str.ofString (tyOf t)

mutual
def chTg (s : SC) : Tg → Expr → Bool
  | .name i, e => match e with
    | .Name x _ => decide (s.N[i]? = some x) && s.st x
    | _ => false
  | .nil, _ => false
  | .cons t ts, e => match e with
    | .Tuple es _ _ => chTgs s (.cons t ts) es
    | _ => false
def chTgs (s : SC) : Tg → List Expr → Bool
  | .nil, es => match es with
    | [] => true
    | _ => false
  | .cons t ts, es => match es with
    | e :: r => !isStar e && chTg s t e && chTgs s ts r
    | [] => false
  | .name _, _ => false
end

mutual
def chE (s : SC) : E → Expr → Bool
  | .var i, e => match e with
    | .Name x _ => decide (s.N[i]? = some x) && visB s.sc x && decide ((x == ("__debug__" : Str)) = false) && decide ((x == ("__classdict__" : Str)) = false)
    | _ => false
  | .glob n v, e => match e with
    | .Name x _ => decide (x = n) && glB s.sc x && (match glook n s.gl with | some v' => beqP v' v | none => false)
    | _ => false
  | .int i, e => match e with
    | .Constant (.int j) _ _ => decide (i = j)
    | _ => false
  | .str x, e => match e with
    | .Constant (.str y) _ _ => decide (x = y)
    | _ => false
  | .bl b, e => match e with
    | .Constant (.bool c) _ _ => b == c
    | _ => false
  | .non, e => match e with
    | .Constant .none _ _ => true
    | _ => false
  | .bin op _ a b, e => match e with
    | .BinOp l o r _ => decide (opOf op = o) && chE s a l && chE s b r
    | _ => false
  | .neg a, e => match e with
    | .UnaryOp .USub x _ => chE s a x
    | _ => false
  | .notv a, e => match e with
    | .UnaryOp .Not x _ => chE s a x
    | _ => false
  | .andv es, e => match e with
    | .BoolOp .And (x :: r) _ => chEs s es (x :: r)
    | _ => false
  | .orv es, e => match e with
    | .BoolOp .Or (x :: r) _ => chEs s es (x :: r)
    | _ => false
  | .cmp op a b, e => match e with
    | .Compare l [o] [r] _ => decide (cmpOf op = o) && !behindInMarks o r && chE s a l && chE s b r
    | _ => false
  | .chain o1 o2 a b d, e => match e with
    | .Compare l [p, q] [x, y] _ => decide (cmpOf o1 = p) && decide (cmpOf o2 = q) && !lastMarks [p, q] [x, y] && chE s a l && chE s b x && chE s d y
    | _ => false
  | .isN a, e => match e with
    | .Compare l [.Is] [.Constant .none _ _] _ => chE s a l
    | _ => false
  | .notN a, e => match e with
    | .Compare l [.IsNot] [.Constant .none _ _] _ => chE s a l
    | _ => false
  | .ite c a b, e => match e with
    | .IfExp t x y _ => chC s c t && chE s a x && chE s b y
    | _ => false
  | .tup es, e => match e with
    | .Tuple l _ _ => chEs s es l
    | _ => false
  | .list _ es, e => match e with
    | .List l _ => chEs s es l
    | _ => false
  | .idx a i, e => match e with
    | .Subscript x y _ => !isSl y && chE s a x && chE s i y
    | _ => false
  | .slice _ a lo hi, e => match e with
    | .Subscript x (.Slice l u none _) _ => chE s a x && chO s lo l && chO s hi u
    | _ => false
  | .call f es, e => match e with
    | .Call (.Name x _) (y :: l) [] _ => decide ((f, x) ∈ s.fs) && glB s.sc x && chEs s es (y :: l)
    | _ => false
  | .callK f ord es, e => match e with
    | .Call (.Name x _) [] kws _ => decide ((f, x) ∈ s.fs) && glB s.sc x && decide ((f, 0, kws.filterMap (·.arg), ord) ∈ s.kw) && decide (kws.length = ord.length) && kws.all (·.arg.isSome) && chEs s es (kws.map (·.value)) && !kws.isEmpty
    | _ => false
  | .bi b _ es, e => match b with
    | .lenset => match e with
      | .Call (.Name x _) [.Call (.Name y _) [z] [] _] [] _ => decide (x = "len") && decide (y = "set") && glB s.sc x && glB s.sc y && chEs s es [z]
      | _ => false
    | b => match e with
      | .Call (.Name x _) [z] [] _ => decide (x = biId b) && glB s.sc x && chEs s es [z]
      | _ => false
  | .inst a t, e => match e with
    | .Call (.Name x _) [z, .Name y _] [] _ => decide (x = "isinstance") && glB s.sc x && decide (y = tyId t) && glB s.sc y && chE s a z && !isStar z
    | _ => false
  | .me k o es, e => match e with
    | .Call (.Attribute x n ap) l [] p => decide (n = meId k) && !isSuper x && decide (ap.endLine = p.line) && chE s o x && chEs s es l && decide (l.length ≤ 1) && (match k with | .pop => l.isEmpty | _ => !l.isEmpty)
    | _ => false
  | .comp _ own elt gs, e => match e with
    | .ListComp x gens scope _ => L2.blkC s.N s.sc scope (own.filterMap fun i => (s.N[i]?).map fun n => (n, i)) && decide ((own.filterMap fun i => (s.N[i]?).map fun n => (n, i)).map (·.2) = own) && decide ((gsIx gs).Nodup) && decide (∀ i ∈ gsIx gs, i ∈ own) && chE (s.blk scope) elt x && chG s (s.blk scope) gs gens
    | _ => false
  | .fstr es, e => match e with
    | .JoinedStr (x :: y :: r) _ => chEs s es (x :: y :: r)
    | _ => false
  | .fmt a, e => match e with
    | .FormattedValue x (-1) none _ => chE s a x
    | _ => false
termination_by structural x => x
def chEs (s : SC) : Es → List Expr → Bool
  | .nil, l => match l with | [] => true | _ => false
  | .cons e es, l => match l with | x :: r => !isStar x && chE s e x && chEs s es r | [] => false
termination_by structural x => x
def chO (s : SC) : Oe → Option Expr → Bool
  | .none, l => match l with | none => true | _ => false
  | .some e, l => match l with | some x => chE s e x | none => false
termination_by structural x => x
def chC (s : SC) : C → Expr → Bool
  | .val a, e => match a with
    | .cmp op a b => match e with
      | .Compare l [o] [r] _ => decide (cmpOf op = o) && !behindInMarks o r && chE s a l && chE s b r
      | _ => false
    | .chain o1 o2 a b d => match e with
      | .Compare l [p, q] [x, y] _ => decide (cmpOf o1 = p) && decide (cmpOf o2 = q) && !lastMarks [p, q] [x, y] && chE s a l && chE s b x && chE s d y
      | _ => false
    | .isN a => match e with
      | .Compare l [.Is] [.Constant .none _ _] _ => chE s a l
      | _ => false
    | .notN a => match e with
      | .Compare l [.IsNot] [.Constant .none _ _] _ => chE s a l
      | _ => false
    | a => plainT e && chE s a e
  | .and cs, e => match e with
    | .BoolOp .And (x :: r) _ => chCs s cs (x :: r)
    | _ => false
  | .or cs, e => match e with
    | .BoolOp .Or (x :: r) _ => chCs s cs (x :: r)
    | _ => false
  | .not a, e => match e with
    | .UnaryOp .Not x _ => chC s a x
    | _ => false
termination_by structural x => x
def chCs (s : SC) : Cs → List Expr → Bool
  | .nil, l => match l with | [] => true | _ => false
  | .cons e es, l => match l with | x :: r => chC s e x && chCs s es r | [] => false
termination_by structural x => x
/-- tg: the target, which zip and enumerate want to be a tuple -/
def chI (s : SC) (tg : Expr) : It → Expr → Bool
  | .val a, e => chE s a e
  | .range1 a, e => match e with
    | .Call (.Name x _) [y] [] _ => decide (x = "range") && glB s.sc x && chE s a y && !isStar y
    | _ => false
  | .range2 a b, e => match e with
    | .Call (.Name x _) [y, z] [] _ => decide (x = "range") && glB s.sc x && chE s a y && chE s b z && !isStar y && !isStar z
    | _ => false
  | .enum a, e => match e with
    | .Call (.Name x _) [y] [] _ => decide (x = "enumerate") && glB s.sc x && chE s a y && !isStar y && isTupE tg
    | _ => false
  | .zip a b, e => match e with
    | .Call (.Name x _) [y, z] [] _ => decide (x = "zip") && glB s.sc x && chE s a y && chE s b z && !isStar y && !isStar z && isTupE tg
    | _ => false
termination_by structural x => x
/-- s: where the first clause's source is read; s': the block's own -/
def chG (s s' : SC) : Gs → List Comprehension → Bool
  | .last t i cs, l => match l with
    | [⟨tg, iter, ifs, 0⟩] => !isSetE iter && chTg s' t tg && chI s tg i iter && decide (ifs.length ≤ 1) && chCs s' cs ifs
    | _ => false
  | .cons t i cs g, l => match l with
    | ⟨tg, iter, ifs, 0⟩ :: r => !isSetE iter && chTg s' t tg && chI s tg i iter && decide (ifs.length ≤ 1) && chCs s' cs ifs && chG s' s' g r
    | _ => false
termination_by structural x => x
end
def isComp : Expr → Bool
  | .ListComp _ _ _ _ => true
  | .SetComp _ _ _ _ => true
  | .DictComp _ _ _ _ _ => true
  | _ => false
/-- a comprehension whose list is stored within its own frame -/
def swB (s : SC) (v : Expr) (x : Str) (px : Pos) : Bool := match v with
  | .ListComp _ _ scope pos => decide (s.sc.names.lookup x = some .local) && decide (px.line = pos.line) && !(scope.names.any fun (n, k) => n == x && (k == .local || k == .cell))
  | _ => false
def lineOk (v : Expr) (p : Pos) : Bool := match v with
  | .ListComp _ _ _ pos => decide (pos.line = p.line)
  | _ => true
def isTup : Expr → Bool
  | .Tuple _ _ _ => true
  | _ => false
mutual
def chS (s : SC) : S → Stmt → Bool
  | .expr a, st => match st with
    | .Expr x _ => !isComp x && chE s a x
    | _ => false
  | .set i a, st => match st with
    | .Assign [.Name x px] v p => decide (s.N[i]? = some x) && s.st x && chE s a v
    | _ => false
  | .asg t a, st => match st with
    | .Assign [tg] v _ => isTup tg && chTg s t tg && chE s a v && !isComp v && !isTup v
    | _ => false
  | .seti o i a, st => match st with
    | .Assign [.Subscript x y _] v _ => chE s o x && chE s i y && chE s a v && !isSl y && !isComp v && !isStar x
    | _ => false
  | .aug i op a, st => match st with
    | .AugAssign (.Name x _) o v _ => decide (s.N[i]? = some x) && s.st x && decide (opOf op = o) && chE s a v
    | _ => false
  | .augi o i op a, st => match st with
    | .AugAssign (.Subscript x y _) q v _ => chE s o x && chE s i y && chE s a v && !isSl y && decide (opOf op = q)
    | _ => false
  | .ite c a b, st => match st with
    | .If t x y _ => chC s c t && chSs s a x && chSs s b y
    | _ => false
  | .wh c b, st => match st with
    | .While t x [] _ => chC s c t && chSs s b x
    | _ => false
  | .for t i b, st => match st with
    | .For tg iter x [] _ => chTg s t tg && chI s tg i iter && chSs s b x && !isSetE iter
    | _ => false
  | .ret a, st => match st with
    | .Return (some x) _ => chE s a x
    | _ => false
  | .retN, st => match st with
    | .Return none _ => true
    | _ => false
  | .brk, st => match st with
    | .Break _ => true
    | _ => false
  | .cont, st => match st with
    | .Continue _ => true
    | _ => false
  | .pass, st => match st with
    | .Pass _ => true
    | _ => false
  | .never, _ => true
  | .raise _ _, _ => false
  | .frz _, _ => false
termination_by structural x => x
def chSs (s : SC) : Ss → List Stmt → Bool
  | .nil, l => match l with | [] => true | _ => false
  | .cons a ss, l => match a with
    | .frz _ => chSs s ss l
    | a => match l with
      | x :: r => chS s a x && chSs s ss r
      | [] => false
termination_by structural x => x
end
def noDefaults (a : Arguments) : Bool := a.posonlyargs.isEmpty && a.vararg.isNone && a.kwonlyargs.isEmpty && a.kw_defaults.isEmpty && a.kwarg.isNone && a.defaults.isEmpty
/-- a def of the text -/
def chD (fs : List (Nat × Str)) (gl : List (Str × PV)) (kw : List (Nat × Nat × List Str × List Nat)) (N : List Str) (d : Fd) (st : Stmt) : Bool := match st with
  | .FunctionDef name args body _ _ _ scope _ _ _ => decide (name = d.name) && noDefaults args && decide (args.args.map (·.arg) = N.take d.ps) && decide (N.length = d.slots) && decide (d.ps ≤ d.slots) &&
      C8.scC N (N.take d.ps) scope && chSs { N := N, sc := scope, st := fun x => match scope.names.lookup x with | some .local => true | some .cell => true | _ => false, fs := fs, gl := gl, kw := kw } d.body body
  | _ => false
end J

set_option autoImplicit false
set_option linter.all false
set_option maxRecDepth 100000
set_option maxHeartbeats 1000000
/-! JB6: contexts; what a turn of a walk gives. -/
namespace J
open PySem PySem.Spec PyProof.Rows L2

/-- what a def promises -/
def spJ (cn : Cn) (n : Nat) (run : List PV → M PV) : Sp := fun vs H Q E => vs.length = n ∧ ∃ w h xs, Sim cn.K w h H ∧ Rls cn.K w H xs vs ∧ Post cn w H (run xs h) (VQ cn Q) E
def pick {α : Type} (ord : List Nat) (xs : List α) : List α := ord.filterMap fun i => xs[i]?
/-- a def stands at its name and keeps its promise -/
structure CalJ (cn : Cn) (s : SC) (T : Nat → Option Fd) (fuel lvl : Nat) (X : Cx) (i : Nat) (d : Fd) : Prop where
  ex : ∃ (f : Addr) (fd : FuncData) (ps : List Str), FnOk X.prog X.w X.K X.mg X.base (L2.CX X.prog X.w) lvl f fd ps (spJ cn d.ps (callAt T fuel lvl i)) ∧ X.mg d.name = some (.ref f) ∧ PySem.W.keepIn X.K (.ref f) = true ∧
    Binds X.K fd ps [] ∧ ps.length = d.ps ∧ ∀ q ∈ s.kw, q.1 = i → ∀ (sh : Shared) (us : List Value), X.K.In sh.heap → us.length = q.2.2.1.length → BindsTo sh fd ⟨[], q.2.2.1.zip us⟩ (ps.zip (pick q.2.2.2 us))
structure XOk (cn : Cn) (s : SC) (T : Nat → Option Fd) (fuel lvl : Nat) (X : Cx) : Prop where
  K : X.K = cn.K
  N : X.N = s.N
  sc : X.env.scope = s.sc
  nd : s.N.Nodup
  calm : X.calm = true
  st : ∀ x, s.st x = true → Loc s.sc x ∧ (X.fn x = true ∨ X.env.scope.names.lookup x = some .local)
  room : Room lvl X.A
  pass : PassesOwn (model X.prog X.w) X.A X.env X.xe
  nm : ∀ q ∈ s.fs, ∃ d, T q.1 = some d ∧ d.name = q.2
  fn : ∀ (i : Nat) (d : Fd), T i = some d → CalJ cn s T fuel lvl X i d
  gl : ∀ n v, glook n s.gl = some v → ∃ (u : Value) (z : V), X.mg n = some u ∧ RelV z u ∧ ∀ w H, Rl cn.K w H v z
  bi : ∀ x : Str, x ∈ (["len", "all", "any", "int", "abs", "str", "max", "list", "tuple", "set", "isinstance", "bool", "range", "enumerate", "zip"] : List Str) → X.mg x = none
abbrev WxF : WX := fun _ _ _ _ => False
theorem takesF {X : Cx} : Takes X WxF := fun u s' ⟨_, _, _, _, _, _, _, _, _, _, _, _, _, _, _, _, w⟩ => w.elim

/-- a computation's reading -/
def tJ (cn : Cn) (Wx : WX) {α β : Type} (m : En → M α) (VR : Wd → Hp → α → β → Prop) : L2.St → Hp → (β → Hp → Prop) → Prop := fun σ H Q =>
  ∃ w h env, Sim cn.K w h H ∧ Re cn.K w H env σ ∧ Post cn w H (m env h) (fun w' H' _ a => ∀ v, VR w' H' a v → Q v H') (WE Wx σ)
def VE {α : Type} : Wd → Hp → α → α → Prop := fun _ _ a b => a = b
section
variable {cn : Cn} {s : SC} {T : Nat → Option Fd} {fuel lvl : Nat} {X : Cx} {Wx : WX} {w : Wd} {H : Hp} {h : Hh}
theorem PE_imp {e : Expr} {t t' : TE} (p : PE X e t) (k : ∀ σ H Q, t' σ H Q → t σ H Q) : PE X e t' := ⟨fun pins s σ H Q I q => p.run pins s σ H Q I (k σ H Q q)⟩
theorem PT_imp {e : Expr} {t t' : TT} (p : PT X e t) (k : ∀ σ H Q, t' σ H Q → t σ H Q) : PT X e t' := ⟨fun pins s σ H Q I q => p.run pins s σ H Q I (k σ H Q q)⟩
theorem PA_imp {e : List Expr} {t t' : TA} (p : PA X e t) (k : ∀ σ H Q, t' σ H Q → t σ H Q) : PA X e t' := ⟨fun pos pins s σ H Q I q => p.run pos pins s σ H Q I (k σ H Q q)⟩
theorem PG_imp {e : Expr} {t t' : TG} (p : PG X e t) (k : ∀ v σ H Q, t' v σ H Q → t v σ H Q) : PG X e t' := ⟨fun pins s σ H v u Q I r q => p.run pins s σ H v u Q I r (k v σ H Q q)⟩
theorem PS_imp {e : Stmt} {t t' : TS} (p : PS X e t) (k : ∀ D σ H, t' D σ H → t D σ H) : PS X e t' := ⟨fun pins s σ H D I q => p.run pins s σ H D I (k D σ H q)⟩
theorem PSs_imp {e : List Stmt} {t t' : TS} (p : PSs X e t) (k : ∀ D σ H, t' D σ H → t D σ H) : PSs X e t' := ⟨fun pins s σ H D I q => p.run pins s σ H D I (k D σ H q)⟩
/-- one computation ahead of another -/
theorem tJ_bind {α β γ : Type} {m : En → M α} {k : En → α → M β} {VR : Wd → Hp → β → γ → Prop} {σ : L2.St} {Q : γ → Hp → Prop}
    (p : tJ cn Wx (fun env => m env >>= k env) VR σ H Q) : ∃ w h env, Sim cn.K w h H ∧ Re cn.K w H env σ ∧ Post cn w H (m env h) (fun w' H' h' a => Post cn w' H' (k env a h') (fun w' H' _ b => ∀ v, VR w' H' b v → Q v H') (WE Wx σ)) (WE Wx σ) := by
  obtain ⟨w, h, env, S, R, p⟩ := p
  exact ⟨w, h, env, S, R, p.bind⟩

/-! ### what is walked -/
def IteT (K : PySem.W.Frag) (a : Addr) : L2.It :=
  ⟨fun i H => ∃ (xs : List V) (x : V), SqT K H a xs ∧ xs[i]? = some x, fun i H v H' => ∃ t x, v = .ref t ∧ H t = none ∧ H' = upd H t (.tup [.int (i : Nat), x]) ∧ ∀ xs, SqT K H a xs → xs[i]? = some x, fun i H => ∃ xs : List V, SqT K H a xs ∧ xs.length ≤ i⟩
def notTup : PV → Bool
  | .tup _ => false
  | _ => true
inductive SrcJ (cn : Cn) (w : Wd) (H : Hp) : Src → L2.It → Prop where
  | lst {v : PV} {a : Addr} (h : Rl cn.K w H v (.ref a)) (n : notTup v = true) : SrcJ cn w H (.seq v) (Itl cn.K a)
  | tup {xs : List PV} {a : Addr} (h : Rl cn.K w H (.tup xs) (.ref a)) : SrcJ cn w H (.seq (.tup xs)) (Itt cn.K a)
  | str (z : Str) : SrcJ cn w H (.seq (.str z)) (Its z)
  | rng (lo : Int) (n : Nat) : SrcJ cn w H (.range lo n) (Itr lo n)
  | enum {v : PV} {a : Addr} (h : Rl cn.K w H v (.ref a)) (n : notTup v = true) : SrcJ cn w H (.enum v) (Ite cn.K a)
  | enumT {xs : List PV} {a : Addr} (h : Rl cn.K w H (.tup xs) (.ref a)) : SrcJ cn w H (.enum (.tup xs)) (IteT cn.K a)
  | zip {u v : PV} {a b : Addr} (h : Rl cn.K w H u (.ref a)) (n : notTup u = true) (h' : Rl cn.K w H v (.ref b)) (n' : notTup v = true) : SrcJ cn w H (.zip u v) (Itz cn.K a b)
  | zipT {xs ys : List PV} {a b : Addr} (h : Rl cn.K w H (.tup xs) (.ref a)) (h' : Rl cn.K w H (.tup ys) (.ref b)) : SrcJ cn w H (.zip (.tup xs) (.tup ys)) (RZ.ItzT cn.K a b)
theorem SrcJ.mono {w' : Wd} {H' : Hp} (e : Ext w H w' H') {src : Src} {J : L2.It} (x : SrcJ cn w H src J) : SrcJ cn w' H' src J := by
  cases x with
  | lst h n => exact .lst (h.mono e) n
  | tup h => exact .tup (h.mono e)
  | str z => exact .str z
  | rng lo n => exact .rng lo n
  | enum h n => exact .enum (h.mono e) n
  | enumT h => exact .enumT (h.mono e)
  | zip h n h' n' => exact .zip (h.mono e) n (h'.mono e) n'
  | zipT h h' => exact .zipT (h.mono e) (h'.mono e)
theorem getS_not {x : PV} {a : Addr} {xs : List PV} (S : Sim cn.K w h H) (r : Rl cn.K w H x (.ref a)) (n : notTup x = true) (e : getS h x = some xs) : ∃ vs, SqL cn.K H a vs ∧ Rls cn.K w H xs vs := by
  cases x with
  | tup _ => simp [notTup] at n
  | scr ys =>
    simp only [getS] at e; cases e
    obtain ⟨a', vs, e1, h1, h2⟩ := r
    cases e1
    exact ⟨vs, h1.sq, h2⟩
  | lst ys =>
    obtain ⟨a', vs, e1, h1, h2⟩ := getL_rel S r e
    cases e1
    exact ⟨vs, .of h1, h2⟩
  | loc m =>
    obtain ⟨a', vs, e1, h1, h2⟩ := getL_rel S r e
    cases e1
    exact ⟨vs, .of h1, h2⟩
  | dct ks vs => simp [getS, getL] at e
  | _ => cases r
theorem getS_tup {ys : List PV} {a : Addr} {xs : List PV} (r : Rl cn.K w H (.tup ys) (.ref a)) (e : getS h (.tup ys) = some xs) : ∃ vs, SqT cn.K H a vs ∧ Rls cn.K w H xs vs := by
  simp only [getS] at e; cases e
  obtain ⟨a', vs, e1, h1, h2⟩ := r
  cases e1
  exact ⟨vs, h1, h2⟩
theorem Rls.none_of {xs : List PV} {vs : List V} {i : Nat} (r : Rls cn.K w H xs vs) (e : xs[i]? = none) : vs.length ≤ i := by
  have := List.getElem?_eq_none_iff.mp e
  rw [← r.len]; exact this
/-- at the end -/
theorem SrcJ.stop {src : Src} {J : L2.It} (x : SrcJ cn w H src J) (S : Sim cn.K w h H) {i : Nat} (e : item h src i = some none) : J.stop i H := by
  cases x with
  | lst r n =>
    rename_i v a
    have e : (getS h v).map (fun xs => xs[i]?) = some none := by
      cases v <;> first | exact e | cases r
    obtain ⟨xs, e1, e2⟩ := Option.map_eq_some_iff.mp e
    obtain ⟨vs, h1, h2⟩ := getS_not S r n e1
    exact ⟨vs, h1, h2.none_of e2⟩
  | tup r =>
    obtain ⟨xs, e1, e2⟩ := Option.map_eq_some_iff.mp (show (getS h (.tup _)).map (fun xs => xs[i]?) = some none from e)
    obtain ⟨vs, h1, h2⟩ := getS_tup (h := h) r e1
    exact ⟨vs, h1, h2.none_of e2⟩
  | str z =>
    simp only [item] at e
    split at e
    · have e' := Option.some.inj e
      rw [Option.map_eq_none_iff, List.getElem?_eq_none_iff] at e'
      show z.cps.size ≤ i
      simpa using e'
    · cases e
  | rng lo n =>
    simp only [item] at e
    split at e
    · cases e
    · show n ≤ i
      omega
  | enum r n =>
    simp only [item] at e
    obtain ⟨xs, e1, e2⟩ := Option.map_eq_some_iff.mp e
    rw [Option.map_eq_none_iff] at e2
    obtain ⟨vs, h1, h2⟩ := getS_not S r n e1
    exact ⟨vs, h1, h2.none_of e2⟩
  | enumT r =>
    simp only [item] at e
    obtain ⟨xs, e1, e2⟩ := Option.map_eq_some_iff.mp e
    rw [Option.map_eq_none_iff] at e2
    obtain ⟨vs, h1, h2⟩ := getS_tup (h := h) r e1
    exact ⟨vs, h1, h2.none_of e2⟩
  | zip r n r' n' =>
    simp only [item] at e
    obtain ⟨xs, e1, e⟩ := Option.bind_eq_some_iff.mp e
    obtain ⟨ys, e2, e⟩ := Option.map_eq_some_iff.mp e
    obtain ⟨vs, h1, h2⟩ := getS_not S r n e1
    obtain ⟨us, k1, k2⟩ := getS_not S r' n' e2
    refine ⟨vs, us, h1, k1, ?_⟩
    cases ex : xs[i]? with
    | none => exact .inl (h2.none_of ex)
    | some x =>
      rw [ex] at e
      simp only [Option.bind_some, Option.map_eq_none_iff] at e
      exact .inr (k2.none_of e)
  | zipT r r' =>
    simp only [item] at e
    obtain ⟨xs, e1, e⟩ := Option.bind_eq_some_iff.mp e
    obtain ⟨ys, e2, e⟩ := Option.map_eq_some_iff.mp e
    obtain ⟨vs, h1, h2⟩ := getS_tup (h := h) r e1
    obtain ⟨us, k1, k2⟩ := getS_tup (h := h) r' e2
    refine ⟨vs, us, h1, k1, ?_⟩
    cases ex : xs[i]? with
    | none => exact .inl (h2.none_of ex)
    | some x =>
      rw [ex] at e
      simp only [Option.bind_some, Option.map_eq_none_iff] at e
      exact .inr (k2.none_of e)
/-- a turn -/
theorem SrcJ.go {src : Src} {J : L2.It} (x : SrcJ cn w H src J) (S : Sim cn.K w h H) {i : Nat} {y : PV} (e : item h src i = some (some y)) :
    J.go i H ∧ ∀ u H', J.yld i H u H' → Ext w H w H' ∧ Sim cn.K w h H' ∧ Rl cn.K w H' y u := by
  have pair : ∀ {t : Addr} {p q : PV} {v u : V}, H t = none → Rl cn.K w H p v → Rl cn.K w H q u → Ext w H w (upd H t (.tup [v, u])) ∧ Sim cn.K w h (upd H t (.tup [v, u])) ∧ Rl cn.K w (upd H t (.tup [v, u])) (.tup [p, q]) (.ref t) := fun {t p q v u} ht r1 r2 => by
    obtain ⟨E, S'⟩ := S.lay (o := .tup [v, u]) ht
    exact ⟨E, S', t, [v, u], rfl, .inl (.inl upd_same), v, [u], rfl, r1.mono E, u, [], rfl, r2.mono E, rfl⟩
  cases x with
  | lst r n =>
    rename_i v a
    have e : (getS h v).map (fun xs => xs[i]?) = some (some y) := by
      cases v <;> first | exact e | cases r
    obtain ⟨xs, e1, e2⟩ := Option.map_eq_some_iff.mp e
    obtain ⟨vs, h1, h2⟩ := getS_not S r n e1
    obtain ⟨z, e3, r3⟩ := h2.get e2
    refine ⟨⟨vs, z, h1, e3⟩, fun u H' hy => ?_⟩
    obtain ⟨rfl, hy⟩ := hy
    have := hy vs h1
    rw [e3] at this; cases this
    exact ⟨Ext.refl _ _, S, r3⟩
  | tup r =>
    obtain ⟨xs, e1, e2⟩ := Option.map_eq_some_iff.mp (show (getS h (.tup _)).map (fun xs => xs[i]?) = some (some y) from e)
    obtain ⟨vs, h1, h2⟩ := getS_tup (h := h) r e1
    obtain ⟨z, e3, r3⟩ := h2.get e2
    refine ⟨⟨vs, z, h1, e3⟩, fun u H' hy => ?_⟩
    obtain ⟨rfl, hy⟩ := hy
    have := hy vs h1
    rw [e3] at this; cases this
    exact ⟨Ext.refl _ _, S, r3⟩
  | str z =>
    simp only [item] at e
    split at e
    · have e' := Option.some.inj e
      obtain ⟨c, e2, rfl⟩ := Option.map_eq_some_iff.mp e'
      have hi : i < z.cps.size := by simpa using (List.getElem?_eq_some_iff.mp e2).1
      refine ⟨hi, fun u H' hy => ?_⟩
      obtain ⟨rfl, c', hc, rfl⟩ := hy
      have : z.cps[i]? = some c := by simpa using e2
      rw [this] at hc; cases hc
      exact ⟨Ext.refl _ _, S, rfl⟩
    · cases e
  | rng lo n =>
    simp only [item] at e
    split at e
    · rename_i hi
      cases e
      refine ⟨hi, fun u H' hy => ?_⟩
      obtain ⟨rfl, rfl⟩ := hy
      exact ⟨Ext.refl _ _, S, rfl⟩
    · cases e
  | enum r n =>
    simp only [item] at e
    obtain ⟨xs, e1, e2⟩ := Option.map_eq_some_iff.mp e
    obtain ⟨x, e9, rfl⟩ := Option.map_eq_some_iff.mp e2
    obtain ⟨vs, h1, h2⟩ := getS_not S r n e1
    obtain ⟨z, e3, r3⟩ := h2.get e9
    refine ⟨⟨vs, z, h1, e3⟩, fun u H' hy => ?_⟩
    obtain ⟨t, z', rfl, ht, rfl, hy⟩ := hy
    have := hy vs h1
    rw [e3] at this; cases this
    exact pair ht rfl r3
  | enumT r =>
    simp only [item] at e
    obtain ⟨xs, e1, e2⟩ := Option.map_eq_some_iff.mp e
    obtain ⟨x, e9, rfl⟩ := Option.map_eq_some_iff.mp e2
    obtain ⟨vs, h1, h2⟩ := getS_tup (h := h) r e1
    obtain ⟨z, e3, r3⟩ := h2.get e9
    refine ⟨⟨vs, z, h1, e3⟩, fun u H' hy => ?_⟩
    obtain ⟨t, z', rfl, ht, rfl, hy⟩ := hy
    have := hy vs h1
    rw [e3] at this; cases this
    exact pair ht rfl r3
  | zip r n r' n' =>
    simp only [item] at e
    obtain ⟨xs, e1, e⟩ := Option.bind_eq_some_iff.mp e
    obtain ⟨ys, e2, e⟩ := Option.map_eq_some_iff.mp e
    obtain ⟨vs, h1, h2⟩ := getS_not S r n e1
    obtain ⟨us, k1, k2⟩ := getS_not S r' n' e2
    obtain ⟨p, e3, e⟩ := Option.bind_eq_some_iff.mp e
    obtain ⟨q, e4, rfl⟩ := Option.map_eq_some_iff.mp e
    obtain ⟨z, e5, r5⟩ := h2.get e3
    obtain ⟨z', e6, r6⟩ := k2.get e4
    refine ⟨⟨vs, us, z, z', h1, k1, e5, e6⟩, fun u H' hy => ?_⟩
    obtain ⟨t, c, d, rfl, ht, rfl, hc, hd⟩ := hy
    have f1 := hc vs h1
    have f2 := hd us k1
    rw [e5] at f1; cases f1
    rw [e6] at f2; cases f2
    exact pair ht r5 r6
  | zipT r r' =>
    simp only [item] at e
    obtain ⟨xs, e1, e⟩ := Option.bind_eq_some_iff.mp e
    obtain ⟨ys, e2, e⟩ := Option.map_eq_some_iff.mp e
    obtain ⟨vs, h1, h2⟩ := getS_tup (h := h) r e1
    obtain ⟨us, k1, k2⟩ := getS_tup (h := h) r' e2
    obtain ⟨p, e3, e⟩ := Option.bind_eq_some_iff.mp e
    obtain ⟨q, e4, rfl⟩ := Option.map_eq_some_iff.mp e
    obtain ⟨z, e5, r5⟩ := h2.get e3
    obtain ⟨z', e6, r6⟩ := k2.get e4
    refine ⟨⟨vs, us, z, z', h1, k1, e5, e6⟩, fun u H' hy => ?_⟩
    obtain ⟨t, c, d, rfl, ht, rfl, hc, hd⟩ := hy
    have f1 := hc vs h1
    have f2 := hd us k1
    rw [e5] at f1; cases f1
    rw [e6] at f2; cases f2
    exact pair ht r5 r6
end
end J

set_option autoImplicit false
set_option linter.all false
set_option maxRecDepth 100000
set_option maxHeartbeats 1000000
/-! JB7: each form of expression: its reading out of its parts'. -/
namespace J
open PySem PySem.Spec PyProof.Rows L2
def vR (cn : Cn) : Wd → Hp → PV → V → Prop := fun w H x v => Rl cn.K w H x v
def vsR (cn : Cn) : Wd → Hp → List PV → List V → Prop := fun w H x v => Rls cn.K w H x v
def srR (cn : Cn) : Wd → Hp → Src → L2.It → Prop := fun w H x v => SrcJ cn w H x v
section
variable {cn : Cn} {X : Cx} {Wx : WX} {α β γ δ : Type}
theorem PE_at {e : Expr} {t : TE} (k : ∀ σ H Q, t σ H Q → ∃ t', PE X e t' ∧ t' σ H Q) : PE X e t := ⟨fun pins s σ H Q I q => let ⟨_, p, q'⟩ := k σ H Q q; p.run pins s σ H Q I q'⟩
theorem PT_at {e : Expr} {t : TT} (k : ∀ σ H Q, t σ H Q → ∃ t', PT X e t' ∧ t' σ H Q) : PT X e t := ⟨fun pins s σ H Q I q => let ⟨_, p, q'⟩ := k σ H Q q; p.run pins s σ H Q I q'⟩
theorem PI_at {tg e : Expr} {t : TI} (k : ∀ σ H Q, t σ H Q → ∃ t', PI X tg e t' ∧ t' σ H Q) : PI X tg e t := ⟨fun pins s σ H Q I q => let ⟨_, p, q'⟩ := k σ H Q q; p.run pins s σ H Q I q'⟩
theorem PW_imp {e : Expr} {t t' : TT} (p : PW X e t) (k : ∀ σ H Q, t' σ H Q → t σ H Q) : PW X e t' := ⟨fun wh pins s σ H Q I q => p.run wh pins s σ H Q I (k σ H Q q)⟩
theorem PO_imp {e : Option Expr} {t t' : TO} (p : PO X e t) (k : ∀ σ H Q, t' σ H Q → t σ H Q) : PO X e t' := ⟨fun pins s σ H Q I q => p.run pins s σ H Q I (k σ H Q q)⟩
/-- one part read, the rest to come -/
theorem tJ_seq {m : En → M α} {k : En → α → M β} {VR : Wd → Hp → α → γ → Prop} {VR2 : Wd → Hp → β → δ → Prop} {σ : L2.St} {H : Hp} {Q : δ → Hp → Prop} {Q' : γ → Hp → Prop}
    (p : tJ cn Wx (fun env => m env >>= k env) VR2 σ H Q)
    (g : ∀ w H1 h env a v, Sim cn.K w h H1 → Re cn.K w H1 env σ → VR w H1 a v → Post cn w H1 (k env a h) (fun w' H' _ b => ∀ v, VR2 w' H' b v → Q v H') (WE Wx σ) → Q' v H1) : tJ cn Wx m VR σ H Q' := by
  obtain ⟨w, h, env, S, R, p⟩ := p
  exact ⟨w, h, env, S, R, p.bind.imp fun w' H' h' a E S' p' v r => g w' H' h' env a v S' (R.mono E) r p'⟩
theorem tJ_cast {m m' : En → M α} {VR : Wd → Hp → α → γ → Prop} (e : m = m') {σ : L2.St} {H : Hp} {Q : γ → Hp → Prop} (p : tJ cn Wx m VR σ H Q) : tJ cn Wx m' VR σ H Q := e ▸ p
variable {f g k : En → M PV} {a b d : Expr} {pos : Pos}
abbrev tV (cn : Cn) (Wx : WX) (m : En → M PV) : TE := tJ cn Wx m (vR cn)
abbrev tVs (cn : Cn) (Wx : WX) (m : En → M (List PV)) : TA := tJ cn Wx m (vsR cn)
abbrev tBo (cn : Cn) (Wx : WX) (m : En → M Bool) : TT := tJ cn Wx m VE
abbrev tOi (cn : Cn) (Wx : WX) (m : En → M (Option Int)) : TO := tJ cn Wx m VE
abbrev tSr (cn : Cn) (Wx : WX) (m : En → M Src) : TI := tJ cn Wx m (srR cn)

theorem j_var {i : Nat} {x : Str} (hN : X.N[i]? = some x) (hv : Vis X.env.scope x) (hd : (x == ("__debug__" : Str)) = false) (hcd : (x == ("__classdict__" : Str)) = false) :
    PE X (.Name x pos) (tV cn Wx fun env => match env[i]? with | some (some v) => pure v | _ => bad) :=
  PE_imp (pe_var hN hv hd hcd) fun σ H Q ⟨w, h, env, S, R, p⟩ => by
    have p : Post cn w H ((match env[i]? with | some (some v) => pure v | _ => bad : M PV) h) (fun w' H' _ a => ∀ v, vR cn w' H' a v → Q v H') (WE Wx σ) := p
    cases e : env[i]? with
    | none => rw [e] at p; exact False.elim p
    | some o =>
      rw [e] at p
      cases o with
      | none => exact False.elim p
      | some y =>
        obtain ⟨v, e2, r⟩ := R.2 i y e
        exact ⟨v, e2, Post.pure S p v r⟩
theorem j_glob {x : Str} {v : PV} {z : V} {u : Value} (hg : Gl X x) (hm : X.mg x = some u) (r : RelV z u) (hR : ∀ w H, Rl cn.K w H v z) (hd : (x == ("__debug__" : Str)) = false) : PE X (.Name x pos) (tV cn Wx fun _ => pure v) :=
  PE_imp (pe_glob hg hm r hd) fun σ H Q ⟨w, h, env, S, R, p⟩ => p.pure S z (hR w H)
theorem j_const {e : Expr} {v : PV} {z : V} (p : PE X e (tC z)) (hR : ∀ w H, Rl cn.K w H v z) : PE X e (tV cn Wx fun _ => pure v) :=
  PE_imp p fun σ H Q ⟨w, h, env, S, R, p⟩ => p.pure S z (hR w H)
theorem j_bin (hK : X.K = cn.K) (op : Op2) (m : Bool) (ha : PE X a (tV cn Wx f)) (hb : PE X b (tV cn Wx g)) :
    PE X (.BinOp a (opOf op) b pos) (tV cn Wx fun env => f env >>= fun x => g env >>= fun y => evBin op m x y) :=
  PE_at fun σ H Q q => ⟨_, pe_op (op_bin (EE := WE Wx σ) hK op m) ha hb, tJ_seq q fun w H1 h env x v S R ra p1 =>
    ⟨w, h, env, S, R, p1.bind.imp fun w2 H2 h2 y E S2 p2 u rb => ⟨w2, h2, x, y, S2, ra.mono E, rb, p2⟩⟩⟩
theorem j_neg (ha : PE X a (tV cn Wx f)) : PE X (.UnaryOp .USub a pos) (tV cn Wx fun env => f env >>= fun x => match x with | .int i => pure (.int (-i)) | _ => bad) :=
  PE_imp (pe_un un_neg ha) fun σ H Q q => tJ_seq q fun w H1 h env x v S R ra p1 => by
    cases x with
    | int i => cases ra; exact ⟨i, rfl, p1.pure S _ rfl⟩
    | _ => exact p1.elim
theorem j_notv (hK : X.K = cn.K) (ha : PE X a (tV cn Wx f)) : PE X (.UnaryOp .Not a pos) (tV cn Wx fun env => f env >>= fun x => rd (truth · x) >>= fun b => pure (.bl (!b))) :=
  PE_imp (pe_notT ha) fun σ H Q q => tJ_seq q fun w H1 h env x v S R ra p1 => by
    obtain ⟨b, e, p2⟩ := p1.rdB
    exact ⟨b, by rw [hK]; exact truth_rel S ra e, p2.pure S _ rfl⟩
theorem j_cmp (hK : X.K = cn.K) (hu : X.A.units + 64 < cLine) (op : Cmp) (ha : PE X a (tV cn Wx f)) (hb : PE X b (tV cn Wx g)) (hm : behindInMarks (cmpOf op) b = false) :
    PE X (.Compare a [cmpOf op] [b] pos) (tV cn Wx fun env => f env >>= fun x => g env >>= fun y => rd (evCmp op x y) >>= fun r => pure (.bl r)) :=
  PE_imp (pe_cmpR (op_cmp hK hu op) ha hb hm) fun σ H Q q => tJ_seq q fun w H1 h env x v S R ra p1 =>
    ⟨w, h, env, S, R, p1.bind.imp fun w2 H2 h2 y E S2 p2 u rb => by
      obtain ⟨r, e, p3⟩ := p2.rdB
      exact ⟨w2, h2, x, y, r, S2, ra.mono E, rb, e, p3.pure S2 _ rfl⟩⟩
theorem truth_bl {b k : Bool} {h : Hh} (e : truth h (.bl b) = some k) : k = b := (Option.some.inj e).symm
theorem jt_cmp (hK : X.K = cn.K) (hu : X.A.units + 64 < cLine) (op : Cmp) (ha : PE X a (tV cn Wx f)) (hb : PE X b (tV cn Wx g)) (hm : behindInMarks (cmpOf op) b = false) :
    PT X (.Compare a [cmpOf op] [b] pos) (tBo cn Wx fun env => (f env >>= fun x => g env >>= fun y => rd (evCmp op x y) >>= fun r => pure (.bl r)) >>= fun x => rd (truth · x)) :=
  PT_imp (pt_cmpR (op_cmp hK hu op) ha hb hm) fun σ H Q ⟨w, h, env, S, R, p⟩ =>
    ⟨w, h, env, S, R, p.bind.bind.imp fun w1 H1 h1 x E1 S1 p1 v ra => ⟨w1, h1, env, S1, R.mono E1, p1.bind.imp fun w2 H2 h2 y E S2 p2 u rb => by
      obtain ⟨r, e, p3⟩ := p2.rdB
      obtain ⟨k, e4, p4⟩ := (p3.pure S2).rd S2
      cases truth_bl e4
      exact ⟨w2, h2, x, y, r, S2, ra.mono E, rb, e, r, rfl, p4 _ rfl⟩⟩⟩
theorem j_chain (hK : X.K = cn.K) (hu : X.A.units + 64 < cLine) (o1 o2 : Cmp) (ha : PE X a (tV cn Wx f)) (hb : PE X b (tV cn Wx g)) (hd : PE X d (tV cn Wx k)) (hm : lastMarks [cmpOf o1, cmpOf o2] [b, d] = false) :
    PE X (.Compare a [cmpOf o1, cmpOf o2] [b, d] pos) (tV cn Wx fun env => f env >>= fun x => g env >>= fun y => rd (evCmp o1 x y) >>= fun r => if r then (k env >>= fun z => rd (evCmp o2 y z) >>= fun q => pure (.bl q)) else pure (.bl false)) :=
  PE_imp (pe_chain (op_cmp hK hu o1) (op_cmp hK hu o2) ha hb hd hm) fun σ H Q q => tJ_seq q fun w H1 h env x v S R ra p1 =>
    ⟨w, h, env, S, R, p1.bind.imp fun w2 H2 h2 y E S2 p2 u rb => by
      obtain ⟨r, e, p3⟩ := p2.rdB
      refine ⟨w2, h2, x, y, r, S2, ra.mono E, rb, e, r, rfl, ?_⟩
      cases r with
      | true =>
        rw [if_pos rfl] at p3 ⊢
        exact ⟨w2, h2, env, S2, R.mono E, p3.bind.imp fun w3 H3 h3 z E3 S3 p4 t rc => by
          obtain ⟨q, e2, p5⟩ := p4.rdB
          exact ⟨w3, h3, y, z, q, S3, rb.mono E3, rc, e2, p5.pure S3 _ rfl⟩⟩
      | false =>
        rw [if_neg (by decide)] at p3 ⊢
        exact p3.pure S2 _ rfl⟩
theorem jt_chain (hK : X.K = cn.K) (hu : X.A.units + 64 < cLine) (o1 o2 : Cmp) (ha : PE X a (tV cn Wx f)) (hb : PE X b (tV cn Wx g)) (hd : PE X d (tV cn Wx k)) (hm : lastMarks [cmpOf o1, cmpOf o2] [b, d] = false) :
    PT X (.Compare a [cmpOf o1, cmpOf o2] [b, d] pos) (tBo cn Wx fun env => (f env >>= fun x => g env >>= fun y => rd (evCmp o1 x y) >>= fun r => if r then (k env >>= fun z => rd (evCmp o2 y z) >>= fun q => pure (.bl q)) else pure (.bl false)) >>= fun x => rd (truth · x)) :=
  PT_imp (pt_chain (op_cmp hK hu o1) (op_cmp hK hu o2) ha hb hd hm) fun σ H Q ⟨w, h, env, S, R, p⟩ =>
    ⟨w, h, env, S, R, p.bind.bind.imp fun w1 H1 h1 x E1 S1 p1 v ra => ⟨w1, h1, env, S1, R.mono E1, p1.bind.imp fun w2 H2 h2 y E S2 p2 u rb => by
      obtain ⟨r, e, p3⟩ := p2.rdB
      refine ⟨w2, h2, x, y, r, S2, ra.mono E, rb, e, r, rfl, ?_⟩
      cases r with
      | true =>
        rw [if_pos rfl] at p3 ⊢
        exact ⟨w2, h2, env, S2, (R.mono E1).mono E, p3.bind.imp fun w3 H3 h3 z E3 S3 p4 t rc => by
          obtain ⟨q, e2, p5⟩ := p4.rdB
          obtain ⟨k, e4, p6⟩ := (p5.pure S3).rd S3
          cases truth_bl e4
          exact ⟨w3, h3, y, z, q, S3, rb.mono E3, rc, e2, q, rfl, p6 _ rfl⟩⟩
      | false =>
        rw [if_neg (by decide)] at p3 ⊢
        obtain ⟨k, e4, p6⟩ := (p3.pure S2).rd S2
        cases truth_bl e4
        exact ⟨false, rfl, p6 _ rfl⟩⟩⟩
def isNon : PV → Bool
  | .non => true
  | _ => false
theorem isNon_rel {w : Wd} {H : Hp} {x : PV} {v : V} (r : Rl cn.K w H x v) : decide (v = .non) = isNon x := by
  cases x with
  | non => cases r; rfl
  | bl _ => cases r; rfl
  | int _ => cases r; rfl
  | str _ => cases r; rfl
  | tup _ => obtain ⟨a, vs, rfl, _⟩ := r; rfl
  | lst _ => obtain ⟨a, vs, rfl, _⟩ := r; rfl
  | scr _ => obtain ⟨a, vs, rfl, _⟩ := r; rfl
  | loc _ => obtain ⟨a, rfl, _⟩ := r; rfl
  | dct _ _ => obtain ⟨a, vs, rfl, _⟩ := r; rfl
theorem j_isN {j : Nat} {p2 : Pos} (ha : PE X a (tV cn Wx f)) : PE X (.Compare a [.Is] [.Constant .none j p2] pos) (tV cn Wx fun env => f env >>= fun x => pure (.bl (isNon x))) :=
  PE_imp (pe_cmp (pc_isN ha) rfl) fun σ H Q q => tJ_seq q fun w H1 h env x v S R ra p1 => by
    rw [isNon_rel ra]; exact p1.pure S _ rfl
theorem j_notN {j : Nat} {p2 : Pos} (ha : PE X a (tV cn Wx f)) : PE X (.Compare a [.IsNot] [.Constant .none j p2] pos) (tV cn Wx fun env => f env >>= fun x => pure (.bl (!isNon x))) :=
  PE_imp (pe_cmp (pc_notN ha) rfl) fun σ H Q q => tJ_seq q fun w H1 h env x v S R ra p1 => by
    rw [isNon_rel ra]; exact p1.pure S _ rfl
theorem jt_isN {j : Nat} {p2 : Pos} (ha : PE X a (tV cn Wx f)) : PT X (.Compare a [.Is] [.Constant .none j p2] pos) (tBo cn Wx fun env => (f env >>= fun x => pure (.bl (isNon x))) >>= fun x => rd (truth · x)) :=
  PT_imp (pt_cmp (pc_isN ha) rfl) fun σ H Q ⟨w, h, env, S, R, p⟩ => ⟨w, h, env, S, R, p.bind.bind.imp fun w1 H1 h1 x E1 S1 p1 v ra => by
    obtain ⟨k, e4, p6⟩ := (p1.pure S1).rd S1
    cases truth_bl e4
    rw [isNon_rel ra]; exact ⟨_, rfl, p6 _ rfl⟩⟩
theorem jt_notN {j : Nat} {p2 : Pos} (ha : PE X a (tV cn Wx f)) : PT X (.Compare a [.IsNot] [.Constant .none j p2] pos) (tBo cn Wx fun env => (f env >>= fun x => pure (.bl (!isNon x))) >>= fun x => rd (truth · x)) :=
  PT_imp (pt_cmp (pc_notN ha) rfl) fun σ H Q ⟨w, h, env, S, R, p⟩ => ⟨w, h, env, S, R, p.bind.bind.imp fun w1 H1 h1 x E1 S1 p1 v ra => by
    obtain ⟨k, e4, p6⟩ := (p1.pure S1).rd S1
    cases truth_bl e4
    rw [isNon_rel ra]; exact ⟨_, rfl, p6 _ rfl⟩⟩
theorem plainT_is {e : Expr} (h : plainT e = true) (env : Env) (whole : Sem Value) : isTrue e env whole = (do let v ← whole; standAt e.pos; holding [v] (truthy v)) := by
  cases e <;> first | rfl | (simp [plainT] at h; done) | skip
  rename_i op _ _
  cases op <;> first | rfl | (simp [plainT] at h; done)
theorem jt_truth (hK : X.K = cn.K) (ha : PE X a (tV cn Wx f)) (hp : plainT a = true) : PT X a (tBo cn Wx fun env => f env >>= fun x => rd (truth · x)) :=
  PT_imp (pt_truth ha (plainT_is hp _)) fun σ H Q q => tJ_seq q fun w H1 h env x v S R ra p1 => by
    obtain ⟨k, e, p2⟩ := p1.rd S
    exact ⟨k, by rw [hK]; exact truth_rel S ra e, p2 _ rfl⟩
variable {t u : En → M Bool}
theorem jt_not (ha : PT X a (tBo cn Wx t)) : PT X (.UnaryOp .Not a pos) (tBo cn Wx fun env => t env >>= fun r => pure (!r)) :=
  PT_imp (pt_not ha) fun σ H Q q => tJ_seq q fun w H1 h env x v S R ra p1 => by
    cases ra; exact p1.pure S _ rfl
theorem jw_and1 (ha : PT X a (tBo cn Wx t)) : PW X (.BoolOp .And [a] pos) (tBo cn Wx fun env => t env >>= fun r => if r then pure true else pure false) :=
  PW_imp (pw_and1 ha) fun σ H Q q => tJ_seq q fun w H1 h env x v S R ra p1 => by
    cases ra
    cases x with
    | true => exact p1.pure S _ rfl
    | false => exact p1.pure S _ rfl
theorem jw_or1 (ha : PT X a (tBo cn Wx t)) : PW X (.BoolOp .Or [a] pos) (tBo cn Wx fun env => t env >>= fun r => if r then pure true else pure false) :=
  PW_imp (pw_or1 ha) fun σ H Q q => tJ_seq q fun w H1 h env x v S R ra p1 => by
    cases ra
    cases x with
    | true => exact p1.pure S _ rfl
    | false => exact p1.pure S _ rfl
theorem jw_and {r : List Expr} (ha : PT X a (tBo cn Wx t)) (hb : PW X (.BoolOp .And (b :: r) pos) (tBo cn Wx u)) : PW X (.BoolOp .And (a :: b :: r) pos) (tBo cn Wx fun env => t env >>= fun r => if r then u env else pure false) :=
  PW_imp (pw_and ha hb) fun σ H Q q => tJ_seq q fun w H1 h env x v S R ra p1 => by
    cases ra
    cases x with
    | true => exact ⟨w, h, env, S, R, p1⟩
    | false => exact p1.pure S _ rfl
theorem jw_or {r : List Expr} (ha : PT X a (tBo cn Wx t)) (hb : PW X (.BoolOp .Or (b :: r) pos) (tBo cn Wx u)) : PW X (.BoolOp .Or (a :: b :: r) pos) (tBo cn Wx fun env => t env >>= fun r => if r then pure true else u env) :=
  PW_imp (pw_or ha hb) fun σ H Q q => tJ_seq q fun w H1 h env x v S R ra p1 => by
    cases ra
    cases x with
    | true => exact p1.pure S _ rfl
    | false => exact ⟨w, h, env, S, R, p1⟩
theorem j_one {op : BoolOp} (ha : PE X a (tV cn Wx f)) : PE X (.BoolOp op [a] pos) (tV cn Wx fun env => f env >>= fun x => pure x) :=
  PE_imp (pe_one ha) fun σ H Q q => tJ_seq q fun w H1 h env x v S R ra p1 => p1.pure S _ ra
theorem j_and {r : List Expr} (ha : PE X a (tV cn Wx f)) (hb : PE X (.BoolOp .And (b :: r) pos) (tV cn Wx g)) :
    PE X (.BoolOp .And (a :: b :: r) pos) (tV cn Wx fun env => f env >>= fun x => match x with | .bl true => g env | .bl false => pure (.bl false) | _ => bad) :=
  PE_imp (pe_and ha hb) fun σ H Q q => tJ_seq q fun w H1 h env x v S R ra p1 => by
    cases x with
    | bl k =>
      cases ra
      cases k with
      | true => exact ⟨true, rfl, w, h, env, S, R, p1⟩
      | false => exact ⟨false, rfl, p1.pure S _ rfl⟩
    | _ => exact p1.elim
theorem j_or {r : List Expr} (ha : PE X a (tV cn Wx f)) (hb : PE X (.BoolOp .Or (b :: r) pos) (tV cn Wx g)) :
    PE X (.BoolOp .Or (a :: b :: r) pos) (tV cn Wx fun env => f env >>= fun x => match x with | .bl false => g env | .bl true => pure (.bl true) | _ => bad) :=
  PE_imp (pe_or ha hb) fun σ H Q q => tJ_seq q fun w H1 h env x v S R ra p1 => by
    cases x with
    | bl k =>
      cases ra
      cases k with
      | true => exact ⟨true, rfl, p1.pure S _ rfl⟩
      | false => exact ⟨false, rfl, w, h, env, S, R, p1⟩
    | _ => exact p1.elim
theorem j_ite {c : Expr} (hc : PT X c (tBo cn Wx t)) (ha : PE X a (tV cn Wx f)) (hb : PE X b (tV cn Wx g)) : PE X (.IfExp c a b pos) (tV cn Wx fun env => t env >>= fun r => if r then f env else g env) :=
  PE_imp (pe_ifExp hc ha hb) fun σ H Q q => tJ_seq q fun w H1 h env x v S R ra p1 => by
    cases ra
    cases x with
    | true => exact ⟨w, h, env, S, R, p1⟩
    | false => exact ⟨w, h, env, S, R, p1⟩

/-! ### lists of expressions -/
theorem star_cons {e : Expr} {es : List Expr} (h : isStar e = false) (env : Env) : starEach (e :: es) env = (false, eval e env) :: starEach es env := by
  cases e <;> first | rfl | (simp [isStar] at h; done)
theorem star_none {es : List Expr} (h : ∀ e ∈ es, isStar e = false) (env : Env) (pos : Pos) : (backTo pos (starEach es env)).any (·.1) = false := by
  induction es with
  | nil => rfl
  | cons e es ih =>
    rw [star_cons (h e (by simp))]
    show (false || (backTo pos (starEach es env)).any (·.1)) = false
    rw [ih fun x hx => h x (by simp [hx])]; rfl
theorem star_all {es : List Expr} (h : ∀ e ∈ es, isStar e = false) (env : Env) (pos : Pos) : (backTo pos (starEach es env)).all (fun x => !x.1) = true := by
  induction es with
  | nil => rfl
  | cons e es ih =>
    rw [star_cons (h e (by simp))]
    show (true && (backTo pos (starEach es env)).all (fun x => !x.1)) = true
    rw [ih fun x hx => h x (by simp [hx])]; rfl
variable {fs gs : En → M (List PV)} {es : List Expr}
theorem ja_nil : PA X [] (tVs cn Wx fun _ => pure []) := PA_imp pa_nil fun σ H Q ⟨w, h, env, S, R, p⟩ => p.pure S _ rfl
theorem ja_cons (ha : PE X a (tV cn Wx f)) (hr : PA X es (tVs cn Wx fs)) (hs : isStar a = false) : PA X (a :: es) (tVs cn Wx fun env => f env >>= fun x => fs env >>= fun xs => pure (x :: xs)) :=
  PA_imp (pa_cons ha hr (star_cons hs _)) fun σ H Q q => tJ_seq q fun w H1 h env x v S R ra p1 =>
    ⟨w, h, env, S, R, p1.bind.imp fun w2 H2 h2 y E S2 p2 us rs => p2.pure S2 _ ⟨v, us, rfl, ra.mono E, rs⟩⟩
theorem j_tup {k : Nat} (ha : PA X es (tVs cn Wx fs)) : PE X (.Tuple es k pos) (tV cn Wx fun env => fs env >>= fun xs => mkT xs) :=
  PE_imp (pe_tup ha) fun σ H Q q => tJ_seq q fun w H1 h env xs vs S R ra p1 => post_mkT S ra p1
theorem j_lst (m : Bool) (ha : PA X es (tVs cn Wx fs)) : PE X (.List es pos) (tV cn Wx fun env => fs env >>= fun xs => mkL m xs) :=
  PE_imp (pe_lst ha) fun σ H Q q => tJ_seq q fun w H1 h env xs vs S R ra p1 => post_mkL S ra p1
theorem j_idx (hK : X.K = cn.K) (ha : PE X a (tV cn Wx f)) (hb : PE X b (tV cn Wx g)) (hs : isSl b = false) : PE X (.Subscript a b pos) (tV cn Wx fun env => f env >>= fun x => g env >>= fun i => rd (evIdx · x i)) :=
  PE_imp (pe_ix (ix_J hK) ha hb (by intro o i; cases b <;> first | rfl | (simp [isSl] at hs; done))) fun σ H Q q => tJ_seq q fun w H1 h env x v S R ra p1 =>
    ⟨w, h, env, S, R, p1.bind.imp fun w2 H2 h2 y E S2 p2 u rb => by
      obtain ⟨z, e, p3⟩ := p2.rd S2
      exact ⟨w2, h2, x, y, z, S2, ra.mono E, rb, e, p3⟩⟩
variable {lo hi : Option Expr} {fl fh : En → M (Option Int)}
theorem jo_none : PO X none (tOi cn Wx fun _ => pure none) := PO_imp po_none fun σ H Q ⟨w, h, env, S, R, p⟩ => p.pure S _ rfl
theorem jo_some (ha : PE X a (tV cn Wx f)) : PO X (some a) (tOi cn Wx fun env => f env >>= fun x => match x with | .int i => pure (some i) | _ => bad) :=
  PO_imp (po_some ha) fun σ H Q q => tJ_seq q fun w H1 h env x v S R ra p1 => by
    cases x with
    | int i => cases ra; exact ⟨i, rfl, p1.pure S _ rfl⟩
    | _ => exact p1.elim
theorem j_slice {p2 : Pos} (hK : X.K = cn.K) (m : Bool) (ha : PE X a (tV cn Wx f)) (hl : PO X lo (tOi cn Wx fl)) (hh : PO X hi (tOi cn Wx fh)) :
    PE X (.Subscript a (.Slice lo hi none p2) pos) (tV cn Wx fun env => f env >>= fun x => fl env >>= fun l => fh env >>= fun u => evSlice m x l u) :=
  PE_at fun σ H Q q => ⟨_, pe_slice (sl_J (EE := WE Wx σ) hK m) ha hl hh, tJ_seq q fun w H1 h env x v S R ra p1 =>
    ⟨w, h, env, S, R, p1.bind.imp fun w2 H2 h2 l E S2 p2 l' rl => by
      cases rl
      exact ⟨w2, h2, env, S2, R.mono E, p2.bind.imp fun w3 H3 h3 u E3 S3 p3 u' ru => by
        cases ru
        exact ⟨w3, h3, x, S3, (ra.mono E).mono E3, p3⟩⟩⟩⟩
theorem j_fmt (ha : PE X a (tV cn Wx f)) : PE X (.FormattedValue a (-1) none pos) (tV cn Wx fun env => f env >>= fun x => match x with
      | .str y => if y.length ≤ sizeL then pure (.str y) else bad
      | .int i => if i.natAbs.log2 < 1920 then pure (.str (toString i)) else bad
      | _ => bad) :=
  PE_imp (pe_fmt ha) fun σ H Q q => tJ_seq q fun w H1 h env x v S R ra p1 => by
    cases x with
    | int i =>
      cases ra
      simp only at p1
      split at p1
      · rename_i hz
        exact .inr ⟨i, rfl, hz, p1.pure S _ rfl⟩
      · exact p1.elim
    | str i =>
      cases ra
      simp only at p1
      split at p1
      · rename_i hz
        exact .inl ⟨i, rfl, by rw [sizeLine_is]; exact hz, p1.pure S _ rfl⟩
      · exact p1.elim
    | _ => exact p1.elim
/-- the parts of an f-string -/
inductive FJ (cn : Cn) (X : Cx) (Wx : WX) : List Expr → (En → Str → M Str) → Prop where
  | nil : FJ cn X Wx [] fun _ acc => pure acc
  | cons {e : Expr} {es : List Expr} {f : En → M PV} {fs : En → Str → M Str} (h : PE X e (tV cn Wx f)) (r : FJ cn X Wx es fs) : FJ cn X Wx (e :: es) fun env acc => f env >>= fun x => match x with
      | .str y => if acc.length + y.length ≤ sizeL then fs env (acc ++ y) else bad
      | _ => bad
theorem FJ.go {es : List Expr} {fs : En → Str → M Str} (j : FJ cn X Wx es fs) : ∃ ts, PJ X es ts ∧ ∀ (acc : Str) (σ : L2.St) (H : Hp) (Q : Str → Hp → Prop), tJ cn Wx (fun env => fs env acc) VE σ H Q → tJs ts acc σ H Q := by
  induction j with
  | nil => exact ⟨[], .nil, fun acc σ H Q ⟨w, h, env, S, R, p⟩ => p.pure S _ rfl⟩
  | cons h r ih =>
    obtain ⟨ts, hp, ih⟩ := ih
    refine ⟨_, .cons h hp, fun acc σ H Q q => tJ_seq q fun w H1 h env x v S R ra p1 => ?_⟩
    cases x with
    | str y =>
      cases ra
      simp only at p1
      split at p1
      · rename_i hz
        refine ⟨y, rfl, ?_, ih _ _ _ _ ⟨w, h, env, S, R, p1⟩⟩
        rw [sizeLine_is]
        show (acc.cps ++ y.cps).size ≤ _
        rw [Array.size_append]; exact hz
      · exact p1.elim
    | _ => exact p1.elim
theorem j_fstr {e1 e2 : Expr} {r : List Expr} {fs : En → Str → M Str} (j : FJ cn X Wx (e1 :: e2 :: r) fs) : PE X (.JoinedStr (e1 :: e2 :: r) pos) (tV cn Wx fun env => fs env Str.empty >>= fun z => pure (.str z)) :=
  let ⟨ts, hp, go⟩ := j.go
  PE_imp (pe_joined hp) fun σ H Q q => go _ _ _ _ (tJ_seq q fun w H1 h env x v S R ra p1 => by cases ra; exact p1.pure S _ rfl)
end
end J

set_option autoImplicit false
set_option linter.all false
set_option maxRecDepth 100000
set_option maxHeartbeats 1000000
/-! JB8: calls, methods, what is walked, what is stored to. -/
namespace J
open PySem PySem.Spec PyProof.Rows L2
section
variable {cn : Cn} {s : SC} {T : Nat → Option Fd} {fuel lvl : Nat} {X : Cx} {Wx : WX} {α β : Type}
theorem bind_ok {m : M α} {k : α → M β} {h h' : Hh} {a : α} (e : m h = .ok a h') : (m >>= k) h = k a h' := by
  show M.bind m k h = _
  simp only [M.bind, e]
theorem bind_exc {m : M α} {k : α → M β} {h h' : Hh} {c : Nat} {v : PV} (e : m h = .exc c v h') : (m >>= k) h = .exc c v h' := by
  show M.bind m k h = _
  simp only [M.bind, e]
theorem bind_bad {m : M α} {k : α → M β} {h : Hh} (e : m h = .bad) : (m >>= k) h = .bad := by
  show M.bind m k h = _
  simp only [M.bind, e]
theorem glB_gl (ok : XOk cn s T fuel lvl X) {x : Str} (h : glB s.sc x = true) : Gl X x ∧ (x == ("__debug__" : Str)) = false := by
  simp only [glB, Bool.and_eq_true, decide_eq_true_eq] at h
  exact ⟨by show X.env.scope.names.lookup x = _; rw [ok.sc]; exact h.1, h.2⟩
theorem hu_of (ok : XOk cn s T fuel lvl X) : X.A.units + 64 < cLine := by have := ok.room.un; omega

/-! ### own calls -/
variable {f g : En → M PV} {fs : En → M (List PV)} {a b : Expr} {es : List Expr} {p pos : Pos}
theorem callAt_len {i : Nat} {d : Fd} (hd : T i = some d) {xs : List PV} {w : Wd} {H : Hp} {h : Hh} {R : Wd → Hp → Hh → PV → Prop} {EE : XK} (q : Post cn w H (callAt T fuel lvl i xs h) R EE) : xs.length = d.ps := by
  cases lvl with
  | zero => exact q.elim
  | succ k =>
    unfold callAt at q
    rw [hd] at q
    simp only [evDef] at q
    split at q
    · assumption
    · exact q.elim
theorem own_at (ok : XOk cn s T fuel lvl X) {i : Nat} {x : Str} (hx : (i, x) ∈ s.fs) : ∃ d, T i = some d ∧ d.name = x := ok.nm _ hx
theorem j_call (ok : XOk cn s T fuel lvl X) (tk : Takes X Wx) {i : Nat} {x : Str} (hx : (i, x) ∈ s.fs) (hg : glB s.sc x = true) (ha : PA X (a :: es) (tVs cn Wx fs)) (st : ∀ e ∈ a :: es, isStar e = false) :
    PE X (.Call (.Name x p) (a :: es) [] pos) (tV cn Wx fun env => fs env >>= fun xs => callAt T fuel lvl i xs) := by
  obtain ⟨d, hd, rfl⟩ := own_at ok hx
  obtain ⟨fa, fd, ps, F, hm, hk, hb, hl, _⟩ := (ok.fn i d hd).ex
  obtain ⟨hg, hdb⟩ := glB_gl ok hg
  refine PE_imp (pe_callS F ok.room hg hm hk hb (fun σ => passAt tk σ) ha hdb (star_cons (st _ (by simp)) _) (star_none (fun e he => st e (by simp [he])) _ _)) fun σ H Q q => tJ_seq q fun w H1 h env xs vs S R ra p1 => ?_
  exact ⟨by rw [← ra.len]; exact callAt_len hd p1, w, h, xs, S, ra, p1⟩
theorem kw_all {kws : List Keyword} (h : kws.all (·.arg.isSome) = true) (env : Env) (pos : Pos) : (backToKw pos (keywordEach kws env)).all (·.1.isSome) = true := by
  induction kws with
  | nil => rfl
  | cons k r ih =>
    obtain ⟨n, v, q⟩ := k
    simp only [List.all_cons, Bool.and_eq_true] at h
    show (n.isSome && (backToKw pos (keywordEach r env)).all (·.1.isSome)) = true
    rw [show n.isSome = true from h.1, ih h.2]; rfl
theorem kw_none {kws : List Keyword} (h : kws.all (·.arg.isSome) = true) (env : Env) (pos : Pos) : (backToKw pos (keywordEach kws env)).any (·.1.isNone) = false := by
  induction kws with
  | nil => rfl
  | cons k r ih =>
    obtain ⟨n, v, q⟩ := k
    simp only [List.all_cons, Bool.and_eq_true] at h
    show (n.isNone || (backToKw pos (keywordEach r env)).any (·.1.isNone)) = false
    have h1 : n.isSome = true := h.1
    cases n with
    | none => cases h1
    | some _ => rw [ih h.2]; rfl
theorem kw_names {kws : List Keyword} (env : Env) (pos : Pos) : (backToKw pos (keywordEach kws env)).filterMap (·.1) = kws.filterMap (·.arg) := by
  induction kws with
  | nil => rfl
  | cons k r ih =>
    obtain ⟨n, v, q⟩ := k
    show ((n, _) :: backToKw pos (keywordEach r env)).filterMap (·.1) = _
    simp only [List.filterMap_cons]
    rw [ih]
theorem kw_len {kws : List Keyword} (h : kws.all (·.arg.isSome) = true) : (kws.filterMap (·.arg)).length = kws.length := by
  induction kws with
  | nil => rfl
  | cons k r ih =>
    simp only [List.all_cons, Bool.and_eq_true] at h
    cases e : k.arg with
    | none => rw [e] at h; cases h.1
    | some n => simp [List.filterMap_cons, e, ih h.2]
theorem jk_nil : PK X [] (tVs cn Wx fun _ => pure []) := ⟨fun pos pins s σ H Q I ⟨w, h, env, S, R, p⟩ => pk_nil.run pos pins s σ H Q I (p.pure S _ rfl)⟩
theorem jk_cons {k : Keyword} {kws : List Keyword} (ha : PE X k.value (tV cn Wx f)) (hr : PK X kws (tVs cn Wx fs)) : PK X (k :: kws) (tVs cn Wx fun env => f env >>= fun x => fs env >>= fun xs => pure (x :: xs)) := by
  obtain ⟨n, v, q⟩ := k
  refine ⟨fun pos pins s σ H Q I q => (pk_cons ha hr).run pos pins s σ H Q I (tJ_seq q fun w H1 h env x v S R ra p1 => ?_)⟩
  exact ⟨w, h, env, S, R, p1.bind.imp fun w2 H2 h2 y E S2 p2 us rs => p2.pure S2 _ ⟨v, us, rfl, ra.mono E, rs⟩⟩
theorem mapM_pick {ord : List Nat} {xs ys : List PV} (e : ord.mapM (fun i => xs[i]?) = some ys) {w : Wd} {H : Hp} {vs : List V} (r : Rls cn.K w H xs vs) : ∃ us, ord.mapM (fun i => vs[i]?) = some us ∧ Rls cn.K w H ys us := by
  induction ord generalizing ys with
  | nil => simp at e; subst e; exact ⟨[], by simp, rfl⟩
  | cons i ord ih =>
    simp only [List.mapM_cons, Option.bind_eq_bind, Option.bind_eq_some_iff, Option.pure_def, Option.some.injEq] at e
    obtain ⟨x, e1, zs, e2, rfl⟩ := e
    obtain ⟨v, e3, r3⟩ := r.get e1
    obtain ⟨us, e4, r4⟩ := ih e2
    exact ⟨v :: us, by simp [List.mapM_cons, e3, e4], v, us, rfl, r3, r4⟩
theorem vals_pick {ord : List Nat} {vs zs : List V} {us : List Value} (r : Vals vs us) (e : ord.mapM (fun i => vs[i]?) = some zs) : Vals zs (pick ord us) := by
  induction ord generalizing zs with
  | nil => simp at e; subst e; exact .nil
  | cons i ord ih =>
    simp only [List.mapM_cons, Option.bind_eq_bind, Option.bind_eq_some_iff, Option.pure_def, Option.some.injEq] at e
    obtain ⟨x, e1, zs', e2, rfl⟩ := e
    obtain ⟨u, e3, r3⟩ := r.get e1
    have : pick (i :: ord) us = u :: pick ord us := by simp [pick, List.filterMap_cons, e3]
    rw [this]
    exact .cons r3 (ih e2)
theorem j_callK (ok : XOk cn s T fuel lvl X) (tk : Takes X Wx) {i n0 : Nat} {x : Str} {kws : List Keyword} {ord : List Nat} (hx : (i, x) ∈ s.fs) (hg : glB s.sc x = true) (hq : (i, n0, kws.filterMap (·.arg), ord) ∈ s.kw) (hkw : kws.all (·.arg.isSome) = true) (hlk : kws.length = ord.length) (ha : PK X kws (tVs cn Wx fs)) :
    PE X (.Call (.Name x p) [] kws pos) (tV cn Wx fun env => fs env >>= fun xs => opt (if xs.length = ord.length then ord.mapM fun i => xs[i]? else none) >>= fun ys => callAt T fuel lvl i ys) := by
  obtain ⟨d, hd, rfl⟩ := own_at ok hx
  obtain ⟨fa, fd, ps, F, hm, hk, hb, hl, hkb⟩ := (ok.fn i d hd).ex
  obtain ⟨hg, hdb⟩ := glB_gl ok hg
  refine ⟨fun pins sh σ H Q I q => ?_⟩
  refine wpAny_Call_Name_kw (ld_glob I hg hm ?_ hdb)
  refine PySem.W.callWith_KW0 (h₀ := X.base) I.ok.mod.kin hk (kw_all hkw _ _) ?_ (by rw [kw_none hkw]; rfl)
  refine thn (ha.run pos pins sh σ H (fun vs H1 => ∃ zs, ord.mapM (fun i => vs[i]?) = some zs ∧ vs.length = (kws.filterMap (·.arg)).length ∧ spJ cn d.ps (callAt T fuel lvl i) zs H1 Q (WE Wx σ)) I (tJ_seq q fun w H1 h env xs vs S R ra p1 => ?_)) fun us s1 ⟨vs, H1, I1, r, zs, e, hlen, q1⟩ => ⟨I1.kIn, ?_⟩
  · obtain ⟨ys, e, p2⟩ := p1.optB
    split at e
    · rename_i hl
      obtain ⟨zs, e2, r2⟩ := mapM_pick e ra
      exact ⟨zs, e2, by rw [← ra.len, kw_len hkw, hl, hlk], by rw [← r2.len]; exact callAt_len hd p2, w, h, ys, S, r2, p2⟩
    · cases e
  · rw [kw_names]
    have rz := vals_pick r e
    show wpAny _ _ (call (.ref fa) [] ((kws.filterMap (·.arg)).zip us)) _ _ _
    refine wpAny_call (codeAny_mono (F.run X.A X.stack s1 H1 ⟨[], (kws.filterMap (·.arg)).zip us⟩ (pick ord us) zs Q (WE Wx σ) ok.room I1.env0 (hkb _ hq rfl s1 us I1.kIn (by rw [← r.length]; exact hlen)) rz q1) fun r s' hq => ?_)
    cases r with
    | error e => exact passAt tk σ pins H1 s1 e s' I1 hq
    | ok fl =>
      cases fl with
      | ret u => exact I1.after hq
      | next => exact False.elim hq
      | brk => exact False.elim hq
      | cont => exact False.elim hq

/-! ### built-in functions -/
theorem j_bi (ok : XOk cn s T fuel lvl X) (m : Bool) {id : Bi} (hid : id ≠ .lenset) (hg : glB s.sc (biId id) = true) (ha : PA X [a] (tVs cn Wx fs)) (st : isStar a = false) :
    PE X (.Call (.Name (biId id) p) [a] [] pos) (tV cn Wx fun env => fs env >>= fun xs => evBi id m xs) := by
  obtain ⟨hg, hdb⟩ := glB_gl ok hg
  have hm : X.mg (biId id) = none := ok.bi _ (by cases id <;> simp [biId])
  have hs := star_cons (es := []) st X.env
  refine PE_at fun σ H Q q => ?_
  have fin : tCB (rBi cn (WE Wx σ) id m) (tVs cn Wx fs) σ H Q := tJ_seq q fun w H1 h env xs vs S R ra p1 => ⟨w, h, xs, S, ra, p1⟩
  cases id with
  | len => exact ⟨_, pe_callB (bi_len (EE := WE Wx σ) ok.K m) hg hm boot_len ha (by decide) hdb hs rfl, fin⟩
  | all => exact ⟨_, pe_callB (bi_all (EE := WE Wx σ) ok.K ok.calm m) hg hm boot_all ha (by decide) hdb hs rfl, fin⟩
  | any => exact ⟨_, pe_callB (bi_any (EE := WE Wx σ) ok.K ok.calm m) hg hm boot_any ha (by decide) hdb hs rfl, fin⟩
  | abs => exact ⟨_, pe_callB (bi_abs (EE := WE Wx σ) m) hg hm boot_abs ha (by decide) hdb hs rfl, fin⟩
  | max1 => exact ⟨_, pe_callB (bi_max (EE := WE Wx σ) ok.K ok.calm m) hg hm boot_max ha (by decide) hdb hs rfl, fin⟩
  | int => exact ⟨_, pe_callTy (bi_int (EE := WE Wx σ) m) hg hm boot_int ha (by decide) hdb hs rfl, fin⟩
  | str => exact ⟨_, pe_callTy (bi_str (EE := WE Wx σ) m) hg hm boot_str ha (by decide) hdb hs rfl, fin⟩
  | list => exact ⟨_, pe_callTy (bi_list (EE := WE Wx σ) ok.K m) hg hm boot_list ha (by decide) hdb hs rfl, fin⟩
  | tuple => exact ⟨_, pe_callTy (bi_tuple (EE := WE Wx σ) ok.K m) hg hm boot_tuple ha (by decide) hdb hs rfl, fin⟩
  | lenset => exact absurd rfl hid
theorem boot_ty (t : Ty) : bootBuiltins (tyId t) = some (.type (tyOf t)) := by cases t <;> decide +kernel
theorem j_inst (ok : XOk cn s T fuel lvl X) {t : Ty} {p2 : Pos} (hg : glB s.sc "isinstance" = true) (hg2 : glB s.sc (tyId t) = true) (ha : PE X a (tV cn Wx f)) (st : isStar a = false) :
    PE X (.Call (.Name "isinstance" p) [a, .Name (tyId t) p2] [] pos) (tV cn Wx fun env => f env >>= fun x => rd (evInst · x t) >>= fun r => pure (.bl r)) := by
  obtain ⟨hg, hdb⟩ := glB_gl ok hg
  obtain ⟨hg2, hdb2⟩ := glB_gl ok hg2
  have hm : X.mg "isinstance" = none := ok.bi _ (by simp)
  have hm2 : X.mg (tyId t) = none := ok.bi _ (by cases t <;> simp [tyId, tyOf] <;> decide)
  have c : CallR X (.builtin "isinstance") (fun vs H Q => ∃ w h x a b, vs = [x, .ty (tyOf t)] ∧ Sim cn.K w h H ∧ Rl cn.K w H a x ∧ evInst h a t = some b ∧ Q (.bl b) H) := fun pins sh σ H xs us Q I r ⟨w, h, x, a, b, e, S, ra, e2, q⟩ => by
    subst e; exact inst_ok ok.K I r S ra e2 q
  refine PE_imp (pe_callB c hg hm boot_isinstance (pa_cons ha (pa_cons (pe_bltn (v := .ty (tyOf t)) hg2 hm2 (boot_ty t) rfl (by cases t <;> decide) hdb2) pa_nil rfl) (star_cons st _)) (by decide) hdb (star_cons st _) rfl) fun σ H Q q => tJ_seq q fun w H1 h env x v S R ra p1 => ?_
  obtain ⟨r, e, p2⟩ := p1.rdB
  exact ⟨w, h, v, x, r, rfl, S, ra, e, p2.pure S _ rfl⟩

/-! ### methods -/
theorem base_is {o : Expr} {n : Str} (h : isSuper o = false) (env : Env) : attributeBase o n env (eval o env) = eval o env := by
  unfold attributeBase
  split
  · simp [isSuper] at h
  · rfl
theorem few_is {a : Expr} {pos : Pos} (st : isStar a = false) (env : Env) : ((backTo pos (starEach [a] env)).all (fun x => !x.1) && (backToKw pos (keywordEach [] env)).all (fun x => x.1.isSome)
      && decide ([a].length + ([] : List Keyword).length + (if ([] : List Keyword).isEmpty then 0 else 1) < 30)) = true := by
  rw [star_all (by simpa using st)]; rfl
def meTy : Me → String
  | .join => "str" | _ => "list"
theorem recv_ty {K : PySem.W.Frag} (hK : K = cn.K) {k : Me} {w : Wd} {h : Hh} {H : Hp} {x : PV} {v : V} (S : Sim cn.K w h H) (r : Rl cn.K w H x v) (e : recvB k x h = some ()) : tyV K (meTy k) v H := by
  have lists : (getL h x).map (fun _ => ()) = some () → tyV K "list" v H := fun e => by
    rw [Option.map_eq_some_iff] at e
    obtain ⟨xs, e1, _⟩ := e
    obtain ⟨l1, vs, rfl, h1, r1⟩ := getL_rel S r e1
    exact .inl ⟨rfl, vs, .of h1⟩
  cases k with
  | join =>
    cases x with
    | str z => cases r; rfl
    | _ => simp [recvB] at e
  | append => exact lists e
  | extend => exact lists e
  | pop => exact lists e
theorem j_me1 (ok : XOk cn s T fuel lvl X) {k : Me} (hk : k ≠ .pop) {o : Expr} {ap : Pos} (hs : isSuper o = false) (hl : ap.endLine = pos.line) (ho : PE X o (tV cn Wx f)) (ha : PA X [a] (tVs cn Wx fs)) (st : isStar a = false) :
    PE X (.Call (.Attribute o (meId k) ap) [a] [] pos) (tV cn Wx fun env => f env >>= fun x => rd (recvB k x) >>= fun _ => fs env >>= fun xs => evMe k x xs) := by
  have hl' : (ap.endLine == pos.line) = true := by simpa using hl
  have hb := base_is (n := meId k) hs X.env
  refine PE_at fun σ H Q q => ?_
  have fin : tBM X.K (meTy k) (rMe cn (WE Wx σ) k) (tV cn Wx f) (tVs cn Wx fs) σ H Q := tJ_seq q fun w H1 h env x v S R ra p1 => by
    obtain ⟨_, e, p2⟩ := p1.rdB
    exact ⟨recv_ty ok.K S ra e, w, h, env, S, R, p2.bind.imp fun w2 H2 h2 y E S2 p3 us rs => ⟨w2, h2, x, y, S2, ra.mono E, rs, p3⟩⟩
  cases k with
  | append => exact ⟨_, pe_bm F.plainAttrs_list F.slot_list_append F.type_list_append me_append ho ha hb (few_is st _) hl' (star_cons st _) rfl, fin⟩
  | extend => exact ⟨_, pe_bm F.plainAttrs_list F.slot_list_extend F.type_list_extend me_extend ho ha hb (few_is st _) hl' (star_cons st _) rfl, fin⟩
  | join => exact ⟨_, pe_bm F.plainAttrs_str F.slot_str_join F.type_str_join (me_join ok.K) ho ha hb (few_is st _) hl' (star_cons st _) rfl, fin⟩
  | pop => exact absurd rfl hk
theorem j_pop (ok : XOk cn s T fuel lvl X) {o : Expr} {ap : Pos} (hs : isSuper o = false) (hl : ap.endLine = pos.line) (ho : PE X o (tV cn Wx f)) :
    PE X (.Call (.Attribute o "pop" ap) [] [] pos) (tV cn Wx fun env => f env >>= fun x => rd (recvB .pop x) >>= fun _ => (pure [] : M (List PV)) >>= fun xs => evMe .pop x xs) := by
  have hl' : (ap.endLine == pos.line) = true := by simpa using hl
  have hb := base_is (n := ("pop" : Str)) hs X.env
  refine PE_at fun σ H Q q => ⟨_, pe_bm0 F.plainAttrs_list F.slot_list_pop F.type_list_pop (me_pop (cn := cn) (EE := WE Wx σ)) ho hb hl', tJ_seq q fun w H1 h env x v S R ra p1 => ?_⟩
  obtain ⟨_, e, p2⟩ := p1.rdB
  exact ⟨recv_ty ok.K S ra e, w, h, x, [], S, ra, rfl, p2.pureB⟩
end
end J

set_option autoImplicit false
set_option linter.all false
set_option maxRecDepth 100000
set_option maxHeartbeats 1000000
/-! JB9: targets; what is walked. -/
namespace J
open PySem PySem.Spec PyProof.Rows L2
section
variable {cn : Cn} {s : SC} {T : Nat → Option Fd} {fuel lvl : Nat} {X : Cx} {Wx : WX}
/-- the slots but those told of stand as they stood -/
def Same (is : List Nat) (σ σ' : L2.St) : Prop := σ'.length = σ.length ∧ ∀ j : Nat, j ∉ is → σ'[j]? = σ[j]?
theorem Same.refl (is : List Nat) (σ : L2.St) : Same is σ σ := ⟨rfl, fun _ _ => rfl⟩
theorem Same.trans {is js : List Nat} {σ σ' σ'' : L2.St} (a : Same is σ σ') (b : Same js σ' σ'') : Same (is ++ js) σ σ'' :=
  ⟨b.1.trans a.1, fun j hj => by simp only [List.mem_append, not_or] at hj; exact (b.2 j hj.2).trans (a.2 j hj.1)⟩
def gJ (cn : Cn) (t : Tg) : TG := fun v σ H Q => ∃ w h env x env', Sim cn.K w h H ∧ Re cn.K w H env σ ∧ Rl cn.K w H x v ∧ asgn t x env = some env' ∧ ∀ σ', Re cn.K w H env' σ' → Same (tgIx t) σ σ' → Q σ' H
def gsJ (cn : Cn) (t : Tg) : TGs := fun vs σ H Q => ∃ w h env xs env', Sim cn.K w h H ∧ Re cn.K w H env σ ∧ Rls cn.K w H xs vs ∧ asgns t xs env = some env' ∧ ∀ σ', Re cn.K w H env' σ' → Same (tgIx t) σ σ' → Q σ' H
theorem PG_at {e : Expr} {t : TG} (k : ∀ v σ H Q, t v σ H Q → ∃ t', PG X e t' ∧ t' v σ H Q) : PG X e t := ⟨fun pins s σ H v u Q I r q => let ⟨_, p, q'⟩ := k v σ H Q q; p.run pins s σ H v u Q I r q'⟩
theorem PGs_imp {es : List Expr} {t t' : TGs} (p : PGs X es t) (k : ∀ vs σ H Q, t' vs σ H Q → t vs σ H Q) : PGs X es t' := ⟨fun pins s σ H v u Q I r q => p.run pins s σ H v u Q I r (k v σ H Q q)⟩
theorem asg_cons {e : Expr} {es : List Expr} (h : isStar e = false) (env : Env) : assignEach (e :: es) env = (false, assign e env) :: assignEach es env := by
  cases e <;> first | rfl | (simp [isStar] at h; done)
def tgLen : Tg → Nat
  | .cons _ ts => tgLen ts + 1
  | _ => 0
theorem chTgs_star {s : SC} : ∀ {t : Tg} {es : List Expr}, chTgs s t es = true → ∀ env, (assignEach es env).length = tgLen t ∧ (assignEach es env).findIdx? (·.1) = none
  | .nil, es, h, env => by
    cases es with
    | nil => exact ⟨rfl, rfl⟩
    | cons _ _ => simp [chTgs] at h
  | .name _, es, h, env => by simp [chTgs] at h
  | .cons t ts, es, h, env => by
    cases es with
    | nil => simp [chTgs] at h
    | cons e r =>
      simp only [chTgs, Bool.and_eq_true, Bool.not_eq_true'] at h
      obtain ⟨⟨h1, h2⟩, h3⟩ := h
      obtain ⟨k1, k2⟩ := chTgs_star h3 env
      rw [asg_cons h1]
      exact ⟨by simp [tgLen, k1], by simp [List.findIdx?_cons, k2]⟩
theorem asgns_len : ∀ {t : Tg} {xs : List PV} {env env' : En}, asgns t xs env = some env' → xs.length = tgLen t
  | .nil, xs, env, env', h => by
    cases xs with
    | nil => rfl
    | cons _ _ => simp [asgns] at h
  | .name _, xs, env, env', h => by simp [asgns] at h
  | .cons t ts, xs, env, env', h => by
    cases xs with
    | nil => simp [asgns] at h
    | cons x xs =>
      simp only [asgns, Option.bind_eq_some_iff] at h
      obtain ⟨e1, _, h2⟩ := h
      simp [tgLen, asgns_len h2]
mutual
theorem jg (ok : XOk cn s T fuel lvl X) : ∀ {t : Tg} {e : Expr}, chTg s t e = true → PG X e (gJ cn t)
  | .name i, e, h => by
    unfold chTg at h
    split at h
    · rename_i x p
      simp only [Bool.and_eq_true, decide_eq_true_eq] at h
      obtain ⟨h1, h2⟩ := h
      obtain ⟨l1, l2⟩ := ok.st x h2
      refine PG_imp (pg_name (by rw [ok.N]; exact ok.nd) (by rw [ok.N]; exact h1) (by rw [ok.sc]; exact l1) l2) fun v σ H Q ⟨w, h, env, x, env', S, R, r, e, q⟩ => ?_
      simp only [asgn] at e
      split at e
      · cases e; exact q _ (R.set r) ⟨by simp, fun j hj => List.getElem?_set_ne (by simpa [tgIx, eq_comm] using hj)⟩
      · cases e
    · cases h
  | .nil, e, h => by simp [chTg] at h
  | .cons t ts, e, h => by
    unfold chTg at h
    split at h
    · rename_i es k p
      have ih := jgs ok h
      obtain ⟨k1, k2⟩ := chTgs_star h X.env
      refine PG_at fun v σ H Q ⟨w, h, env, x, env', S, R, r, e, q⟩ => ?_
      cases x with
      | tup xs =>
        obtain ⟨a, vs, rfl, hq, rs⟩ := r
        exact ⟨_, pg_tup ok.calm ih k1 k2, a, vs, rfl, by rw [ok.K]; exact hq, by rw [← rs.len]; exact asgns_len e, w, h, env, xs, env', S, R, rs, e, q⟩
      | lst xs =>
        obtain ⟨a, vs, rfl, hF, hq, rs⟩ := r
        exact ⟨_, pg_unl ok.calm ih k1 k2, a, vs, rfl, .of hq, by rw [← rs.len]; exact asgns_len e, w, h, env, xs, env', S, R, rs, e, q⟩
      | _ => simp [asgn] at e
    · cases h
theorem jgs (ok : XOk cn s T fuel lvl X) : ∀ {t : Tg} {es : List Expr}, chTgs s t es = true → PGs X es (gsJ cn t)
  | .nil, es, h => by
    cases es with
    | nil =>
      refine PGs_imp pgs_nil fun vs σ H Q ⟨w, h, env, xs, env', S, R, r, e, q⟩ => ?_
      cases xs with
      | nil => simp [asgns] at e; subst e; exact ⟨r, q _ R (.refl _ _)⟩
      | cons _ _ => simp [asgns] at e
    | cons _ _ => simp [chTgs] at h
  | .name _, es, h => by simp [chTgs] at h
  | .cons t ts, es, h => by
    cases es with
    | nil => simp [chTgs] at h
    | cons e r =>
      simp only [chTgs, Bool.and_eq_true, Bool.not_eq_true'] at h
      obtain ⟨⟨h1, h2⟩, h3⟩ := h
      refine PGs_imp (pgs_cons (jg ok h2) (jgs ok h3) (by rw [asg_cons h1]; rfl)) fun vs σ H Q ⟨w, h, env, xs, env', S, R, rr, e, q⟩ => ?_
      cases xs with
      | nil => simp [asgns] at e
      | cons x xs =>
        obtain ⟨v, us, rfl, r1, r2⟩ := rr
        simp only [asgns, Option.bind_eq_some_iff] at e
        obtain ⟨env1, e1, e2⟩ := e
        exact ⟨v, us, rfl, w, h, env, x, env1, S, R, r1, e1, fun σ1 R1 m1 => ⟨w, h, env1, xs, env', S, R1, r2, e2, fun σ2 R2 m2 => q σ2 R2 (m1.trans m2)⟩⟩
end

theorem _root_.J.Post.bindE {α β : Type} {m : M α} {k : α → M β} {w : Wd} {H : Hp} {h h' : Hh} {a : α} {R : Wd → Hp → Hh → β → Prop} {EE : XK} (p : Post cn w H ((m >>= k) h) R EE) (e : m h = .ok a h') : Post cn w H (k a h') R EE := by
  rw [bind_ok e] at p; exact p
/-! ### what is walked -/
variable {f g : En → M PV} {a b tg : Expr} {p pos : Pos}
theorem ji_val (ok : XOk cn s T fuel lvl X) (ha : PE X a (tV cn Wx f)) : PI X tg a (tSr cn Wx fun env => f env >>= fun x => rd (item · (.seq x) 0) >>= fun _ => pure (.seq x)) :=
  PI_at fun σ H Q ⟨w, h, env, S, R, p⟩ => by
    have hK := ok.K
    have pb := p.bind
    cases e : f env h with
    | bad => rw [e] at pb; exact pb.elim
    | exc c v h' => rw [e] at pb; exact ⟨_, pi_list ha, w, h, env, S, R, by rw [e]; exact pb⟩
    | ok x h' =>
      replace p := p.bindE e
      obtain ⟨it, e1, p⟩ := p.rdB
      have lists : notTup x = true → (getS h' x).isSome = true → ∃ t', PI X tg a t' ∧ t' σ H Q := fun hn hz => by
        obtain ⟨xs, hz⟩ := Option.isSome_iff_exists.mp hz
        refine ⟨_, pi_list ha, w, h, env, S, R, ?_⟩
        rw [e]
        intro w' H' E S' v r
        have key : ∃ a, v = .ref a := by
          cases x with
          | lst _ => obtain ⟨a, _, h, _⟩ := r; exact ⟨a, h⟩
          | loc _ => obtain ⟨a, h, _⟩ := r; exact ⟨a, h⟩
          | scr _ => obtain ⟨a, _, h, _⟩ := r; exact ⟨a, h⟩
          | tup _ => simp [notTup] at hn
          | _ => simp [getS, getL] at hz
        obtain ⟨l, rfl⟩ := key
        obtain ⟨vs, h1, h2⟩ := getS_not S' r hn hz
        exact ⟨l, rfl, ⟨vs, by rw [hK]; exact h1⟩, by rw [hK]; exact p.ok E S' _ (.lst r hn)⟩
      cases x with
      | str z =>
        refine ⟨_, pi_str ha, w, h, env, S, R, ?_⟩
        rw [e]
        intro w' H' E S' v r
        cases r
        exact ⟨z, rfl, p.ok E S' _ (.str z)⟩
      | tup xs =>
        refine ⟨_, pi_tup ha, w, h, env, S, R, ?_⟩
        rw [e]
        intro w' H' E S' v r
        obtain ⟨l, vs, rfl, h1, h2⟩ := r
        exact ⟨l, rfl, ⟨vs, by rw [hK]; exact h1⟩, by rw [hK]; exact p.ok E S' _ (.tup ⟨l, vs, rfl, h1, h2⟩)⟩
      | lst _ => exact lists rfl rfl
      | scr _ => exact lists rfl rfl
      | loc n =>
        refine lists rfl ?_
        simp only [item] at e1
        obtain ⟨xs, e2, _⟩ := Option.map_eq_some_iff.mp e1
        rw [e2]; rfl
      | non => simp [item, getS, getL] at e1
      | bl _ => simp [item, getS, getL] at e1
      | int _ => simp [item, getS, getL] at e1
      | dct _ _ => simp [item, getS, getL] at e1
/-- one argument -/
abbrev one1 (f : En → M PV) : En → M (List PV) := fun env => f env >>= fun x => (pure [] : M (List PV)) >>= fun xs => pure (x :: xs)
abbrev two2 (f g : En → M PV) : En → M (List PV) := fun env => f env >>= fun x => one1 g env >>= fun xs => pure (x :: xs)
theorem ja_one (ha : PE X a (tV cn Wx f)) (st : isStar a = false) : PA X [a] (tVs cn Wx (one1 f)) := ja_cons ha ja_nil st
theorem ja_two (ha : PE X a (tV cn Wx f)) (hb : PE X b (tV cn Wx g)) (st : isStar a = false) (st2 : isStar b = false) : PA X [a, b] (tVs cn Wx (two2 f g)) := ja_cons ha (ja_one hb st2) st
theorem star1 {a : Expr} (h : isStar a = false) (env : Env) : starEach [a] env = [(false, eval a env)] := star_cons h env
theorem star2 {a b : Expr} (h : isStar a = false) (h2 : isStar b = false) (env : Env) : starEach [a, b] env = [(false, eval a env), (false, eval b env)] := by rw [star_cons h, star_cons h2]; rfl
theorem one1_ok {env : En} {h h' : Hh} {x : PV} (e : f env h = .ok x h') : one1 f env h = .ok [x] h' := by
  show (f env >>= _) h = _
  rw [bind_ok e]; rfl
theorem ji_range1 (ok : XOk cn s T fuel lvl X) (hg : glB s.sc "range" = true) (ha : PE X a (tV cn Wx f)) (st : isStar a = false) : PI X tg (.Call (.Name "range" p) [a] [] pos) (tSr cn Wx fun env => f env >>= fun x => match x with | .int j => if -(2 ^ 62) ≤ j ∧ j < 2 ^ 62 then pure (.range 0 j.toNat) else bad | _ => bad) :=
  PI_at fun σ H Q ⟨w, h, env, S, R, p⟩ => by
    refine ⟨_, pi_range1 (glB_gl ok hg).1 (ok.bi _ (by simp)) (ja_one ha st) (star1 st _), w, h, env, S, R, ?_⟩
    have pb := p.bind
    cases e : f env h with
    | bad => rw [e] at pb; exact pb.elim
    | exc c v h' => rw [e] at pb; rw [show one1 f env h = .exc c v h' from bind_exc e]; exact pb
    | ok x h' =>
      rw [one1_ok e]
      replace p := p.bindE e
      cases x with
      | int j =>
        simp only at p
        split at p
        · rename_i hz
          intro w' H' E S' vs r
          obtain ⟨v, u, rfl, rv, ru⟩ := r
          cases rv; cases ru
          exact ⟨j, rfl, hz.1, hz.2, p.ok E S' _ (.rng 0 _)⟩
        · exact p.elim
      | _ => exact p.elim
theorem ji_range2 (ok : XOk cn s T fuel lvl X) (hg : glB s.sc "range" = true) (ha : PE X a (tV cn Wx f)) (hb : PE X b (tV cn Wx g)) (st : isStar a = false) (st2 : isStar b = false) :
    PI X tg (.Call (.Name "range" p) [a, b] [] pos) (tSr cn Wx fun env => f env >>= fun x => g env >>= fun y => match x, y with | .int i, .int j => if -(2 ^ 62) ≤ i ∧ i < 2 ^ 62 ∧ -(2 ^ 62) ≤ j ∧ j < 2 ^ 62 then pure (.range i (j - i).toNat) else bad | _, _ => bad) :=
  PI_at fun σ H Q ⟨w, h, env, S, R, p⟩ => by
    refine ⟨_, pi_range2 (glB_gl ok hg).1 (ok.bi _ (by simp)) (ja_two ha hb st st2) (star2 st st2 _) (star1 st2 _), w, h, env, S, R, ?_⟩
    have pb := p.bind
    cases e : f env h with
    | bad => rw [e] at pb; exact pb.elim
    | exc c v h' => rw [e] at pb; rw [show two2 f g env h = .exc c v h' from bind_exc e]; exact pb
    | ok x h' =>
      replace p := p.bindE e
      have pc := p.bind
      cases e2 : g env h' with
      | bad => rw [e2] at pc; exact pc.elim
      | exc c v h2 => rw [e2] at pc; rw [show two2 f g env h = .exc c v h2 by rw [show two2 f g env h = _ from bind_ok e, show (one1 g env >>= fun xs => pure (x :: xs)) h' = .exc c v h2 from bind_exc (show one1 g env h' = .exc c v h2 from bind_exc e2)]]; exact pc
      | ok y h2 =>
        replace p := p.bindE e2
        rw [show two2 f g env h = .ok [x, y] h2 by rw [show two2 f g env h = _ from bind_ok e, bind_ok (one1_ok e2)]; rfl]
        cases x with
        | int i =>
          cases y with
          | int j =>
            simp only at p
            split at p
            · rename_i hz
              intro w' H' E S' vs r
              obtain ⟨v, u, rfl, rv, v2, u2, rfl, rv2, ru2⟩ := r
              cases rv; cases rv2; cases ru2
              exact ⟨i, j, rfl, hz, p.ok E S' _ (.rng _ _)⟩
            · exact p.elim
          | _ => exact p.elim
        | _ => exact p.elim
theorem ji_zip (ok : XOk cn s T fuel lvl X) (hg : glB s.sc "zip" = true) (ht : isTupE tg = true) (ha : PE X a (tV cn Wx f)) (hb : PE X b (tV cn Wx g)) (st : isStar a = false) (st2 : isStar b = false) :
    PI X tg (.Call (.Name "zip" p) [a, b] [] pos) (tSr cn Wx fun env => f env >>= fun x => g env >>= fun y => rd (zipOk x y) >>= fun _ => pure (.zip x y)) := by
  cases tg with
  | Tuple elts kk tp =>
    refine PI_at fun σ H Q ⟨w, h, env, S, R, p⟩ => ?_
    refine ⟨_, RZ.pi_zipA (glB_gl ok hg).1 (ok.bi _ (by simp)) (ja_two ha hb st st2) (star_cons st _) (by rw [star1 st2]; rfl), w, h, env, S, R, ?_⟩
    have hK := ok.K
    have pb := p.bind
    cases e : f env h with
    | bad => rw [e] at pb; exact pb.elim
    | exc c v h' => rw [e] at pb; rw [show two2 f g env h = .exc c v h' from bind_exc e]; exact pb
    | ok x h' =>
      replace p := p.bindE e
      have pc := p.bind
      cases e2 : g env h' with
      | bad => rw [e2] at pc; exact pc.elim
      | exc c v h2 => rw [e2] at pc; rw [show two2 f g env h = .exc c v h2 by rw [show two2 f g env h = _ from bind_ok e, show (one1 g env >>= fun xs => pure (x :: xs)) h' = .exc c v h2 from bind_exc (show one1 g env h' = .exc c v h2 from bind_exc e2)]]; exact pc
      | ok y h2 =>
        replace p := p.bindE e2
        rw [show two2 f g env h = .ok [x, y] h2 by rw [show two2 f g env h = _ from bind_ok e, bind_ok (one1_ok e2)]; rfl]
        obtain ⟨_, ez, p⟩ := p.rdB
        intro w' H' E S' vs r
        obtain ⟨v, u, rfl, rv, v2, u2, rfl, rv2, ru2⟩ := r
        cases ru2
        have lists : notTup x = true → notTup y = true → (getL h2 x).isSome = true → (getL h2 y).isSome = true → ∃ a b xs ys, [v, v2] = [V.ref a, V.ref b] ∧ ((SqL X.K H' a xs ∧ SqL X.K H' b ys ∧ Q (Itz X.K a b) H') ∨ (SqT X.K H' a xs ∧ SqT X.K H' b ys ∧ Q (RZ.ItzT X.K a b) H')) := fun n1 n2 z1 z2 => by
          obtain ⟨xs, z1⟩ := Option.isSome_iff_exists.mp z1
          obtain ⟨ys, z2⟩ := Option.isSome_iff_exists.mp z2
          obtain ⟨l1, vs1, rfl, q1, r1⟩ := getL_rel S' rv z1
          obtain ⟨l2, vs2, rfl, q2, r2⟩ := getL_rel S' rv2 z2
          exact ⟨l1, l2, vs1, vs2, rfl, .inl ⟨.of q1, .of q2, by rw [hK]; exact p.ok E S' _ (.zip rv n1 rv2 n2)⟩⟩
        have other : (getL h2 x).bind (fun _ => (getL h2 y).map fun _ => ()) = some () → (getL h2 x).isSome = true ∧ (getL h2 y).isSome = true := fun ez => by
          obtain ⟨xs, e3, e4⟩ := Option.bind_eq_some_iff.mp ez
          obtain ⟨ys, e5, _⟩ := Option.map_eq_some_iff.mp e4
          exact ⟨by rw [e3]; rfl, by rw [e5]; rfl⟩
        have nt : ∀ {z : PV}, (getL h2 z).isSome = true → notTup z = true := fun {z} hz => by
          cases z <;> first | rfl | (simp [getL] at hz; done)
        have gen : (getL h2 x).bind (fun _ => (getL h2 y).map fun _ => ()) = some () → _ := fun ez => lists (nt (other ez).1) (nt (other ez).2) (other ez).1 (other ez).2
        cases x with
        | tup xs =>
          cases y with
          | tup ys =>
            obtain ⟨l1, vs1, rfl, q1, r1⟩ := rv
            obtain ⟨l2, vs2, rfl, q2, r2⟩ := rv2
            exact ⟨l1, l2, vs1, vs2, rfl, .inr ⟨by rw [hK]; exact q1, by rw [hK]; exact q2, by rw [hK]; exact p.ok E S' _ (.zipT ⟨l1, vs1, rfl, q1, r1⟩ ⟨l2, vs2, rfl, q2, r2⟩)⟩⟩
          | _ => simp [zipOk, getL] at ez
        | lst _ => exact gen (by cases y <;> exact ez)
        | loc _ => exact gen (by cases y <;> exact ez)
        | _ => simp [zipOk, getL] at ez
  | _ => simp [isTupE] at ht
end
end J

set_option autoImplicit false
set_option linter.all false
set_option maxRecDepth 100000
set_option maxHeartbeats 2000000
/-! JE: enumerate of a tuple. -/
namespace J
open PySem PySem.Spec PyProof.Rows L2
open AutoSeq1 (wpAny_loadPart')
theorem enu_new {v : Value} {o : Obj} {C : Heap → Prop} (B : Begins v o C) :
    Meets (Builtin.«enumerate.__new__» ⟨[.type "enumerate", v], []⟩) (fun _ R z => C z.heap ∧
      R (.ok (.ret (.ref (z.heap.push o).objs.size)))
        { z with heap := (z.heap.push o).push { cls := .type "enumerate", data := .fields #[.none, .bool false, .ref z.heap.objs.size, rawInt 0, .none, .none] } }) :=
  .of_wp fun pr wo Ar Rr z hz => by
    obtain ⟨z1, z2, z3, z4, z5⟩ := z
    obtain ⟨hc, hz⟩ := hz
    have su := sub_enumerate
    have it1 : ∀ {A' : Around} {Er : Value → Shared → Prop} {Qr : Value → Shared → Prop}, Qr (.ref z1.objs.size) ⟨z1.push o, z2, z3, z4, z5⟩ → wpAny (model pr wo) A' (pyIter v) Qr Er ⟨z1, z2, z3, z4, z5⟩ :=
      fun qq => B.iter pr wo _ _ ⟨z1, z2, z3, z4, z5⟩ _ hc qq
    wp_walk using it1
    refine wpAny_stack_any fun sk => wpAny_pure ?_
    split
    · rename_i cc _ _ _ _ _
      cases (cc == Value.type "enumerate") <;>
      · wp_walk using it1
        exact ⟨_, rfl, hz⟩
    · wp_walk using it1
      exact ⟨_, rfl, hz⟩
section
variable {pr : Program} {wo : World} {Ar : Around} {Er : Value → Shared → Prop} {z : Shared}
theorem enu_call {v : Value} {o : Obj} {C : Heap → Prop} {Qr : Value → Shared → Prop} (B : Begins v o C) (hc : C z.heap)
    (k : ∀ g, IsEnum g (z.heap.objs.size + 1) z.heap.objs.size 0 .none → g.get? z.heap.objs.size = some o → (∀ b u, z.heap.get? b = some u → g.get? b = some u) → Qr (.ref (z.heap.objs.size + 1)) { z with heap := g }) :
    wpAny (model pr wo) Ar (call (.type "enumerate") [v]) Qr Er z := by
  refine callType_new F.called_enumerate (by decide) (F.typeCall_enumerate_1 _) (F.newCall_enumerate_1 _) (fun q => F.args_object_init_2 q _) F.entry_enumerate_new (enu_new B) ⟨hc, ?_⟩
  have sz : (z.heap.push o).objs.size = z.heap.objs.size + 1 := Heap.size_push ..
  show _ ∧ _
  rw [sz]
  have en : IsEnum ((z.heap.push o).push { cls := .type "enumerate", data := .fields #[.none, .bool false, .ref z.heap.objs.size, rawInt 0, .none, .none] }) (z.heap.objs.size + 1) z.heap.objs.size 0 .none := by
    have := Heap.get?_push_size (z.heap.push o) (o := { cls := .type "enumerate", data := .fields #[.none, .bool false, .ref z.heap.objs.size, rawInt 0, .none, .none] }) rfl
    rwa [sz] at this
  exact ⟨⟨_, en, rfl⟩, k _ en (Heap.get?_push_of_some _ (Heap.get?_push_size _ B.free)) fun b u q => Heap.get?_push_of_some _ (Heap.get?_push_of_some _ q)⟩
end
theorem enu_turn {P : Program} {w : World} {K : PySem.W.Frag} {ts : List Expr} {k1 : Nat} {p1 : Pos} (a e it : Addr) :
    Turn P w K (.Tuple ts k1 p1) (IteT K a) [e, it] e (fun i g => (∃ old, IsEnum g e it ((i : Nat) : Int) old) ∧ g.IsTupleIter it a i ∧ e ≠ it ∧ a ≠ it ∧ a ≠ e) where
  mem := by simp
  obj := fun i g st b hb => by
    obtain ⟨⟨old, he⟩, ⟨o, ho, hc, hd⟩, _⟩ := st
    rcases (show b = e ∨ b = it by simpa using hb) with rfl | rfl
    · exact ⟨_, he, fun v q => nomatch q⟩
    · exact ⟨o, ho, fun v q => by rw [hd] at q; cases q⟩
  keep := fun i g g' st k => by
    obtain ⟨⟨old, he⟩, hi, hne⟩ := st
    exact ⟨⟨old, k e (by simp) _ he⟩, hi.at fun o q => k it (by simp) o q, hne⟩
  item := by
    intro X hP hw hK hc i pins s σ H E I hf st hg
    subst hP hw hK
    obtain ⟨⟨old, he⟩, hit, hne, hai, hae⟩ := st
    obtain ⟨xs, x, hq, hx⟩ := hg
    obtain ⟨its, rv, p, hz⟩ := I.tuple hq
    have hpT : s.heap.IsTuple a its.toArray := p
    obtain ⟨u, hu, ru⟩ := rv.get hx
    have hel : e < s.heap.objs.size := Heap.lt_size he
    have hil : it < s.heap.objs.size := by obtain ⟨_, q, _⟩ := hit; exact Heap.lt_size q
    have hlt : i < its.toArray.size := by simpa using (List.getElem?_eq_some_iff.mp hu).1
    have hef : e ∉ [it, a] := by simp [hne, Ne.symm hae]
    refine wpAny_pyNext_enum_itemD (Draws.tuple (prog := X.prog) (w := X.w) (A := X.A.in1) (I.ok.hd hc) it a hai its.toArray) he ⟨hit, hpT⟩ hlt hne hef fun x' g tk hpx ho hit' hT hsz hk => ?_
    have hxu : x' = u := by
      have : its[i]? = some x' := by simpa using hpx
      rw [hu] at this; exact (Option.some.inj this).symm
    subst hxu
    refine ⟨_, rfl, wpAny_letOwnedTupleGo_enum (s := { s with heap := g, toks := tk + 1 }) ho fun g2 he2 sb => ?_⟩
    have hT2 : g2.get? s.heap.objs.size = some { cls := .type "tuple", data := .seq #[.int i tk, x'] } := (sb.2 _ (Nat.ne_of_gt hel)).trans hT
    have new : ObjOk X.prog X.w (upd H s.heap.objs.size (.tup [.int (i : Nat), x])) g2 s.heap.objs.size (.tup [.int (i : Nat), x]) :=
      ⟨by show 2 ≤ sizeLine; decide, [.int i tk, x'], .cons ⟨_, rfl⟩ (.cons ru .nil), ⟨_, hT2, rfl, _, rfl⟩⟩
    have I1 : Inv X pins σ (upd H s.heap.objs.size (.tup [.int (i : Nat), x])) { s with heap := g2, toks := tk + 1 } :=
      I.turnedNew (ch := [e, it]) (fun b ob hb q => (sb.2 b (by rintro rfl; simp at hb)).trans (hk b ob (by rintro rfl; simp at hb) (by rintro rfl; simp at hb) q)) hf (Nat.le_refl _) new
    refine ⟨.ref s.heap.objs.size, _, I1, rfl, ⟨_, x, rfl, I.hok.fresh (Nat.le_refl _), rfl, fun ys hy => by rw [I.tuple_inj hy hq]; exact hx⟩, ⟨⟨x', ?_⟩, hit'.1.at fun o q => (sb.2 it (Ne.symm hne)).trans q, hne, hai, hae⟩, fun b hb => ?_⟩
    · rw [show ((i + 1 : Nat) : Int) = (i : Int) + 1 by omega]; exact he2
    · have hb' : b < s.heap.objs.size := by
        rcases (show b = e ∨ b = it by simpa using hb) with rfl | rfl
        · exact hel
        · exact hil
      rw [upd_ne (Nat.ne_of_lt hb')]
      exact (hf b hb).1
  done := by
    intro X hP hw hK hc i pins s σ H E I hf st hg
    subst hP hw hK
    obtain ⟨⟨old, he⟩, hit, hne, hai, hae⟩ := st
    obtain ⟨xs, hq, hx⟩ := hg
    obtain ⟨its, rv, p, hz⟩ := I.tuple hq
    have hpT : s.heap.IsTuple a its.toArray := p
    obtain ⟨f0, f1, f2, f3, f4, f5⟩ := hf it (by simp)
    have hx' : its.toArray[i]? = none := by
      have := rv.length
      simp; omega
    have D : Draws X.prog X.w X.A.in1 it [it, a] 0 (fun _ _ => False) (fun _ g => g.IsTupleIter it a i ∧ g.IsTuple a its.toArray) :=
      ⟨fun _ g st => let ⟨o, ho, _⟩ := st.1; ⟨o, ho⟩, fun _ g g' st k => ⟨st.1.at fun o q => k it (by simp) o q, st.2.at fun o q => k a (by simp) o q⟩, fun i s Q E hi => absurd hi (Nat.not_lt_zero _),
        fun s Q E st hE => wpAny_nextOf_tuple_end (I.ok.hd hc) st.1 st.2 hx' hE⟩
    exact wpAny_pyNext_enum_endD D he ⟨hit, hpT⟩ fun g eb => ⟨rfl, I.turned (t' := s.toks) (fun b o hb q => eb b o hb q) f0 f1 f3 f4 f5⟩
  self := fun A i s Q E st h => let ⟨⟨_, he⟩, _⟩ := st; wpAny_pyIter_enum he h
section
variable {cn : Cn} {s : SC} {T : Nat → Option Fd} {fuel lvl : Nat} {X : Cx} {Wx : WX} {f : En → M PV} {a tg : Expr} {p pos : Pos}
def iEnT (K : PySem.W.Frag) (ta : TA) : TI := fun σ H R => ta σ H fun vs H1 => ∃ (l : Addr) (xs : List V), vs = [.ref l] ∧ SqT K H1 l xs ∧ R (IteT K l) H1
theorem pi_enT {ts : List Expr} {k1 : Nat} {p1 : Pos} {ta : TA} (hg : Gl X "enumerate") (hm : X.mg "enumerate" = none) (ha : PA X [a] ta) (hs : starEach [a] X.env = [(false, eval a X.env)]) : PI X (.Tuple ts k1 p1) (.Call (.Name "enumerate" p) [a] [] pos) (iEnT X.K ta) := by
  refine ⟨fun pins s σ H R I h => ?_⟩
  refine Call_ (ld_blt I hg hm boot_enumerate (PyProof.Rows.callWith_type1 (thn (ha.run pos pins s σ H _ I h) fun us s1 ⟨vs, H1, I1, r1, l, xs, ex, hq, q⟩ => ?_) hs rfl))
  subst ex
  cases r1 with
  | cons r rr =>
    cases rr
    cases r
    obtain ⟨its, rv, pt, hz⟩ := I1.tuple hq
    have hpT : s1.heap.IsTuple l its.toArray := pt
    have lt : l < s1.heap.objs.size := by obtain ⟨_, q, _⟩ := hpT; exact Heap.lt_size q
    refine enu_call (begins_tuple l its.toArray) hpT fun g he hit hk => wpAny_pyIter_enum he ?_
    have I2 : Inv X pins σ H1 { s1 with heap := g } := I1.kept (t' := s1.toks) hk
    refine ⟨s1.heap.objs.size + 1, [s1.heap.objs.size + 1, s1.heap.objs.size], _, _, H1, rfl, I2, enu_turn l (s1.heap.objs.size + 1) s1.heap.objs.size, ⟨⟨.none, he⟩, ⟨_, hit, rfl, rfl⟩, Nat.succ_ne_self _, Nat.ne_of_lt lt, Nat.ne_of_lt (Nat.lt_succ_of_lt lt)⟩, fun b hb => ?_, q⟩
    have le : s1.heap.objs.size ≤ b := by
      rcases (show b = s1.heap.objs.size + 1 ∨ b = s1.heap.objs.size by simpa using hb) with rfl | rfl
      · exact Nat.le_succ _
      · exact Nat.le_refl _
    exact I1.fpOk le (I1.hok.fresh le)
theorem ji_enum (ok : XOk cn s T fuel lvl X) (hg : glB s.sc "enumerate" = true) (ht : isTupE tg = true) (ha : PE X a (tV cn Wx f)) (st : isStar a = false) :
    PI X tg (.Call (.Name "enumerate" p) [a] [] pos) (tSr cn Wx fun env => f env >>= fun x => rd (item · (.enum x) 0) >>= fun _ => pure (.enum x)) := by
  cases tg with
  | Tuple elts kk tp =>
    refine PI_at fun σ H Q ⟨w, h, env, S, R, p⟩ => ?_
    have hK := ok.K
    have h1 := (glB_gl ok hg).1
    have h2 : X.mg "enumerate" = none := ok.bi _ (by simp)
    have pb := p.bind
    cases e : f env h with
    | bad => rw [e] at pb; exact pb.elim
    | exc c v h' => rw [e] at pb; exact ⟨_, pi_enum h1 h2 (ja_one ha st) (star1 st _), w, h, env, S, R, by rw [show one1 f env h = .exc c v h' from bind_exc e]; exact pb⟩
    | ok x h' =>
      replace p := p.bindE e
      obtain ⟨_, ez, p⟩ := p.rdB
      simp only [item] at ez
      obtain ⟨xs, ez, _⟩ := Option.map_eq_some_iff.mp ez
      by_cases hn : notTup x = true
      · refine ⟨_, pi_enum h1 h2 (ja_one ha st) (star1 st _), w, h, env, S, R, ?_⟩
        rw [one1_ok e]
        intro w' H' E S' vs r
        obtain ⟨v, u, rfl, rv, ru⟩ := r
        cases ru
        have key : ∃ a, v = .ref a := by
          cases x with
          | lst _ => obtain ⟨a, _, h, _⟩ := rv; exact ⟨a, h⟩
          | loc _ => obtain ⟨a, h, _⟩ := rv; exact ⟨a, h⟩
          | scr _ => obtain ⟨a, _, h, _⟩ := rv; exact ⟨a, h⟩
          | tup _ => simp [notTup] at hn
          | _ => simp [getS, getL] at ez
        obtain ⟨l, rfl⟩ := key
        obtain ⟨zs, k1, k2⟩ := getS_not S' rv hn ez
        exact ⟨l, zs, rfl, by rw [hK]; exact k1, by rw [hK]; exact p.ok E S' _ (.enum rv hn)⟩
      · cases x with
        | tup ys =>
          refine ⟨_, pi_enT h1 h2 (ja_one ha st) (star1 st _), w, h, env, S, R, ?_⟩
          rw [one1_ok e]
          intro w' H' E S' vs r
          obtain ⟨v, u, rfl, rv, ru⟩ := r
          cases ru
          obtain ⟨l, zs, rfl, k1, k2⟩ := rv
          exact ⟨l, zs, rfl, by rw [hK]; exact k1, by rw [hK]; exact p.ok E S' _ (.enumT ⟨l, zs, rfl, k1, k2⟩)⟩
        | _ => simp [notTup] at hn
  | _ => simp [isTupE] at ht
end
end J

set_option autoImplicit false
set_option linter.all false
set_option maxRecDepth 100000
set_option maxHeartbeats 2000000
/-! JC: list comprehensions of any number of clauses. -/
namespace J
open PySem PySem.Spec PyProof.Rows L2

/-! ### worlds that differ in what is watched over -/
section
variable {K : PySem.W.Frag} {w w' : Wd} {H H' : Hp} {h : Hh} {D : Addr}
mutual
theorem Rl.reg (hf : w'.f = w.f) (hF : w'.F = w.F) : ∀ {x : PV} {v : V}, Rl K w H x v → Rl K w' H x v
  | .non, _, r => r
  | .bl _, _, r => r
  | .int _, _, r => r
  | .str _, _, r => r
  | .tup xs, _, ⟨a, vs, e1, h1, h2⟩ => ⟨a, vs, e1, h1, Rls.reg hf hF h2⟩
  | .lst xs, _, ⟨a, vs, e1, h1, h2, h3⟩ => ⟨a, vs, e1, by rw [hF]; exact h1, h2, Rls.reg hf hF h3⟩
  | .scr xs, _, ⟨a, vs, e1, h1, h2⟩ => ⟨a, vs, e1, h1, Rls.reg hf hF h2⟩
  | .loc n, _, ⟨a, e1, h1⟩ => ⟨a, e1, by rw [hf]; exact h1⟩
  | .dct ks xs, _, ⟨a, kvs, e1, h1, h2, h3, h4⟩ => ⟨a, kvs, e1, by rw [hF]; exact h1, h2, h3, Rls.reg hf hF h4⟩
theorem Rls.reg (hf : w'.f = w.f) (hF : w'.F = w.F) : ∀ {xs : List PV} {vs : List V}, Rls K w H xs vs → Rls K w' H xs vs
  | [], _, r => r
  | x :: xs, _, ⟨v, u, e1, h1, h2⟩ => ⟨v, u, e1, Rl.reg hf hF h1, Rls.reg hf hF h2⟩
end
theorem Rls.gdI {xs : List PV} {vs : List V} (r : Rls K w H xs vs) : Rls K (w.gd D) H xs vs := Rls.reg (w := w) (w' := w.gd D) rfl rfl r
theorem Rls.gdE {xs : List PV} {vs : List V} (r : Rls K (w.gd D) H xs vs) : Rls K w H xs vs := Rls.reg (w := w.gd D) (w' := w) rfl rfl r
theorem Rl.gdI {x : PV} {v : V} (r : Rl K w H x v) : Rl K (w.gd D) H x v := Rl.reg (w := w) (w' := w.gd D) rfl rfl r
theorem Rl.gdE {x : PV} {v : V} (r : Rl K (w.gd D) H x v) : Rl K w H x v := Rl.reg (w := w.gd D) (w' := w) rfl rfl r
theorem Re.reg (hf : w'.f = w.f) (hF : w'.F = w.F) {env : En} {σ : L2.St} (r : Re K w H env σ) : Re K w' H env σ := ⟨r.1, fun i x hx => let ⟨v, e, q⟩ := r.2 i x hx; ⟨v, e, q.reg hf hF⟩⟩
theorem Re.gdI {env : En} {σ : L2.St} (r : Re K w H env σ) : Re K (w.gd D) H env σ := Re.reg (w := w) (w' := w.gd D) rfl rfl r
theorem Re.gdE {env : En} {σ : L2.St} (r : Re K (w.gd D) H env σ) : Re K w H env σ := Re.reg (w := w.gd D) (w' := w) rfl rfl r
theorem Sim.ungd (S : Sim K (w.gd D) h H) : Sim K w h H := by
  refine ⟨S.len, fun n c e => ?_, S.inj, S.F0, fun a ha => S.G0 a (.inl ha), fun a ha hg => S.FG a ha (.inl hg)⟩
  have q := S.cells n c e
  cases c with
  | dead => trivial
  | lst xs => obtain ⟨a, vs, h1, h2, h3, h4, h5⟩ := q; exact ⟨a, vs, h1, h2, fun z => h3 (.inl z), h4, h5.gdE⟩
  | dct ks xs => obtain ⟨a, vs, h1, h2, h3, h4, h5, h6⟩ := q; exact ⟨a, vs, h1, h2, fun z => h3 (.inl z), h4, h5, h6.gdE⟩
/-- watching over one more address that nobody holds -/
theorem Sim.gd (S : Sim K w h H) {o : HO} (hD : H D = some o) (nF : ¬ w.F D) (nc : ∀ (n : Nat) (c : Cell) (a : Addr), h[n]? = some c → c ≠ Cell.dead → w.f[n]? = some a → a ≠ D) : Sim K (w.gd D) h H := by
  refine ⟨S.len, fun n c e => ?_, S.inj, S.F0, fun a ha => ?_, fun a ha hg => ?_⟩
  · have q := S.cells n c e
    cases c with
    | dead => trivial
    | lst xs => obtain ⟨a, vs, h1, h2, h3, h4, h5⟩ := q; exact ⟨a, vs, h1, h2, fun z => z.elim h3 fun z => nc n _ a e (fun z => nomatch z) h1 z, h4, h5.gdI⟩
    | dct ks xs => obtain ⟨a, vs, h1, h2, h3, h4, h5, h6⟩ := q; exact ⟨a, vs, h1, h2, fun z => z.elim h3 fun z => nc n _ a e (fun z => nomatch z) h1 z, h4, h5, h6.gdI⟩
  · rcases ha with ha | rfl
    · exact S.G0 a ha
    · exact ⟨o, hD⟩
  · rcases hg with hg | rfl
    · exact S.FG a ha hg
    · exact nF ha
/-- a step of the watched world, seen without the watch -/
theorem Ext.ungd (e : Ext (w.gd D) H w' H') : ∃ w1 : Wd, w' = w1.gd D ∧ Ext w H w1 H' ∧ H' D = H D := by
  refine ⟨{ w' with G := w.G }, ?_, ⟨e.f, e.F, fun a ha => e.G a (.inl ha), rfl, e.tup, e.frz⟩, e.G D (.inr rfl)⟩
  obtain ⟨f, F, G⟩ := w'
  have z : G = fun a => w.G a ∨ a = D := e.Ge
  subst z; rfl
/-- the watched list is written -/
theorem put_D (S : Sim K (w.gd D) h H) (nG : ¬ w.G D) {acc : List V} {o : HO} (hD : H D = some (.lst acc)) : Ext w H w (upd H D o) ∧ Sim K (w.gd D) h (upd H D o) := by
  have nF : ¬ w.F D := fun z => S.FG D z (.inr rfl)
  have E : Ext w H w (upd H D o) := ⟨⟨[], by simp⟩, fun a ha => ⟨ha, upd_ne fun z => nF (by rw [← z]; exact ha)⟩, fun a ha => upd_ne fun z => nG (by rw [← z]; exact ha), rfl,
    fun a xs e => (upd_ne fun z => by subst z; rw [hD] at e; cases e).trans e, fun a p u e => (upd_ne fun z => by subst z; rw [hD] at e; cases e).trans e⟩
  refine ⟨E, ⟨S.len, fun n c e => ?_, S.inj, fun a ha => ?_, fun a ha => ?_, S.FG⟩⟩
  · have q := S.cells n c e
    cases c with
    | dead => trivial
    | lst xs =>
      obtain ⟨a, vs, h1, h2, h3, h4, h5⟩ := q
      exact ⟨a, vs, h1, h2, h3, (upd_ne fun z => h3 (.inr z)).trans h4, (h5.gdE.mono E).gdI⟩
    | dct ks xs =>
      obtain ⟨a, vs, h1, h2, h3, h4, h5, h6⟩ := q
      exact ⟨a, vs, h1, h2, h3, (upd_ne fun z => h3 (.inr z)).trans h4, h5, (h6.gdE.mono E).gdI⟩
  · obtain ⟨u, e⟩ := S.F0 a ha
    exact ⟨u, (upd_ne fun z => nF (by rw [← z]; exact ha)).trans e⟩
  · rcases ha with ha | rfl
    · obtain ⟨u, e⟩ := S.G0 a (.inl ha)
      exact ⟨u, (upd_ne fun z => nG (by rw [← z]; exact ha)).trans e⟩
    · exact ⟨o, upd_same⟩
theorem SrcJ.reg {cn : Cn} (hf : w'.f = w.f) (hF : w'.F = w.F) {src : Src} {J : L2.It} (x : SrcJ cn w H src J) : SrcJ cn w' H src J := by
  cases x with
  | lst h n => exact .lst (h.reg hf hF) n
  | tup h => exact .tup (h.reg hf hF)
  | str z => exact .str z
  | rng lo n => exact .rng lo n
  | enum h n => exact .enum (h.reg hf hF) n
  | enumT h => exact .enumT (h.reg hf hF)
  | zip h n h' n' => exact .zip (h.reg hf hF) n (h'.reg hf hF) n'
  | zipT h h' => exact .zipT (h.reg hf hF) (h'.reg hf hF)
end

/-! ### one turn of a clause -/
section
variable {elt : Expr} {gens : List Comprehension} {scope : Scope} {pos : Pos} {d : Nat} {it acc : Value} {env : Env} {tg iter : Expr} {ifs : List Expr}
theorem turn_last (h1 : gens[d]? = some ⟨tg, iter, ifs, 0⟩) (h2 : gens[d + 1]? = none) :
    compTurn (.ListComp elt gens scope pos) d it acc env = (do
      standAt iter.pos
      match ← pyNext it with
      | none => pure (.done .next)
      | some got =>
        letOwnedTupleGo tg it got
        assign tg env got
        let mut ok := true
        for t in ifs do
          if ok then ok ← isTrue t env (eval t env)
        if ok then
          (do let _ ← call (.builtin "list.append") [acc, ← eval elt env])
        again (.compLoop (.ListComp elt gens scope pos) d it acc env)) := by
  unfold compTurn
  simp only [h1, h2]
  rfl
theorem turn_more {tg1 iter1 : Expr} {ifs1 : List Expr} (h1 : gens[d]? = some ⟨tg, iter, ifs, 0⟩) (h2 : gens[d + 1]? = some ⟨tg1, iter1, ifs1, 0⟩) :
    compTurn (.ListComp elt gens scope pos) d it acc env = (do
      standAt iter.pos
      match ← pyNext it with
      | none => pure (.done .next)
      | some got =>
        letOwnedTupleGo tg it got
        assign tg env got
        let mut ok := true
        for t in ifs do
          if ok then ok ← isTrue t env (eval t env)
        if ok then
          let x ← eval iter1 env
          standAt iter1.pos
          let x ← foldedSetIterable iter1 env x
          let _ ← runOwn (.compStart (.ListComp elt gens scope pos) (d + 1) (← holding [x] (pyIter x)) acc env) env
        again (.compLoop (.ListComp elt gens scope pos) d it acc env)) := by
  unfold compTurn
  simp only [h1, h2]
  rfl
variable {prog : Program} {w : World} {A : Around} {R : Result → Shared → Prop} {s : Shared}
abbrev tests (ifs : List Expr) (env : Env) : Sem Bool := forIn ifs true fun t r => if r = true then do let ok ← isTrue t env (eval t env); pure (ForInStep.yield ok) else pure (ForInStep.yield r)
abbrev nB (prog : Program) (w : World) (A : Around) (env : Env) (R : Result → Shared → Prop) : Value → Shared → Prop := notedBy (model prog w) A env fun e s' => R (.error e) s'
theorem loop_last (h1 : gens[d]? = some ⟨tg, iter, ifs, 0⟩) (h2 : gens[d + 1]? = none) (I : Nat → Shared → Prop)
    (turn : ∀ n s, I n s → wpAny (model prog w) A (pyNext it) (fun r s1 => match r with
      | none => R (.ok .next) s1
      | some got => wpAny (model prog w) A (letOwnedTupleGo tg it got) (fun _ s2 => wpAny (model prog w) A (assign tg env got) (fun _ s3 => wpAny (model prog w) A (tests ifs env) (fun ok s4 =>
            if ok = true then wpAny (model prog w) A (eval elt env) (fun x s5 => wpAny (model prog w) A (call (.builtin "list.append") [acc, x]) (fun _ s6 => ∃ m, m < n ∧ I m s6) (nB prog w A env R) s5) (nB prog w A env R) s4
            else ∃ m, m < n ∧ I m s4) (nB prog w A env R) s3) (nB prog w A env R) s2) (nB prog w A env R) s1) (nB prog w A env R) s)
    (n : Nat) (hI : I n s) : codeAny (model prog w) A (.compLoop (.ListComp elt gens scope pos) d it acc env) R s := by
  refine codeAny_loop rfl I (fun n s hI => ?_) n hI
  show wpAny _ A ((compTurn (.ListComp elt gens scope pos) d it acc env).onRaise (fun x => do noteFrame x env; theTreesLotGoes x)) _ _ s
  refine wpAny_noted ?_
  rw [turn_last h1 h2]
  refine wpAny_bind (wpAny_standAt (wpAny_bind (wpAny_mono (turn n s hI) (fun r z1 k1 => ?_) fun _ _ q => q)))
  cases r with
  | none => exact wpAny_pure k1
  | some got =>
    refine wpAny_bind (wpAny_mono k1 (fun _ z2 k2 => wpAny_bind (wpAny_mono k2 (fun _ z3 k3 => wpAny_bind (wpAny_mono k3 (fun ok z4 k4 => ?_) fun _ _ q => q)) fun _ _ q => q)) fun _ _ q => q)
    cases ok with
    | false => exact wpAny_pure ⟨rfl, k4⟩
    | true => exact wpAny_bind (wpAny_bind (wpAny_mono k4 (fun x z5 k5 => wpAny_bind (wpAny_mono k5 (fun _ z6 k6 => wpAny_pure (wpAny_pure ⟨rfl, k6⟩)) fun _ _ q => q)) fun _ _ q => q))
theorem loop_more {tg1 iter1 : Expr} {ifs1 : List Expr} (h1 : gens[d]? = some ⟨tg, iter, ifs, 0⟩) (h2 : gens[d + 1]? = some ⟨tg1, iter1, ifs1, 0⟩) (hs : ∀ x, foldedSetIterable iter1 env x = pure x) (I : Nat → Shared → Prop)
    (turn : ∀ n s, I n s → wpAny (model prog w) A (pyNext it) (fun r s1 => match r with
      | none => R (.ok .next) s1
      | some got => wpAny (model prog w) A (letOwnedTupleGo tg it got) (fun _ s2 => wpAny (model prog w) A (assign tg env got) (fun _ s3 => wpAny (model prog w) A (tests ifs env) (fun ok s4 =>
            if ok = true then wpAny (model prog w) A (eval iter1 env) (fun x s5 => wpAny (model prog w) A (pyIter x) (fun it1 s6 =>
              codeAny (model prog w) A (.compStart (.ListComp elt gens scope pos) (d + 1) it1 acc env) (fun r z => match r with
                | .ok _ => ∃ m, m < n ∧ I m z
                | .error _ => False) s6) (nB prog w A env R) s5) (nB prog w A env R) s4
            else ∃ m, m < n ∧ I m s4) (nB prog w A env R) s3) (nB prog w A env R) s2) (nB prog w A env R) s1) (nB prog w A env R) s)
    (n : Nat) (hI : I n s) : codeAny (model prog w) A (.compLoop (.ListComp elt gens scope pos) d it acc env) R s := by
  refine codeAny_loop rfl I (fun n s hI => ?_) n hI
  show wpAny _ A ((compTurn (.ListComp elt gens scope pos) d it acc env).onRaise (fun x => do noteFrame x env; theTreesLotGoes x)) _ _ s
  refine wpAny_noted ?_
  rw [turn_more h1 h2]
  refine wpAny_bind (wpAny_standAt (wpAny_bind (wpAny_mono (turn n s hI) (fun r z1 k1 => ?_) fun _ _ q => q)))
  cases r with
  | none => exact wpAny_pure k1
  | some got =>
    refine wpAny_bind (wpAny_mono k1 (fun _ z2 k2 => wpAny_bind (wpAny_mono k2 (fun _ z3 k3 => wpAny_bind (wpAny_mono k3 (fun ok z4 k4 => ?_) fun _ _ q => q)) fun _ _ q => q)) fun _ _ q => q)
    cases ok with
    | false => exact wpAny_pure ⟨rfl, k4⟩
    | true =>
      refine wpAny_bind (wpAny_mono k4 (fun x z5 k5 => ?_) fun _ _ q => q)
      refine wpAny_bind (wpAny_standAt (wpAny_bind (wpAny_of_eq (hs x) (wpAny_bind (wpAny_holding (wpAny_mono k5 (fun it1 z6 k6 => ?_) fun _ _ q => q))))))
      refine wpAny_bind (wpAny_runOwn ?_)
      rw [Around.mark_none]
      refine codeAny_mono k6 fun r z7 k7 => ?_
      cases r with
      | ok f =>
        first
          | exact wpAny_pure ⟨rfl, k7⟩
          | exact wpAny_bind (wpAny_pure (wpAny_pure ⟨rfl, k7⟩))
      | error e => exact k7.elim
theorem start_any (h1 : gens[d]? = some ⟨tg, iter, ifs, 0⟩) (k0 : codeAny (model prog w) A (.compLoop (.ListComp elt gens scope pos) d it acc env) R s)
    (k : wpAny (model prog w) A (pyIter it) (fun it1 z => codeAny (model prog w) A (.compLoop (.ListComp elt gens scope pos) d it1 acc env) R z) (nB prog w A env R) s) :
    codeAny (model prog w) A (.compStart (.ListComp elt gens scope pos) d it acc env) R s := by
  refine codeAny_of_tree ?_
  show wpAny _ _ ((compStart (.ListComp elt gens scope pos) d it acc env).onRaise (fun x => do noteFrame x env; standAt theWindowsPlace)) _ _ s
  refine wpAny_notedAt ?_
  unfold compStart
  simp only [show clausesOf (.ListComp elt gens scope pos) = gens from rfl, h1]
  show wpAny _ _ (ask >>= _) _ _ s
  refine wpAny_bind (wpAny_askSetting (wpAny_ite ?_))
  split
  · first
      | exact wpAny_bind (wpAny_pure (wpAny_pure ⟨rfl, k0⟩))
      | exact wpAny_pure ⟨rfl, k0⟩
  · first
      | exact wpAny_bind (wpAny_rule (wpAny_bind (wpAny_standAt (wpAny_bind (wpAny_mono k (fun _ z q => wpAny_pure ⟨rfl, q⟩) fun _ _ q => q)))))
      | (refine wpAny_bind (wpAny_rule ?_); show wpAny _ _ (standAt iter.pos >>= _) _ _ s; exact wpAny_bind (wpAny_standAt (wpAny_bind (wpAny_mono k (fun _ z q => wpAny_pure ⟨rfl, q⟩) fun _ _ q => q))))
end
end J

set_option autoImplicit false
set_option linter.all false
set_option maxRecDepth 100000
set_option maxHeartbeats 2000000
/-! JD: the loops of a comprehension's clauses. -/
namespace J
open PySem PySem.Spec PyProof.Rows L2
section
variable {α β : Type}
theorem bind_inv {m : M α} {k : α → M β} {h h2 : Hh} {b : β} (e : (m >>= k) h = .ok b h2) : ∃ a h1, m h = .ok a h1 ∧ k a h1 = .ok b h2 := by
  cases q : m h with
  | ok a h1 => rw [bind_ok q] at e; exact ⟨a, h1, rfl, e⟩
  | exc c v h1 => rw [bind_exc q] at e; cases e
  | bad => rw [bind_bad q] at e; cases e
theorem opt_inv {x : Option α} {a : α} {h h1 : Hh} (e : opt x h = .ok a h1) : x = some a ∧ h1 = h := by
  cases x with
  | none => cases e
  | some y =>
    have : Out.ok y h = .ok a h1 := e
    cases this; exact ⟨rfl, rfl⟩
theorem pure_inv {a b : α} {h h1 : Hh} (e : (pure a : M α) h = .ok b h1) : a = b ∧ h = h1 := by
  have : Out.ok a h = .ok b h1 := e
  cases this; exact ⟨rfl, rfl⟩
theorem go_inv {src : Src} {body : PV → M (List PV)} {n i : Nat} {h hE : Hh} {xs : List PV} (e : compGo src body (n + 1) i h = .ok xs hE) :
    (item h src i = some none ∧ xs = [] ∧ hE = h) ∨ ∃ x ys h1 zs, item h src i = some (some x) ∧ body x h = .ok ys h1 ∧ compGo src body n (i + 1) h1 = .ok zs hE ∧ xs = ys ++ zs := by
  simp only [compGo] at e
  cases q : item h src i with
  | none => rw [q] at e; cases e
  | some o =>
    rw [q] at e
    cases o with
    | none => cases e; exact .inl ⟨rfl, rfl, rfl⟩
    | some x =>
      obtain ⟨ys, h1, e1, e⟩ := bind_inv e
      obtain ⟨zs, h2, e2, e⟩ := bind_inv e
      obtain ⟨rfl, rfl⟩ := pure_inv e
      exact .inr ⟨x, ys, h1, zs, rfl, e1, e2, rfl⟩
mutual
theorem asgn_out : ∀ {t : Tg} {x : PV} {env env' : En} {j : Nat}, asgn t x env = some env' → j ∉ tgIx t → env'[j]? = env[j]?
  | .name i, x, env, env', j, e, hj => by
    simp only [asgn] at e
    split at e
    · cases e; exact List.getElem?_set_ne (by simpa [tgIx, eq_comm] using hj)
    · cases e
  | .nil, _, _, _, _, e, _ => by simp [asgn] at e
  | .cons t ts, x, env, env', j, e, hj => by
    cases x <;> simp only [asgn] at e <;> first | exact asgns_out e hj | cases e
theorem asgns_out : ∀ {t : Tg} {xs : List PV} {env env' : En} {j : Nat}, asgns t xs env = some env' → j ∉ tgIx t → env'[j]? = env[j]?
  | .nil, xs, _, _, _, e, _ => by
    cases xs with
    | nil => simp [asgns] at e; rw [e]
    | cons _ _ => simp [asgns] at e
  | .name _, xs, _, _, _, e, _ => by simp [asgns] at e
  | .cons t ts, xs, env, env', j, e, hj => by
    cases xs with
    | nil => simp [asgns] at e
    | cons x xs =>
      simp only [asgns, Option.bind_eq_some_iff] at e
      obtain ⟨env1, e1, e2⟩ := e
      simp only [tgIx, List.mem_append, not_or] at hj
      exact (asgns_out e2 hj.2).trans (asgn_out e1 hj.1)
end
end
/-- one clause's turn: the store, the tests, what stands behind them -/
abbrev bodyOf (t : Tg) (cs : En → M Bool) (k : En → M (List PV)) (env : En) (x : PV) : M (List PV) := opt (asgn t x env) >>= fun env' => cs env' >>= fun b => if b then k env' else pure []
theorem body_inv {t : Tg} {cs : En → M Bool} {k : En → M (List PV)} {env : En} {x : PV} {h h1 : Hh} {ys : List PV} (e : bodyOf t cs k env x h = .ok ys h1) :
    ∃ env' b h2, asgn t x env = some env' ∧ cs env' h = .ok b h2 ∧ ((b = true ∧ k env' h2 = .ok ys h1) ∨ (b = false ∧ ys = [] ∧ h1 = h2)) := by
  obtain ⟨env', h0, e1, q⟩ := bind_inv (m := opt (asgn t x env)) (k := fun env' => cs env' >>= fun b => if b then k env' else pure []) e
  obtain ⟨e3, e4⟩ := opt_inv e1
  rw [e4] at q
  obtain ⟨b, h2, e2, q2⟩ := bind_inv (m := cs env') (k := fun b => if b then k env' else pure []) q
  cases b with
  | true => exact ⟨env', true, h2, e3, e2, .inl ⟨rfl, q2⟩⟩
  | false =>
    obtain ⟨q3, q4⟩ := pure_inv q2
    exact ⟨env', false, h2, e3, e2, .inr ⟨rfl, q3.symm, q4.symm⟩⟩
/-- the clauses of a comprehension, read in the block's context -/
inductive GJ (cn : Cn) (B : Cx) (elt : Expr) (te : En → M PV) : List Comprehension → List Nat → (En → Src → M (List PV)) → Prop where
  | last {tg iter : Expr} {ifs : List Expr} {t : Tg} {cs : En → M Bool} (pg : PG B tg (gJ cn t)) (pt : PTs B ifs (tBo cn WxF cs)) (pe : PE B elt (tV cn WxF te)) :
      GJ cn B elt te [⟨tg, iter, ifs, 0⟩] (tgIx t) fun env src h => compGo src (bodyOf t cs (fun env' => te env' >>= fun y => pure [y]) env) (turns h src) 0 h
  | cons {tg iter tg1 iter1 : Expr} {ifs ifs1 : List Expr} {l : List Comprehension} {t : Tg} {cs : En → M Bool} {i1 : En → M Src} {ix : List Nat} {G : En → Src → M (List PV)} (pg : PG B tg (gJ cn t)) (pt : PTs B ifs (tBo cn WxF cs))
      (hs : ∀ env x, foldedSetIterable iter1 env x = pure x) (p1 : PI B tg1 iter1 (tSr cn WxF i1)) (r : GJ cn B elt te (⟨tg1, iter1, ifs1, 0⟩ :: l) ix G) (dis : ∀ j ∈ tgIx t, j ∉ ix) :
      GJ cn B elt te (⟨tg, iter, ifs, 0⟩ :: ⟨tg1, iter1, ifs1, 0⟩ :: l) (tgIx t ++ ix) fun env src h => compGo src (bodyOf t cs (fun env' => i1 env' >>= fun src1 => G env' src1) env) (turns h src) 0 h
section
variable {cn : Cn} {B : Cx} {elt : Expr} {te : En → M PV} {gens : List Comprehension} {scope : Scope} {pos : Pos} {D : Addr}
/-- where a clause's loop stands between two turns -/
structure Mid (cn : Cn) (B : Cx) (pins : List (Addr × Obj)) (σ1 : L2.St) (fp : List Addr) (tn : Nat → Heap → Prop) (w : Wd) (H : Hp) (D : Addr) (acc : List V) (xs : List PV) (hE : Hh) (go : Nat → Nat → M (List PV)) (n : Nat) (s' : Shared) (i : Nat) (H' : Hp) (h' : Hh) (w' : Wd) (xs' dn : List PV) (vs' : List V) : Prop where
  e : go n i h' = .ok xs' hE
  I : Inv B pins σ1 H' s'
  st : tn i s'.heap
  fr : ∀ b ∈ fp, H' b = none
  E : Ext w H w' H'
  S : Sim cn.K (w'.gd D) h' H'
  r : Rls cn.K w' H' dn vs'
  x : xs = dn ++ xs'
  D : H' D = some (.lst (acc ++ vs'))
theorem Re.wiped {K : PySem.W.Frag} {w : Wd} {H : Hp} {env : En} {σ : L2.St} (r : Re K w H env σ) {ix : List Nat} (hn : ∀ j ∈ ix, ∀ x, env[j]? ≠ some (some x)) : Re K w H env (L2.wipe σ ix) :=
  ⟨by rw [wipe_length]; exact r.1, fun i x hx => by rw [wipe_out fun z => hn i z x hx]; exact r.2 i x hx⟩
theorem cl_loop (hc : B.calm = true) (hxe : B.xe = fun _ _ => False) (hK : B.K = cn.K) {l : List Comprehension} {ix : List Nat} {G : En → Src → M (List PV)} (j : GJ cn B elt te l ix G) :
    ∀ {tg iter : Expr} {ifs : List Expr} {rest : List Comprehension}, l = ⟨tg, iter, ifs, 0⟩ :: rest → ∀ {d : Nat}, gens.drop d = l → ∀ {pins : List (Addr × Obj)} {σ0 σ : L2.St} {H : Hp} {s : Shared} {it : Addr} {fp : List Addr} {tn : Nat → Heap → Prop} {J : L2.It} {src : Src} {env : En} {w : Wd} {h : Hh} {acc : List V} {xs : List PV} {hE : Hh} {R : Result → Shared → Prop},
      Turn B.prog B.w B.K tg J fp it tn → tn 0 s.heap → (∀ b ∈ fp, FpOk B pins H b) → Inv B pins σ H s → σ0.length = σ.length → (∀ (j : Nat) v, σ0[j]? = some (some v) → j ∉ ix ∧ σ[j]? = some (some v)) → SrcJ cn w H src J → Sim cn.K (w.gd D) h H → ¬ w.G D →
      Re cn.K w H env σ → (∀ j ∈ ix, ∀ x, env[j]? ≠ some (some x)) → H D = some (.lst acc) → G env src h = .ok xs hE → acc.length + xs.length ≤ sizeL →
      (∀ w' H' vs s', Ext w H w' H' → Sim cn.K (w'.gd D) hE H' → Rls cn.K w' H' xs vs → H' D = some (.lst (acc ++ vs)) → Inv B pins σ0 H' s' → R (.ok .next) s') →
      codeAny (model B.prog B.w) B.A (.compLoop (.ListComp elt gens scope pos) d (.ref it) (.ref D) B.env) R s := by
  induction j with
  | last pg pt pe =>
    rename_i tg iter ifs t cs
    intro tg' iter' ifs' rest hl d hd pins σ0 σ H s it fp tn J src env w h acc xs hE R T st0 hf I hlen hσ sj S nG re hn hD e hz k
    cases hl
    have h1 : gens[d]? = some ⟨tg, iter, ifs, 0⟩ := by have := congrArg (·[0]?) hd; simpa using this
    have h2 : gens[d + 1]? = none := by have := congrArg (·[1]?) hd; simpa using this
    have stat : ∀ {H' : Hp}, (∀ b ∈ fp, H' b = none) → ∀ b ∈ fp, FpOk B pins H' b := fun hn b hb => ⟨hn b hb, (hf b hb).2⟩
    refine loop_last h1 h2 (fun n s' => ∃ i H' h' w' xs' dn vs', Mid cn B pins (L2.wipe σ (tgIx t)) fp tn w H D acc xs hE (fun n i => compGo src (bodyOf t cs (fun env' => te env' >>= fun y => pure [y]) env) n i) n s' i H' h' w' xs' dn vs') ?_ (turns h src)
      ⟨0, H, h, w, xs, [], [], e, I.weak (wipe_length _ _) (fun j v q => (wipe_some q).1), st0, fun b hb => (hf b hb).1, Ext.refl _ _, S, rfl, rfl, by simpa using hD⟩
    rintro n s1 ⟨i, H1, h1', w1, xs1, dn, vs1, m⟩
    cases n with
    | zero => exact absurd m.e (by intro z; cases z)
    | succ n =>
      have nG1 : ¬ w1.G D := by rw [m.E.Ge]; exact nG
      rcases go_inv m.e with ⟨q1, rfl, rfl⟩ | ⟨x, ys, h2', zs, q1, q2, q3, rfl⟩
      · refine thnF (T.done B rfl rfl rfl hc i pins s1 _ H1 (fun _ _ => False) m.I (stat m.fr) m.st ((sj.mono m.E).stop m.S.ungd q1)) fun r s2 ⟨hr, I2⟩ => ?_
        subst hr
        have hx : xs = dn := by simpa using m.x
        subst hx
        refine k w1 H1 vs1 s2 m.E m.S m.r m.D (I2.weak (by rw [wipe_length]; exact hlen) fun j v q => ?_)
        obtain ⟨q1, q2⟩ := hσ j v q
        rw [wipe_out q1]; exact q2
      · obtain ⟨g1, g2⟩ := (SrcJ.reg (w := w1) (w' := w1.gd D) rfl rfl (sj.mono m.E)).go m.S q1
        refine thnF (T.item B rfl rfl rfl hc i pins s1 _ H1 (fun _ _ => False) m.I (stat m.fr) m.st g1) fun r s2 ⟨u, hr, z2⟩ => ?_
        subst hr
        refine thnF z2 fun _ s3 ⟨v, H3, I3, r3, y3, st3, n3⟩ => ?_
        obtain ⟨E3, S3, rx⟩ := g2 v H3 y3
        obtain ⟨w3, ew3, E3', D3⟩ := E3.ungd
        obtain ⟨env', b, h3', a1, a2, a3⟩ := body_inv q2
        have I3' := I3.pinned (stat n3) (T.obj _ _ st3)
        have re3 : Re cn.K w3 H3 env (L2.wipe σ (tgIx t)) := ((re.mono m.E).mono E3').wiped hn
        rw [ew3] at S3 rx
        have pgr := pg.run _ s3 _ H3 v u (fun σ8 H8 => H8 = H3 ∧ Re cn.K w3 H3 env' σ8 ∧ Same (tgIx t) (L2.wipe σ (tgIx t)) σ8) I3' r3 ⟨w3.gd D, h1', env, x, env', S3, re3.gdI, rx, a1, fun σ8 R8 m8 => ⟨rfl, R8.gdE, m8⟩⟩
        rw [hxe] at pgr
        refine thnF pgr fun _ s4 ⟨σ8, H8, I8, eH8, R8, m8⟩ => ?_
        subst eH8
        have ptr := pt.run _ s4 σ8 H8 (fun b' H9 => b' = b ∧ ∃ w4, Ext w3 H8 w4 H9 ∧ Sim cn.K (w4.gd D) h3' H9 ∧ H9 D = H8 D) I8 ⟨w3.gd D, h1', env', S3, R8.gdI, by
          rw [a2]
          intro w' H' E' S' b' hb'
          obtain ⟨w4, rfl, E4, D4⟩ := E'.ungd
          exact ⟨hb'.symm, w4, E4, S', D4⟩⟩
        rw [hxe] at ptr
        refine thnF ptr fun b' s5 ⟨H9, I9, eb, w4, E4, S4, D4⟩ => ?_
        subst eb
        have E04 : Ext w H w4 H9 := (m.E.trans E3').trans E4
        have r4 : Rls cn.K w4 H9 dn vs1 := (m.r.mono E3').mono E4
        have D9 : H9 D = some (.lst (acc ++ vs1)) := D4.trans (D3.trans m.D)
        have close : ∀ {z : Shared} {H' : Hp} {h' : Hh} {w' : Wd} {dn' : List PV} {vs' : List V}, Inv B (pins ++ pinsAt fp s3.heap) σ8 H' z → compGo src (bodyOf t cs (fun env' => te env' >>= fun y => pure [y]) env) n (i + 1) h' = .ok zs hE → Ext w H w' H' → Sim cn.K (w'.gd D) h' H' → Rls cn.K w' H' dn' vs' →
            xs = dn' ++ zs → H' D = some (.lst (acc ++ vs')) → ∃ m, m < n + 1 ∧ ∃ i H' h' w' xs' dn vs', Mid cn B pins (L2.wipe σ (tgIx t)) fp tn w H D acc xs hE (fun n i => compGo src (bodyOf t cs (fun env' => te env' >>= fun y => pure [y]) env) n i) m z i H' h' w' xs' dn vs' := fun {z H' h' w' dn' vs'} I' e' E' S' r' x' D' => by
          have pin' : ∀ b ∈ fp, ∀ o, s3.heap.get? b = some o → z.heap.get? b = some o ∧ H' b = none := fun b hb o q =>
            let y := I'.pin (b, o) (List.mem_append_right _ (List.mem_append_right _ (mem_pinsAt hb q)))
            ⟨y.1, y.2.1⟩
          refine ⟨n, Nat.lt_succ_self n, i + 1, H', h', w', zs, dn', vs', e', I'.unpinned.weak m8.1.symm (fun j v q => ?_), T.keep _ _ _ st3 fun b hb o q => (pin' b hb o q).1, fun b hb => ?_, E', S', r', x', D'⟩
          · obtain ⟨_, q2⟩ := wipe_some q
            rw [m8.2 j q2]; exact q
          · obtain ⟨o, q, _⟩ := T.obj _ _ st3 b hb
            exact (pin' b hb o q).2
        rcases a3 with ⟨rfl, a3⟩ | ⟨rfl, rfl, rfl⟩
        · rw [if_pos rfl]
          obtain ⟨y, h4', a4, a5⟩ := bind_inv a3
          obtain ⟨rfl, rfl⟩ := pure_inv a5
          have per := pe.run _ s5 σ8 H9 (fun yv H10 => ∃ w5, Ext w4 H9 w5 H10 ∧ Sim cn.K (w5.gd D) h4' H10 ∧ H10 D = H9 D ∧ Rl cn.K w5 H10 y yv) I9 ⟨w4.gd D, h3', env', S4, (R8.mono E4).gdI, by
            rw [a4]
            intro w' H' E' S' yv ry
            obtain ⟨w5, rfl, E5, D5⟩ := E'.ungd
            exact ⟨w5, E5, S', D5, ry.gdE⟩⟩
          rw [hxe] at per
          refine thnF per fun z s6 ⟨yv, H10, I10, r10, w5, E5, S5, D5, ry⟩ => ?_
          have D10 : H10 D = some (.lst (acc ++ vs1)) := D5.trans D9
          have l1 := m.r.len
          have l2 : xs.length = dn.length + (1 + zs.length) := by rw [m.x]; simp; omega
          refine app_ok I10 D10 (by rw [sizeLine_is]; simp; omega) r10 fun s7 I7 => ?_
          have nG5 : ¬ w5.G D := by rw [E5.Ge, E04.Ge]; exact nG
          obtain ⟨E6, S6⟩ := put_D (o := .lst ((acc ++ vs1) ++ [yv])) S5 nG5 D10
          refine close (dn' := dn ++ [y]) (vs' := vs1 ++ [yv]) I7 q3 ((E04.trans E5).trans E6) S6 (((r4.mono E5).mono E6).app ⟨yv, [], rfl, ry.mono E6, rfl⟩) (by rw [m.x]; simp) ?_
          rw [upd_same, List.append_assoc]
        · rw [if_neg (by decide)]
          exact close I9 q3 E04 S4 r4 (by rw [m.x]; simp) D9
  | cons pg pt hs p1 r dis ih =>
    rename_i tg iter tg1 iter1 ifs ifs1 l t cs i1 ix G
    intro tg' iter' ifs' rest hl d hd pins σ0 σ H s it fp tn J src env w h acc xs hE R T st0 hf I hlen hσ sj S nG re hn hD e hz k
    cases hl
    have h1 : gens[d]? = some ⟨tg, iter, ifs, 0⟩ := by have := congrArg (·[0]?) hd; simpa using this
    have h2 : gens[d + 1]? = some ⟨tg1, iter1, ifs1, 0⟩ := by have := congrArg (·[1]?) hd; simpa using this
    have hd1 : gens.drop (d + 1) = ⟨tg1, iter1, ifs1, 0⟩ :: l := by have := congrArg (List.drop 1) hd; simpa [List.drop_drop] using this
    have stat : ∀ {H' : Hp}, (∀ b ∈ fp, H' b = none) → ∀ b ∈ fp, FpOk B pins H' b := fun hn b hb => ⟨hn b hb, (hf b hb).2⟩
    refine loop_more h1 h2 (hs B.env) (fun n s' => ∃ i H' h' w' xs' dn vs', Mid cn B pins (L2.wipe σ (tgIx t ++ ix)) fp tn w H D acc xs hE (fun n i => compGo src (bodyOf t cs (fun env' => i1 env' >>= fun src1 => G env' src1) env) n i) n s' i H' h' w' xs' dn vs') ?_ (turns h src)
      ⟨0, H, h, w, xs, [], [], e, I.weak (wipe_length _ _) (fun j v q => (wipe_some q).1), st0, fun b hb => (hf b hb).1, Ext.refl _ _, S, rfl, rfl, by simpa using hD⟩
    rintro n s1 ⟨i, H1, h1', w1, xs1, dn, vs1, m⟩
    cases n with
    | zero => exact absurd m.e (by intro z; cases z)
    | succ n =>
      have nG1 : ¬ w1.G D := by rw [m.E.Ge]; exact nG
      rcases go_inv m.e with ⟨q1, rfl, rfl⟩ | ⟨x, ys, h2', zs, q1, q2, q3, rfl⟩
      · refine thnF (T.done B rfl rfl rfl hc i pins s1 _ H1 (fun _ _ => False) m.I (stat m.fr) m.st ((sj.mono m.E).stop m.S.ungd q1)) fun r s2 ⟨hr, I2⟩ => ?_
        subst hr
        have hx : xs = dn := by simpa using m.x
        subst hx
        refine k w1 H1 vs1 s2 m.E m.S m.r m.D (I2.weak (by rw [wipe_length]; exact hlen) fun j v q => ?_)
        obtain ⟨q1, q2⟩ := hσ j v q
        rw [wipe_out q1]; exact q2
      · obtain ⟨g1, g2⟩ := (SrcJ.reg (w := w1) (w' := w1.gd D) rfl rfl (sj.mono m.E)).go m.S q1
        refine thnF (T.item B rfl rfl rfl hc i pins s1 _ H1 (fun _ _ => False) m.I (stat m.fr) m.st g1) fun r s2 ⟨u, hr, z2⟩ => ?_
        subst hr
        refine thnF z2 fun _ s3 ⟨v, H3, I3, r3, y3, st3, n3⟩ => ?_
        obtain ⟨E3, S3, rx⟩ := g2 v H3 y3
        obtain ⟨w3, ew3, E3', D3⟩ := E3.ungd
        obtain ⟨env', b, h3', a1, a2, a3⟩ := body_inv q2
        have I3' := I3.pinned (stat n3) (T.obj _ _ st3)
        have re3 : Re cn.K w3 H3 env (L2.wipe σ (tgIx t ++ ix)) := ((re.mono m.E).mono E3').wiped hn
        rw [ew3] at S3 rx
        have pgr := pg.run _ s3 _ H3 v u (fun σ8 H8 => H8 = H3 ∧ Re cn.K w3 H3 env' σ8 ∧ Same (tgIx t) (L2.wipe σ (tgIx t ++ ix)) σ8) I3' r3 ⟨w3.gd D, h1', env, x, env', S3, re3.gdI, rx, a1, fun σ8 R8 m8 => ⟨rfl, R8.gdE, m8⟩⟩
        rw [hxe] at pgr
        refine thnF pgr fun _ s4 ⟨σ8, H8, I8, eH8, R8, m8⟩ => ?_
        subst eH8
        have ptr := pt.run _ s4 σ8 H8 (fun b' H9 => b' = b ∧ ∃ w4, Ext w3 H8 w4 H9 ∧ Sim cn.K (w4.gd D) h3' H9 ∧ H9 D = H8 D) I8 ⟨w3.gd D, h1', env', S3, R8.gdI, by
          rw [a2]
          intro w' H' E' S' b' hb'
          obtain ⟨w4, rfl, E4, D4⟩ := E'.ungd
          exact ⟨hb'.symm, w4, E4, S', D4⟩⟩
        rw [hxe] at ptr
        refine thnF ptr fun b' s5 ⟨H9, I9, eb, w4, E4, S4, D4⟩ => ?_
        subst eb
        have E04 : Ext w H w4 H9 := (m.E.trans E3').trans E4
        have r4 : Rls cn.K w4 H9 dn vs1 := (m.r.mono E3').mono E4
        have D9 : H9 D = some (.lst (acc ++ vs1)) := D4.trans (D3.trans m.D)
        have close : ∀ {z : Shared} {H' : Hp} {h' : Hh} {w' : Wd} {dn' : List PV} {vs' : List V} {σ9 : L2.St}, Inv B (pins ++ pinsAt fp s3.heap) σ9 H' z → (L2.wipe σ (tgIx t ++ ix)).length = σ9.length → (∀ (j : Nat) v, (L2.wipe σ (tgIx t ++ ix))[j]? = some (some v) → σ9[j]? = some (some v)) → compGo src (bodyOf t cs (fun env' => i1 env' >>= fun src1 => G env' src1) env) n (i + 1) h' = .ok zs hE → Ext w H w' H' → Sim cn.K (w'.gd D) h' H' → Rls cn.K w' H' dn' vs' →
            xs = dn' ++ zs → H' D = some (.lst (acc ++ vs')) → ∃ m, m < n + 1 ∧ ∃ i H' h' w' xs' dn vs', Mid cn B pins (L2.wipe σ (tgIx t ++ ix)) fp tn w H D acc xs hE (fun n i => compGo src (bodyOf t cs (fun env' => i1 env' >>= fun src1 => G env' src1) env) n i) m z i H' h' w' xs' dn vs' := fun {z H' h' w' dn' vs' σ9} I' hl9 hk9 e' E' S' r' x' D' => by
          have pin' : ∀ b ∈ fp, ∀ o, s3.heap.get? b = some o → z.heap.get? b = some o ∧ H' b = none := fun b hb o q =>
            let y := I'.pin (b, o) (List.mem_append_right _ (List.mem_append_right _ (mem_pinsAt hb q)))
            ⟨y.1, y.2.1⟩
          refine ⟨n, Nat.lt_succ_self n, i + 1, H', h', w', zs, dn', vs', e', I'.unpinned.weak hl9 hk9, T.keep _ _ _ st3 fun b hb o q => (pin' b hb o q).1, fun b hb => ?_, E', S', r', x', D'⟩
          obtain ⟨o, q, _⟩ := T.obj _ _ st3 b hb
          exact (pin' b hb o q).2
        rcases a3 with ⟨rfl, a3⟩ | ⟨rfl, rfl, rfl⟩
        · rw [if_pos rfl]
          obtain ⟨src1, h4', a4, a5⟩ := bind_inv a3
          have per := p1.run _ s5 σ8 H9 (fun J1 H10 => ∃ w5, Ext w4 H9 w5 H10 ∧ Sim cn.K (w5.gd D) h4' H10 ∧ H10 D = H9 D ∧ SrcJ cn w5 H10 src1 J1) I9 ⟨w4.gd D, h3', env', S4, (R8.mono E4).gdI, by
            rw [a4]
            intro w' H' E' S' J1 sj1
            obtain ⟨w5, rfl, E5, D5⟩ := E'.ungd
            exact ⟨w5, E5, S', D5, SrcJ.reg (w := w5.gd D) (w' := w5) rfl rfl sj1⟩⟩
          rw [hxe] at per
          refine thnF per fun xv s6 z6 => thnF z6 fun itv s7 z7 => ?_
          obtain ⟨it1, fp1, tn1, J1, H10, e10, I10, T1, st10, f10, w5, E5, S5, D5, sj1⟩ := z7
          subst e10
          have D10 : H10 D = some (.lst (acc ++ vs1)) := D5.trans D9
          have l1 := m.r.len
          have l2 : xs.length = dn.length + (ys.length + zs.length) := by rw [m.x]; simp
          have nG5 : ¬ w5.G D := by rw [E5.Ge, E04.Ge]; exact nG
          have inner : ∀ itx : Value, itx = .ref it1 → codeAny (model B.prog B.w) B.A (.compLoop (.ListComp elt gens scope pos) (d + 1) itx (.ref D) B.env) (fun r z => match r with
              | .ok _ => ∃ m, m < n + 1 ∧ ∃ i H' h' w' xs' dn vs', Mid cn B pins (L2.wipe σ (tgIx t ++ ix)) fp tn w H D acc xs hE (fun n i => compGo src (bodyOf t cs (fun env' => i1 env' >>= fun src1 => G env' src1) env) n i) m z i H' h' w' xs' dn vs'
              | .error _ => False) s7 := fun itx eitx => by
            subst eitx
            refine ih rfl hd1 T1 st10 f10 I10 (σ0 := L2.wipe σ (tgIx t ++ ix)) m8.1.symm (fun j v q => ?_) sj1 S5 nG5 ((R8.mono E4).mono E5) (fun j hj y q => ?_) D10 a5 (by simp; omega) (fun w' H' vs z E' S' r' D' I' => ?_)
            · obtain ⟨_, q2⟩ := wipe_some q
              exact ⟨fun z => q2 (List.mem_append_right _ z), by rw [m8.2 j fun z => q2 (List.mem_append_left _ z)]; exact q⟩
            · rw [asgn_out a1 fun z => dis j z hj] at q
              exact hn j (List.mem_append_right _ hj) y q
            · refine close (σ9 := L2.wipe σ (tgIx t ++ ix)) (dn' := dn ++ ys) (vs' := vs1 ++ vs) I' rfl (fun j v q => q) q3 ((E04.trans E5).trans E') S' (((r4.mono E5).mono E').app r') (by rw [m.x]; simp) (by rw [D', List.append_assoc])
          exact start_any h2 (inner _ rfl) (T1.self B.A 0 _ _ _ st10 (inner _ rfl))
        · rw [if_neg (by decide)]
          exact close I9 m8.1.symm (fun j v q => by rw [m8.2 j fun z => (wipe_some q).2 (List.mem_append_left _ z)]; exact q) q3 E04 S4 r4 (by rw [m.x]; simp) D9
end
end J

set_option autoImplicit false
set_option linter.all false
set_option maxRecDepth 100000
set_option maxHeartbeats 2000000
/-! JF: list comprehensions, whole. -/
namespace J
open PySem PySem.Spec PyProof.Rows L2
section
variable {K : PySem.W.Frag} {w w' : Wd} {H H' : Hp} {h : Hh} {D : Addr}
theorem put_fz (S : Sim K (w.gd D) h H) (nG : ¬ w.G D) {o : HO} (hD : H D = some o) : Ext w H (w.fz D) H ∧ Sim K (w.fz D) h H := by
  have E : Ext w H (w.fz D) H := ⟨⟨[], by simp [Wd.fz]⟩, fun a ha => ⟨.inl ha, rfl⟩, fun _ _ => rfl, rfl, fun _ _ e => e, fun _ _ _ e => e⟩
  have U := S.ungd
  refine ⟨E, ⟨U.len, fun n c e => ?_, U.inj, fun a ha => ?_, U.G0, fun a ha hg => ?_⟩⟩
  · by_cases hc : c = .dead
    · subst hc; trivial
    · obtain ⟨b, k1, _, k3, _⟩ := (S.cells n c e).addr hc
      refine (U.cells n c e).mono E fun a h1 h2 h3 _ => ⟨fun z => ?_, rfl⟩
      rw [show (w.gd D).f[n]? = w.f[n]? from rfl, h1] at k1
      cases k1
      exact z.elim h2 fun z => k3 (.inr z)
  · rcases ha with ha | rfl
    · exact U.F0 a ha
    · exact ⟨o, hD⟩
  · rcases ha with ha | rfl
    · exact U.FG a ha hg
    · exact nG hg
theorem put_at (S : Sim K (w.gd D) h H) (nG : ¬ w.G D) {xs : List PV} {vs : List V} (hD : H D = some (.lst vs)) (r : Rls K w H xs vs) : Ext w H (w.at D) H ∧ Sim K (w.at D) (h ++ [.lst xs]) H := by
  have E : Ext w H (w.at D) H := ⟨⟨[D], rfl⟩, fun a ha => ⟨ha, rfl⟩, fun _ _ => rfl, rfl, fun _ _ e => e, fun _ _ _ e => e⟩
  have U := S.ungd
  have nF : ¬ w.F D := fun z => S.FG D z (.inr rfl)
  have fl : (w.at D).f[h.length]? = some D := by
    show (w.f ++ [D])[h.length]? = _
    rw [U.len]; simp
  have old : ∀ {n : Nat} {a : Addr}, n < h.length → (w.at D).f[n]? = some a → w.f[n]? = some a := fun {n a} hn e => by
    have e : (w.f ++ [D])[n]? = some a := e
    rwa [List.getElem?_append_left (by rw [← U.len]; exact hn)] at e
  have lv : ∀ {n : Nat}, n < h.length → live (h ++ [.lst xs]) n → live h n := fun {n} hn ⟨d, e, hd⟩ => ⟨d, by rwa [List.getElem?_append_left hn] at e, hd⟩
  have np : ∀ {n : Nat}, live h n → w.f[n]? ≠ some D := fun {n} ⟨d, e, hd⟩ q => by
    obtain ⟨b, k1, _, k3, _⟩ := (S.cells n d e).addr hd
    rw [show (w.gd D).f[n]? = w.f[n]? from rfl, q] at k1
    cases k1
    exact k3 (.inr rfl)
  have lim : ∀ {n : Nat}, live (h ++ [.lst xs]) n → n < h.length ∨ n = h.length := fun {n} ⟨d, e, _⟩ => by
    have := (List.getElem?_eq_some_iff.mp e).1
    simp at this
    omega
  refine ⟨E, ⟨by simp [Wd.at, U.len], fun n c e => ?_, fun n m a hnm l1 l2 e1 e2 => ?_, U.F0, U.G0, U.FG⟩⟩
  · by_cases hn : n < h.length
    · rw [List.getElem?_append_left hn] at e
      exact (U.cells n c e).mono E fun a h1 h2 h3 hc => ⟨h2, rfl⟩
    · have hn' : n = h.length := by
        have := (List.getElem?_eq_some_iff.mp e).1
        simp at this
        omega
      subst hn'
      simp at e
      subst e
      exact ⟨D, vs, fl, nF, nG, hD, r.mono E⟩
  · rcases lim l1 with hn | hn <;> rcases lim l2 with hm | hm
    · exact U.inj n m a hnm (lv hn l1) (lv hm l2) (old hn e1) (old hm e2)
    · subst hm; rw [fl] at e2; cases e2; exact np (lv hn l1) (old hn e1)
    · subst hn; rw [fl] at e1; cases e1; exact np (lv hm l2) (old hm e2)
    · omega
theorem Re.wipeL {env : En} {σ : L2.St} (r : Re K w H env σ) (vs : List Nat) : Re K w H (J.wipe env vs) σ := by
  induction vs with
  | nil => exact r
  | cons v vs ih =>
    refine ⟨by simp [J.wipe, ih.1], fun i x e => ?_⟩
    simp only [J.wipe] at e
    rw [List.getElem?_set] at e
    split at e
    · split at e <;> cases e
    · exact ih.2 i x e
theorem wipe_not {env : En} {i : Nat} {vs : List Nat} (h : i ∈ vs) (x : PV) : (J.wipe env vs)[i]? ≠ some (some x) := by
  induction vs with
  | nil => simp at h
  | cons v vs ih =>
    intro e
    simp only [J.wipe] at e
    rw [List.getElem?_set] at e
    split at e
    · split at e <;> cases e
    · rename_i q
      rcases List.mem_cons.mp h with z | z
      · exact q z.symm
      · exact ih z e
end
section
variable {cn : Cn} {X : Cx} {Wx : WX}
theorem jc_core {pins : List (Addr × Obj)} {s : Shared} {σ : L2.St} {H : Hp} {elt tg iter : Expr} {ifs : List Expr} {rest : List Comprehension} {scope : Scope} {own : List (Str × Nat)} {pos pos' : Pos} {i0 : En → M Src} {te : En → M PV} {ix : List Nat} {G : En → Src → M (List PV)} {use : Option (Value → Sem Unit)} {Qf : Value → Shared → Prop}
    {w : Wd} {h hE : Hh} {env : En} {xs : List PV}
    (hc : X.calm = true) (hN : X.N.Nodup) (hK : X.K = cn.K) (I : Inv X pins σ H s) (hi : PI X tg iter (tSr cn Wx i0)) (ok : BlkOk X.N X.env.scope scope own)
    (hj : ∀ (s : Shared) (H : Hp) (C : Addr) (cl : List (Str × Addr)) (fp : List Addr), GJ cn (X.blk s H scope (compEnvC scope cl C X.env) fp) elt te (⟨tg, iter, ifs, 0⟩ :: rest) ix G)
    (hs : ∀ x, foldedSetIterable iter X.env x = pure x) (hix : ∀ i ∈ ix, i ∈ own.map (·.2))
    (S : Sim cn.K w h H) (R : Re cn.K w H env σ) (e : (i0 (J.wipe env (own.map (·.2))) >>= G (J.wipe env (own.map (·.2)))) h = .ok xs hE) (hz : xs.length ≤ sizeL)
    (hR : ∀ D C s' m w' H' vs, Inv X pins σ H' s' → Ext w H w' H' → Sim cn.K (w'.gd D) hE H' → ¬ w'.G D → Rls cn.K w' H' xs vs → H' D = some (.lst vs) → s'.heap.Ns C m → FpOk X pins H' C → compPost (model X.prog X.w) X.A X.xe use Qf (.ref D) C (.ok .next) s') :
    wpAny (model X.prog X.w) X.A (comprehension (.ListComp elt (⟨tg, iter, ifs, 0⟩ :: rest) scope pos) scope X.env pos' (newList []) false (eval iter X.env) use) Qf X.xe s := by
  have caught : ∀ y ∈ scope.names, y.2 = .free → ∃ c, X.env.cells.lookup y.1 = some c := fun y hy q => (ok.free y hy q).elim (fun z => I.ok.has _ (.inl z)) fun z => I.ok.has _ (.inr z)
  obtain ⟨src, h1, e1, e2⟩ := bind_inv e
  have first := hi.run pins s σ H (fun J H2 => ∃ w2, Ext w H w2 H2 ∧ Sim cn.K w2 h1 H2 ∧ SrcJ cn w2 H2 src J) I ⟨w, h, _, S, R.wipeL _, by
    rw [e1]
    exact fun w' H' E' S' J sj => ⟨w', E', S', sj⟩⟩
  refine wpAny_comprehension_free (use := use) rfl hs (closure_ok caught) ok.kind (fun y hy q => by rw [ok.uniq y hy, q]) (thn first fun xv s1 k1 => thn k1 fun itv s2 k2 => ?_)
  obtain ⟨it, fp, tn, J, H2, ei, I2, T, st2, f2, w2, E2, S2, sj⟩ := k2
  subst ei
  refine wpAny_newObj_type (newEnv_comp ?_) (by show 0 ≤ sizeLine; decide)
  generalize eD : s2.heap.objs.size = D
  have nD : H2 D = none := I2.hok.fresh (Nat.le_of_eq eD)
  generalize es3 : ({ s2 with heap := s2.heap.push { cls := .type "list", data := .seq ([] : List Value).toArray } } : Shared) = s3
  have hp3 : s3.heap = s2.heap.push { cls := .type "list", data := .seq ([] : List Value).toArray } := by rw [← es3]
  have I3 : Inv X pins σ (upd H2 D (.lst [])) s3 := by
    rw [← es3]
    refine I2.laid (t' := s2.toks) (fun b o q => Heap.get?_push_of_some _ q) (Nat.le_of_eq eD) ⟨Nat.zero_le _, [], 0, .nil, ?_⟩
    rw [← eD]; exact Heap.get?_push_size _ rfl
  have small : ∀ b ∈ fp, b < s2.heap.objs.size := fun b hb => let ⟨o, q, _⟩ := T.obj _ _ st2 b hb; Heap.lt_size q
  have f3 : ∀ b ∈ fp, FpOk X pins (upd H2 D (.lst [])) b ∧ b < s3.heap.objs.size := fun b hb => by
    have lt := small b hb
    refine ⟨⟨?_, (f2 b hb).2⟩, by rw [hp3, Heap.size_push]; exact Nat.lt_succ_of_lt lt⟩
    rw [upd_ne (by rw [← eD]; exact Nat.ne_of_lt lt)]
    exact (f2 b hb).1
  have st3 : tn 0 s3.heap := T.keep _ _ _ st2 fun b _ o q => by rw [hp3]; exact Heap.get?_push_of_some _ q
  have I4 := block_start I3 ok hN f3
  -- our world with the new list
  obtain ⟨E3, S3⟩ := S2.lay (o := .lst []) nD
  have nF : ¬ w2.F D := fun z => by obtain ⟨o, q⟩ := S2.F0 D z; rw [nD] at q; cases q
  have nG : ¬ w2.G D := fun z => by obtain ⟨o, q⟩ := S2.G0 D z; rw [nD] at q; cases q
  have S3g : Sim cn.K (w2.gd D) h1 (upd H2 D (.lst [])) := S3.gd upd_same nF fun n c a q hc q2 z => by
    obtain ⟨b, k1, _, _, _, o, k2⟩ := (S2.cells n c q).addr hc
    rw [q2] at k1; cases k1
    subst z
    rw [nD] at k2; cases k2
  have gj := hj s3 (upd H2 D (.lst [])) s3.heap.objs.size (cellsFrom (s3.heap.objs.size + 1) scope.names (cloFrom X.env.cells scope.names [])) fp
  show codeAny _ _ (.compStart (.ListComp elt (⟨tg, iter, ifs, 0⟩ :: rest) scope pos) 0 (.ref it) (.ref D) (compEnvC scope (cellsFrom (s3.heap.objs.size + 1) scope.names (cloFrom X.env.cells scope.names [])) s3.heap.objs.size X.env)) (compPost (model X.prog X.w) X.A X.xe use Qf (.ref D) s3.heap.objs.size) { s3 with heap := pushCells (s3.heap.push { cls := .type "dict", data := .dict #[] }) scope.names }
  generalize ec : compEnvC scope (cellsFrom (s3.heap.objs.size + 1) scope.names (cloFrom X.env.cells scope.names [])) s3.heap.objs.size X.env = ce at I4 gj ⊢
  have cL : ce.locals = s3.heap.objs.size := by rw [← ec]; rfl
  generalize es4 : ({ s3 with heap := pushCells (s3.heap.push { cls := .type "dict", data := .dict #[] }) scope.names } : Shared) = s4 at I4 ⊢
  have st4 : tn 0 s4.heap := T.keep _ _ _ st3 fun b _ o q => by rw [← es4]; exact pushCells_keeps _ _ _ _ (Heap.get?_push_of_some _ q)
  have f4 : ∀ b ∈ fp, FpOk (X.blk s3 (upd H2 D (.lst [])) scope ce fp) [] (upd H2 D (.lst [])) b := fun b hb =>
    ⟨(f3 b hb).1.1, (I4.ok.exf b hb).1, I4.ok.exfs b hb, .inl hb, fun x c q => (I4.ok.exf b hb).2 x c q, fun p hp => absurd (show p ∈ ([] : List (Addr × Obj)) ++ [] from hp) (by simp)⟩
  have loop : codeAny (model X.prog X.w) X.A (.compLoop (.ListComp elt (⟨tg, iter, ifs, 0⟩ :: rest) scope pos) 0 (.ref it) (.ref D) ce) (compPost (model X.prog X.w) X.A X.xe use Qf (.ref D) s3.heap.objs.size) s4 := by
    refine cl_loop (B := X.blk s3 (upd H2 D (.lst [])) scope ce fp) (gens := ⟨tg, iter, ifs, 0⟩ :: rest) hc rfl hK gj rfl (d := 0) rfl (σ0 := L2.wipe σ (own.map (·.2))) T st4 f4 I4 rfl (fun j v q => ?_) (sj.mono E3) S3g nG
      (((R.mono E2).mono E3).wipe (own.map (·.2))) (fun j hj x => wipe_not (hix j hj) x) upd_same e2 (by simpa using hz) (fun w' H' vs s' E' S' r' D' I' => ?_)
    · exact ⟨fun z => (wipe_some q).2 (hix j z), q⟩
    · have I7 : Inv X pins σ H' s' := I3.call' (ch := fp) I'.os I'.base I'.hok I'.bare fun b hb => ⟨(f3 b hb).1.2.2.2.1, (f3 b hb).1.2.1, (f3 b hb).1.2.2.2.2.1, (f3 b hb).1.2.2.2.2.2⟩
      have nC : H' s3.heap.objs.size = none := by
        have z : H' ce.locals = none := I'.free
        rwa [cL] at z
      obtain ⟨m, ns, _⟩ := I'.loc
      have ns : s'.heap.Ns ce.locals m := ns
      rw [cL] at ns
      exact hR D s3.heap.objs.size s' m w' H' vs I7 ((E2.trans E3).trans E') S' (by rw [E'.Ge]; exact nG) r' (by simpa using D') ns (I3.fpOk (Nat.le_refl _) nC)
  exact codeAny_compStart_list loop (T.self X.A 0 _ _ _ st4 loop)
/-- the new list, taken into the world -/
theorem take_new {m : Bool} {w w' : Wd} {H H' : Hp} {hE : Hh} {D : Addr} {xs : List PV} {vs : List V} {Q : VK} {EE : XK} (p : Post cn w H (mkL m xs hE) (VQ cn Q) EE) (E : Ext w H w' H') (S : Sim cn.K (w'.gd D) hE H') (nG : ¬ w'.G D) (r : Rls cn.K w' H' xs vs) (hD : H' D = some (.lst vs)) : Q (.ref D) H' := by
  unfold mkL at p
  split at p
  · cases m with
    | true =>
      rw [if_pos rfl] at p
      obtain ⟨E2, S2⟩ := put_at S nG hD r
      refine p _ _ (E.trans E2) S2 (.ref D) ⟨D, rfl, ?_⟩
      show (w'.f ++ [D])[hE.length]? = _
      rw [S.ungd.len]; simp
    | false =>
      rw [if_neg (by decide)] at p
      obtain ⟨E2, S2⟩ := put_fz S nG hD
      exact p _ _ (E.trans E2) S2 (.ref D) ⟨D, vs, rfl, .inr rfl, hD, r.mono E2⟩
  · exact p.elim
theorem nox_inv {α : Type} {m : M α} {h : Hh} : (∃ a h', m h = .ok a h' ∧ nox m h = .ok a h') ∨ nox m h = .bad := by
  cases e : m h with
  | ok a h' => exact .inl ⟨a, h', rfl, by simp only [nox, e]⟩
  | exc c v h' => exact .inr (by simp only [nox, e])
  | bad => exact .inr (by simp only [nox, e])
theorem mk_small {m : Bool} {xs : List PV} {h : Hh} {w : Wd} {H : Hp} {R : Wd → Hp → Hh → PV → Prop} {EE : XK} (p : Post cn w H (mkL m xs h) R EE) : xs.length ≤ sizeL := by
  unfold mkL at p
  split at p
  · assumption
  · exact p.elim
section
variable {elt tg iter : Expr} {ifs : List Expr} {rest : List Comprehension} {scope : Scope} {own : List (Str × Nat)} {pos : Pos} {i0 : En → M Src} {te : En → M PV} {ix : List Nat} {G : En → Src → M (List PV)}
theorem j_comp (m : Bool) (hc : X.calm = true) (hN : X.N.Nodup) (hK : X.K = cn.K) (hi : PI X tg iter (tSr cn Wx i0)) (ok : BlkOk X.N X.env.scope scope own)
    (hj : ∀ (s : Shared) (H : Hp) (C : Addr) (cl : List (Str × Addr)) (fp : List Addr), GJ cn (X.blk s H scope (compEnvC scope cl C X.env) fp) elt te (⟨tg, iter, ifs, 0⟩ :: rest) ix G)
    (hs : ∀ env x, foldedSetIterable iter env x = pure x) (hix : ∀ i ∈ ix, i ∈ own.map (·.2)) :
    PE X (.ListComp elt (⟨tg, iter, ifs, 0⟩ :: rest) scope pos) (tV cn Wx fun env => nox (i0 (J.wipe env (own.map (·.2))) >>= G (J.wipe env (own.map (·.2)))) >>= fun xs => mkL m xs) := by
  refine ⟨fun pins s σ H Q I ⟨w, h, env, S, R, p⟩ => ?_⟩
  rcases nox_inv (m := i0 (J.wipe env (own.map (·.2))) >>= G (J.wipe env (own.map (·.2)))) (h := h) with ⟨xs, hE, e1, e2⟩ | e2
  · replace p := p.bindE e2
    rw [eval_ListComp]
    refine jc_core hc hN hK I hi ok hj (hs _) hix S R e1 (mk_small p) fun D C s' mm w' H' vs I' E' S' nG r' D' ns fpk => ⟨mm, ns, fun g sb => ?_⟩
    obtain ⟨f0, f1, f2, f3, f4, f5⟩ := fpk
    exact ⟨.ref D, H', I'.turned (t' := s'.toks) (fun b o hb q => (sb.2 b hb).trans q) f0 f1 f3 f4 f5, rfl, take_new p E' S' nG r' D'⟩
  · have := p.bind
    rw [e2] at this
    exact this.elim
/-- name = [..] on one line, the name a local of its own frame -/
theorem js_setLc {i : Nat} {y : Str} {py spos : Pos} (m : Bool) (hc : X.calm = true) (hN : X.N.Nodup) (hK : X.K = cn.K) (hy : X.N[i]? = some y) (hyl : X.env.scope.names.lookup y = some .local)
    (hsw : swapsWith (.ListComp elt (⟨tg, iter, ifs, 0⟩ :: rest) scope pos) (some (.Name y py)) spos.line X.env = pure true) (hi : PI X tg iter (tSr cn Wx i0)) (ok : BlkOk X.N X.env.scope scope own)
    (hj : ∀ (s : Shared) (H : Hp) (C : Addr) (cl : List (Str × Addr)) (fp : List Addr), GJ cn (X.blk s H scope (compEnvC scope cl C X.env) fp) elt te (⟨tg, iter, ifs, 0⟩ :: rest) ix G)
    (hs : ∀ env x, foldedSetIterable iter env x = pure x) (hix : ∀ i ∈ ix, i ∈ own.map (·.2)) :
    PS X (.Assign [.Name y py] (.ListComp elt (⟨tg, iter, ifs, 0⟩ :: rest) scope pos) spos) (tAsg (tV cn Wx fun env => nox (i0 (J.wipe env (own.map (·.2))) >>= G (J.wipe env (own.map (·.2)))) >>= fun xs => mkL m xs) (gName i)) := by
  refine ⟨fun pins s σ H D I ⟨w, h, env, S, R, p⟩ => ?_⟩
  rcases nox_inv (m := i0 (J.wipe env (own.map (·.2))) >>= G (J.wipe env (own.map (·.2)))) (h := h) with ⟨xs, hE, e1, e2⟩ | e2
  · replace p := p.bindE e2
    rw [exec_Assign_Name_used _ _ _ _ hsw]
    refine wpAny_bind (wpAny_standAt (wpAny_bind ?_))
    show wpAny _ X.A (do let _ ← comprehension (.ListComp elt (⟨tg, iter, ifs, 0⟩ :: rest) scope pos) scope X.env (firstIterPos (⟨tg, iter, ifs, 0⟩ :: rest) pos) (newList []) false (eval iter X.env) (some (assign (.Name y py) X.env))) _ _ s
    refine wpAny_bind (thn (jc_core (Qf := fun _ z => SP X pins D .next z) hc hN hK I hi ok hj (hs _) hix S R e1 (mk_small p) fun L C s' mm w' H' vs I' E' S' nG r' D' ns fpk => ?_) fun _ z q => wpAny_pure (wpAny_pure q))
    have q : gName i (.ref L) σ H' D.nx := take_new (Q := fun x H1 => gName i x σ H1 D.nx) p E' S' nG r' D'
    show wpAny _ _ (assign (.Name y py) X.env (.ref L)) _ _ _
    refine wpAny_assign_Name (store_ok2 (v := V.ref L) I' hN hy (.inl hyl) rfl (fun s2 I2 ⟨a, sb, ha⟩ => ?_) (.inr hyl))
    obtain ⟨f0, f1, f2, f3, f4, f5⟩ := fpk
    have apart : C ≠ a := by
      rcases ha with z | z
      · rw [z]; exact f1
      · exact fun q => f4 y a z q.symm
    refine ⟨mm, ns.sameBut sb apart, fun g sb3 => ?_⟩
    exact ⟨_, H', I2.turned (t' := s2.toks) (fun b o hb q => (sb3.2 b hb).trans q) f0 f1 f3 f4 f5, q⟩
  · have := p.bind
    rw [e2] at this
    exact this.elim
end
end
end J

set_option autoImplicit false
set_option linter.all false
set_option maxRecDepth 100000
/-! JL: the number of different texts in a list. -/
namespace J
open PySem PySem.Spec PyProof.Rows L2
theorem dedup_step {xs : List Str} {i : Nat} (hi : i < xs.length) : dedup (xs.take (i + 1)) = if xs.getD i Str.empty ∈ dedup (xs.take i) then dedup (xs.take i) else dedup (xs.take i) ++ [xs.getD i Str.empty] := by
  have e : xs.take (i + 1) = xs.take i ++ [xs.getD i Str.empty] := by
    rw [List.take_add_one, List.getD_eq_getElem?_getD, List.getElem?_eq_getElem hi]; rfl
  rw [e]
  unfold dedup
  rw [List.foldl_append]
  rfl
theorem dedup_le {xs : List Str} : ∀ i, i ≤ xs.length → (dedup (xs.take i)).length ≤ i
  | 0, _ => by simp [dedup]
  | i + 1, hi => by
    have ih := dedup_le (xs := xs) i (Nat.le_of_lt hi)
    rw [dedup_step hi]
    split
    · omega
    · rw [List.length_append, List.length_singleton]; omega
section
variable {prog : Program} {w : World} {A : Around} {R : Result → Shared → Prop} {it0 : Addr} {fp wr : List Addr} {G : Array GenState → Array GenState → Prop} {n : Nat} {P : Nat → Value → Prop} {St : Nat → Shared → Prop}
theorem set_loop (W : WalksS prog w A.in1 it0 fp wr G n P St) (S : Addr) (nf : S ∉ fp) (xs : List Str) (len : xs.length = n) (few : n + 1 < scanBound) (val : ∀ i v, P i v → ∃ t, v = .str (xs.getD i Str.empty) t) :
    ∀ (k i : Nat) (s : Shared), n - i = k → i ≤ n → St i s → s.heap.SetOf (strKind prog w) S (fun x => decide (x ∈ dedup (xs.take i))) (dedup (xs.take i)).length →
      (∀ z, Moved (S :: wr) G s z → z.heap.SetOf (strKind prog w) S (fun x => decide (x ∈ dedup xs)) (dedup xs).length → R (.ok (.ret .none)) z) →
      codeAny (model prog w) A (.builtin "set.update.loop" ⟨[.ref S, .ref it0], []⟩) R s := by
  have nw : S ∉ wr := fun h => nf (W.sub _ h)
  have inc : ∀ ad ∈ wr, ad ∈ S :: wr := fun ad h => List.mem_cons_of_mem _ h
  intro k
  induction k with
  | zero =>
    intro i s hk hi st so fin
    have ein : i = n := by omega
    subst ein
    refine codeAny_builtin PyProof.Rows.F.entry_set_update_loop ?_
    rw [Around.under_plainId PyProof.Rows.F.plain_set_update_loop _]
    show wpAny _ A.in1 (pyNext (.ref it0) >>= _) _ _ s
    refine wpAny_bind (W.done s _ _ st fun z mv => ?_)
    show wpAny _ A.in1 (ret Value.none) _ _ z
    refine wpAny_pure (fin z (mv.mono inc) ?_)
    rw [← len, List.take_length] at so
    obtain ⟨ob, es, ep, tb, at1, rest⟩ := so
    exact ⟨ob, es, ep, tb, mv.heap S _ nw at1, rest⟩
  | succ k ih =>
    intro i s hk hi st so fin
    have lt : i < n := by omega
    refine codeAny_builtin PyProof.Rows.F.entry_set_update_loop ?_
    rw [Around.under_plainId PyProof.Rows.F.plain_set_update_loop _]
    show wpAny _ A.in1 (pyNext (.ref it0) >>= _) _ _ s
    refine wpAny_bind (W.item i s _ _ lt st fun v z hP st2 mv => ?_)
    obtain ⟨t, rfl⟩ := val i v hP
    have so2 : z.heap.SetOf (strKind prog w) S (fun x => decide (x ∈ dedup (xs.take i))) (dedup (xs.take i)).length := by
      obtain ⟨ob, es, ep, tb, at1, rest⟩ := so
      exact ⟨ob, es, ep, tb, mv.heap S _ nw at1, rest⟩
    show wpAny _ A.in1 (holding [Value.str (xs.getD i Str.empty) t] (setAdd S (.str (xs.getD i Str.empty) t)) >>= _) _ _ z
    refine wpAny_bind (wpAny_holding ?_)
    unfold setAdd
    refine wpAny_holding ?_
    refine wpAny_bind ((strKind prog w).pyHash (k := xs.getD i Str.empty) (strKind_is _ _ _ _) ?_)
    have room : (dedup (xs.take i)).length + 1 < scanBound := by have := dedup_le (xs := xs) i (by omega); omega
    refine wpAny_setAddHashed_of (knd := strKind prog w) (s := { z with toks := z.toks + 1 }) (strKind_is _ _ _ _) rfl so2 room fun g sb so3 => ?_
    have so4 : g.SetOf (strKind prog w) S (fun x => decide (x ∈ dedup (xs.take (i + 1)))) (dedup (xs.take (i + 1))).length := by
      refine SetOf_congr so3 (fun x => ?_) ?_
      · rw [dedup_step (by omega : i < xs.length)]
        generalize xs.getD i Str.empty = y
        by_cases q : y ∈ dedup (xs.take i)
        · rw [if_pos q]
          by_cases e : x = y
          · subst e; simp [q]
          · simp [e]
        · rw [if_neg q]; simp
      · rw [dedup_step (by omega : i < xs.length)]
        by_cases q : xs.getD i Str.empty ∈ dedup (xs.take i)
        · rw [if_pos q, if_pos (decide_eq_true q)]
        · rw [if_neg q, if_neg (by simpa using q)]; simp
    refine wpAny_pure ⟨plainId_quiet PyProof.Rows.F.plain_set_update_loop _, ih (i + 1) _ (by omega) lt (W.frame _ z _ _ st2 (Nat.le_succ _) fun ad h ob e => ?_) so4 fun z3 mv3 so5 => ?_⟩
    · rw [sb.2 ad fun e2 => nf (by rw [← e2]; exact h)]; exact e
    · refine fin z3 (Moved.trans W.gtrans ((mv.mono inc).then_heap (Nat.le_succ _) fun ad ob h e => ?_) mv3) so5
      rw [sb.2 ad fun e2 => h (by rw [e2]; exact List.mem_cons_self)]; exact e
end
section
variable {prog : Program} {w : World} {A : Around} {E : Value → Shared → Prop} {s : Shared}
set_option maxHeartbeats 3200000 in
theorem set_call {la : Addr} {its0 : Array Value} {xs : List Str} {Q : Value → Shared → Prop} (hd : A.handled = none) (li : s.heap.IsList la its0) (are : StrsAre its0.toList xs) (few : its0.size + 1 < scanBound)
    (h : ∀ (h' : Heap) (tk : Nat), h'.SetOf (strKind prog w) s.heap.objs.size (fun x => decide (x ∈ dedup xs)) (dedup xs).length → (∀ ad ob, ad < s.heap.objs.size → s.heap.get? ad = some ob → h'.get? ad = some ob) → Q (.ref s.heap.objs.size) { s with heap := h', toks := tk }) :
    wpAny (model prog w) A (call (.type "set") [.ref la]) Q E s := by
  obtain ⟨c, tl, mr1⟩ := PySem.F.called_set.mro
  have md1 := PySem.F.called_set.made
  have sb0 := PySem.F.called_set.sub
  refine wpAny_call (codeAny_of_tree ?_)
  show wpAny _ _ (callAny (.type "set") _) _ _ _
  refine wpAny_pure ⟨Code.quiet_builtin _ (by decide +kernel), codeAny_builtin PySem.F.entry_type_call ?_⟩
  rw [Around.under_plain (weight_type_call_type "set" [.ref la] []) rfl]
  have nt1 := PySem.F.called_set.notType
  have cc1 := PySem.F.called_set.canCreate
  have tc1 := PySem.F.typeCall_set_1 (.ref la)
  repeat (any_goals (first | assumption | wp_step))

  refine codeAny_mono (code_set_new_1 (.ref la) (E := E) (Q₁ := fun obn z1 => ∃ ld : Bool, obn = .ref s.heap.objs.size ∧ z1 = { s with heap := s.heap.push { cls := .type "set", dict := none, data := .set #[] 0 (.fresh 0 0 ld) } }) fun ld => ⟨ld, rfl, rfl⟩) fun r z1 w1 => ?_
  cases r with
  | error e => exact w1
  | ok fl =>
    cases fl with
    | ret obn =>
      obtain ⟨ld, rfl, rfl⟩ := w1
      have so : (s.heap.push { cls := .type "set", dict := none, data := .set #[] 0 (.fresh 0 0 ld) }).get? s.heap.objs.size = some { cls := .type "set", dict := none, data := .set #[] 0 (.fresh 0 0 ld) } := Heap.get?_push_size _ rfl
      have ti : Shared.TypeIs { s with heap := s.heap.push { cls := .type "set", dict := none, data := .set #[] 0 (.fresh 0 0 ld) } } (.ref s.heap.objs.size) "set" := ⟨_, so, rfl⟩
      have lk1 := PySem.F.called_set.init.lookup
      have bd1 := PySem.F.called_set.init.bind (.ref s.heap.objs.size)
      repeat (any_goals (first | assumption | wp_step))

      refine codeAny_mono (codeAny_call_builtin (R := wants (fun r z2 => r = .none ∧ ∃ h' tk, z2 = { s with heap := h', toks := tk } ∧
          h'.SetOf (strKind prog w) s.heap.objs.size (fun k' => decide (k' ∈ dedup xs)) (dedup xs).length ∧
          (∀ ad ob, ad < s.heap.objs.size → s.heap.get? ad = some ob → h'.get? ad = some ob)) E) PySem.F.called_set.init.plain PySem.F.entry_set_init (check_set_init_1 ti ?_)) fun r2 z2 w2 => ?_
      · obtain ⟨ob1, at1, cl1, cap1, dt1⟩ := li
        obtain ⟨oc1, dc1, da1, os1⟩ := ob1
        simp only at cl1 dt1
        subst cl1; subst dt1
        have at1' : (s.heap.push { cls := .type "set", dict := none, data := .set #[] 0 (.fresh 0 0 ld) }).get? la = some { cls := .type "list", dict := dc1, data := .seq its0 cap1, slots := os1 } := Heap.get?_push_of_some _ at1
        have sb1 := PySem.F.sub_list_set
        have sb2 := PySem.F.sub_list_frozenset
        have ne1 : (Value.type "list" == Value.type "dict") = false := by decide
        have li1 : (s.heap.push { cls := .type "set", dict := none, data := .set #[] 0 (.fresh 0 0 ld) }).IsList la its0 := ⟨_, at1', rfl, cap1, rfl⟩
        unfold Builtin.«set.__init__» noKeywords Builtin.Frozenset.updateFrom
        generalize epit : pyIter = pit
        wp_walk
        subst epit

        refine wpAny_pyIter_list li1 ?_
        refine wpAny_bind (wpAny_runValue ?_)
        have lt1 : la < s.heap.objs.size := Heap.lt_size at1
        have hd3 : A.in1.in1.in1.handled = none := by simp [hd]
        have ne2 : la ≠ (s.heap.push { cls := .type "set", dict := none, data := .set #[] 0 (.fresh 0 0 ld) }).objs.size := by
          rw [Heap.size_push]; exact Nat.ne_of_lt (Nat.lt_succ_of_lt lt1)
        have nf1 : s.heap.objs.size ∉ [(s.heap.push { cls := .type "set", dict := none, data := .set #[] 0 (.fresh 0 0 ld) }).objs.size, la] := by
          rw [Heap.size_push]; simp only [List.mem_cons, List.mem_singleton, List.not_mem_nil, or_false, not_or]
          exact ⟨Nat.ne_of_lt (Nat.lt_succ_self _), Nat.ne_of_gt lt1⟩
        have sz1 : xs.length = its0.size := by rw [← StrsAre.len_eq are, Array.length_toList]
        have val1 : ∀ (i : Nat) (v : Value), its0[i]? = some v → ∃ t, v = .str (xs.getD i Str.empty) t := fun i v hv => SS.strs_at are i v (by rw [Array.getElem?_toList]; exact hv)
        refine set_loop ((Walks.list hd3 _ la ne2 its0).toS) s.heap.objs.size
          nf1 xs sz1 few val1 (its0.size - 0) 0 _ (by omega) (Nat.zero_le _)
          ⟨⟨_, Heap.get?_push_size _ rfl, rfl, rfl⟩, (li1.push _)⟩ ?hS0 ?hR
        case hS0 =>
          have get1 : ((s.heap.push { cls := .type "set", dict := none, data := .set #[] 0 (.fresh 0 0 ld) }).push { cls := .type "list_iterator", data := .fields #[.ref la, .int 0 0] }).get? s.heap.objs.size
              = some { cls := .type "set", dict := none, data := .set #[] 0 (.fresh 0 0 ld) } := Heap.get?_push_of_some _ so
          exact PyProof.Rows.SetOf_congr ((PyProof.Rows.setObjOf_fresh (knd := strKind prog w) ld).setOf get1 (by unfold scanBound; omega)) (fun _ => rfl) rfl
        case hR =>
          intro s' mv so'
          obtain ⟨h', g', d', tk', os'⟩ := s'
          have e1 : g' = s.gens := mv.gens
          have e2 : d' = s.drawn := mv.drawn
          have e3 : os' = s.os := mv.os
          subst e1; subst e2; subst e3
          show wpAny _ _ _ _ _ _
          refine wpAny_pure ?_
          show wpAny _ _ (ret Value.none) _ _ _
          refine wpAny_pure ⟨rfl, h', tk', rfl, so', fun ad ob hb e => ?_⟩
          have n1 : ad ≠ s.heap.objs.size := Nat.ne_of_lt hb
          have n2 : ad ≠ (s.heap.push { cls := .type "set", dict := none, data := .set #[] 0 (.fresh 0 0 ld) }).objs.size := by
            rw [Heap.size_push]; exact Nat.ne_of_lt (Nat.lt_succ_of_lt hb)
          exact mv.heap ad ob (by simp only [List.mem_cons, List.mem_singleton, List.not_mem_nil, or_false, not_or]; exact ⟨n1, n2⟩) (Heap.get?_push_of_some _ (Heap.get?_push_of_some _ e))

      · cases r2 with
        | error e => exact w2
        | ok fl2 =>
          cases fl2 with
          | ret r =>
            obtain ⟨rfl, h', tk, rfl, so', hk'⟩ := w2
            repeat (any_goals (first | assumption | wp_step))
            exact h _ _ so' hk'
          | _ => exact w2.elim
    | _ => exact w1.elim
end
section
variable {cn : Cn} {s : SC} {T : Nat → Option Fd} {fuel lvl : Nat} {X : Cx} {Wx : WX} {fs : En → M (List PV)} {a : Expr} {p p2 q pos : Pos}
theorem j_lenset (ok : XOk cn s T fuel lvl X) (m : Bool) (hg : glB s.sc "len" = true) (hg2 : glB s.sc "set" = true) (ha : PA X [a] (tVs cn Wx fs)) (st : isStar a = false) :
    PE X (.Call (.Name "len" p) [.Call (.Name "set" p2) [a] [] q] [] pos) (tV cn Wx fun env => fs env >>= fun xs => evBi .lenset m xs) := by
  have hK := ok.K
  refine ⟨fun pins s0 σ H Q I hq => ?_⟩
  refine Call_ (ld_blt I (glB_gl ok hg).1 (ok.bi _ (by simp)) boot_len ?_)
  refine PyProof.Rows.callWith_builtin1 (PyProof.Rows.args_cons ?_ rfl) rfl rfl
  refine Call_ (ld_blt I (glB_gl ok hg2).1 (ok.bi _ (by simp)) boot_set ?_)
  refine PyProof.Rows.callWith_type1 (thn (ha.run q pins s0 σ H (fun vs H1 => ∃ (l : Addr) (zs : List Str), vs = [.ref l] ∧ SqL X.K H1 l (zs.map V.str) ∧ zs.length ≤ 4000 ∧ Q (.int ((dedup zs).length : Nat)) H1) I (tJ_seq hq fun w H1 h env xs vs S R r p1 => ?_)) fun us s1 ⟨vs, H1, I1, r1, l, zs, e, hs, hz, q1⟩ => ?_) (star_cons st _) rfl
  · obtain ⟨x, v, rfl, rfl, rx⟩ := one_arg r p1
    simp only [evBi] at p1
    obtain ⟨ys, e1, p2⟩ := p1.rdB
    obtain ⟨zs, e2, p3⟩ := p2.optB
    obtain ⟨l, us, rfl, h1, h2⟩ := getL_rel S rx e1
    have := strs_rel h2 e2
    subst this
    split at p3
    · rename_i hz
      exact ⟨l, zs, rfl, .of h1, hz, p3.pure S _ rfl⟩
    · exact p3.elim
  · subst e
    cases r1 with
    | cons r2 r3 =>
      cases r3
      cases r2
      obtain ⟨its, rv, pl, _⟩ := I1.list hs
      have len := rv.length
      rw [List.length_map] at len
      refine set_call (I1.ok.hd ok.calm) pl.isList (xs := zs) (by simpa using strsAre_of rv) (by rw [List.size_toArray, ← len]; unfold scanBound; omega) fun h' tk so kk => ?_
      refine PyProof.Rows.args_nil ?_
      obtain ⟨ob, es, ep, t, ho, hex, hd, _, _, _, hf, hn⟩ := so
      have I2 : Inv X pins σ H1 { s1 with heap := h', toks := tk } := I1.kept fun b o e => kk b o (Heap.lt_size e) e
      have le := dedup_le (xs := zs) zs.length (Nat.le_refl _)
      rw [List.take_length] at le
      exact call_len_set ho hex hd hf (by rw [hn]; omega) ⟨.int ((dedup zs).length : Nat), H1, I2.tok _, ⟨_, by rw [hn]⟩, q1⟩
end
end J

set_option autoImplicit false
set_option linter.all false
set_option maxRecDepth 100000
set_option maxHeartbeats 4000000
/-! JG: every tree that is checked against the text gives the text's reading. -/
namespace J
open PySem PySem.Spec PyProof.Rows L2
/-- a comprehension's source and its turns -/
def gI : Gs → It
  | .last _ i _ => i
  | .cons _ i _ _ => i
def gG (c : Ctx) (elt : En → M PV) : Gs → En → Src → M (List PV)
  | .last t i cs => fun env src h => compGo src (bodyOf t (evCA c cs) (fun env' => elt env' >>= fun y => pure [y]) env) (turns h src) 0 h
  | .cons t i cs g => fun env src h => compGo src (bodyOf t (evCA c cs) (fun env' => evI c (gI g) env' >>= fun src1 => gG c elt g env' src1) env) (turns h src) 0 h
theorem evG_is (c : Ctx) (elt : En → M PV) : ∀ (g : Gs) (env : En), evG c elt g env = (evI c (gI g) env >>= gG c elt g env)
  | .last t i cs, env => rfl
  | .cons t i cs g, env => by
    have ih : (fun env' => evG c elt g env') = fun env' => (evI c (gI g) env' >>= gG c elt g env') := funext fun e => evG_is c elt g e
    show (evI c i env >>= fun src => fun h => compGo src (bodyOf t (evCA c cs) (fun env' => evG c elt g env') env) (turns h src) 0 h) = _
    rw [ih]; rfl
theorem vis_of {sc : Scope} {x : Str} (h : visB sc x = true) : Vis sc x := by
  unfold visB at h
  split at h <;> first | exact .inl (by assumption) | exact .inr (.inl (by assumption)) | exact .inr (.inr (by assumption)) | cases h
mutual
theorem beqP_eq : ∀ {x y : PV}, beqP x y = true → x = y
  | .non, y, h => by cases y <;> simp [beqP] at h; rfl
  | .bl a, y, h => by cases y <;> simp [beqP] at h; rw [h]
  | .int a, y, h => by cases y <;> simp [beqP] at h; rw [h]
  | .str a, y, h => by cases y <;> simp [beqP] at h; rw [h]
  | .tup a, y, h => by cases y <;> simp [beqP] at h; rw [beqPs_eq h]
  | .lst a, y, h => by cases y <;> simp [beqP] at h; rw [beqPs_eq h]
  | .scr a, y, h => by cases y <;> simp [beqP] at h; rw [beqPs_eq h]
  | .loc a, y, h => by cases y <;> simp [beqP] at h; rw [h]
  | .dct k a, y, h => by cases y <;> simp [beqP] at h; rw [h.1, beqPs_eq h.2]
theorem beqPs_eq : ∀ {x y : List PV}, beqPs x y = true → x = y
  | [], y, h => by cases y <;> simp [beqPs] at h; rfl
  | a :: x, y, h => by cases y <;> simp [beqPs] at h; rw [beqP_eq h.1, beqPs_eq h.2]
end
section
variable {cn : Cn} {T : Nat → Option Fd} {fuel lvl : Nat}
theorem XOk.blk {s : SC} {X : Cx} (ok : XOk cn s T fuel lvl X) (scope : Scope) (s0 : Shared) (H0 : Hp) (C : Addr) (cl : List (Str × Addr)) (fp : List Addr) : XOk cn (s.blk scope) T fuel lvl (X.blk s0 H0 scope (compEnvC scope cl C X.env) fp) where
  K := ok.K
  N := ok.N
  sc := by show relS scope X.env.scope = relS scope s.sc; rw [ok.sc]
  nd := ok.nd
  calm := ok.calm
  st := fun x h => by
    have h : (match (L2.relS scope s.sc).names.lookup x with | some .local => true | some .cell => decide (scope.names.lookup x = some .cell) | _ => false) = true := h
    split at h
    · rename_i q; exact ⟨.inl q, .inr (by show (relS scope X.env.scope).names.lookup x = _; rw [ok.sc]; exact q)⟩
    · rename_i q; exact ⟨.inr q, .inl (by show (scope.names.lookup x == some .cell) = true; simpa using h)⟩
    · cases h
  room := ok.room
  pass := PassesOwn.never
  nm := ok.nm
  fn := fun i d h => ⟨(ok.fn i d h).ex⟩
  gl := ok.gl
  bi := ok.bi
theorem notSet {e : Expr} (h : isSetE e = false) : ∀ env x, foldedSetIterable e env x = pure x := by
  intro env x
  cases e <;> first | rfl | (simp [isSetE] at h; done)
theorem chEs_star {s : SC} : ∀ {es : Es} {l : List Expr}, chEs s es l = true → ∀ e ∈ l, isStar e = false
  | .nil, l, h, e, he => by
    cases l with
    | nil => cases he
    | cons _ _ => simp [chEs] at h
  | .cons x es, l, h, e, he => by
    cases l with
    | nil => cases he
    | cons y r =>
      simp only [chEs, Bool.and_eq_true, Bool.not_eq_true'] at h
      rcases List.mem_cons.mp he with rfl | he
      · exact h.1.1
      · exact chEs_star h.2 e he
abbrev cT (T : Nat → Option Fd) (fuel lvl : Nat) : Ctx := ⟨callAt T fuel lvl, fuel⟩
theorem isSl_f {e : Expr} (h : (!isSl e) = true) : isSl e = false := by simpa using h
mutual
theorem jE : ∀ {e : E} {ex : Expr} {s : SC} {X : Cx} {Wx : WX}, chE s e ex = true → XOk cn s T fuel lvl X → Takes X Wx → PE X ex (tV cn Wx (evE (cT T fuel lvl) e))
  | .var i, ex, s, X, Wx, h, ok, tk => by
    simp only [chE] at h
    split at h
    · simp only [Bool.and_eq_true, decide_eq_true_eq] at h
      exact j_var (by rw [ok.N]; exact h.1.1.1) (by rw [ok.sc]; exact vis_of h.1.1.2) h.1.2 h.2
    · cases h
  | .glob n v, ex, s, X, Wx, h, ok, tk => by
    simp only [chE] at h
    split at h
    · simp only [Bool.and_eq_true, decide_eq_true_eq] at h
      obtain ⟨⟨rfl, h2⟩, h3⟩ := h
      obtain ⟨hg, hdb⟩ := glB_gl ok h2
      split at h3
      · rename_i v' e
        obtain ⟨u, z, m1, r, hR⟩ := ok.gl _ _ e
        have := beqP_eq h3
        subst this
        exact j_glob hg m1 r hR hdb
      · cases h3
    · cases h
  | .int i, ex, s, X, Wx, h, ok, tk => by
    simp only [chE] at h
    split at h
    · have := of_decide_eq_true h; subst this
      exact j_const pe_int fun _ _ => rfl
    · cases h
  | .str i, ex, s, X, Wx, h, ok, tk => by
    simp only [chE] at h
    split at h
    · have := of_decide_eq_true h; subst this
      exact j_const pe_str fun _ _ => rfl
    · cases h
  | .bl i, ex, s, X, Wx, h, ok, tk => by
    simp only [chE] at h
    split at h
    · have := eq_of_beq h; subst this
      exact j_const pe_bl fun _ _ => rfl
    · cases h
  | .non, ex, s, X, Wx, h, ok, tk => by
    simp only [chE] at h
    split at h
    · exact j_const pe_non fun _ _ => rfl
    · cases h
  | .bin op m a b, ex, s, X, Wx, h, ok, tk => by
    simp only [chE] at h
    split at h
    · simp only [Bool.and_eq_true, decide_eq_true_eq] at h
      obtain ⟨⟨rfl, h2⟩, h3⟩ := h
      exact j_bin ok.K op m (jE h2 ok tk) (jE h3 ok tk)
    · cases h
  | .neg a, ex, s, X, Wx, h, ok, tk => by
    simp only [chE] at h
    split at h
    · exact j_neg (jE h ok tk)
    · cases h
  | .notv a, ex, s, X, Wx, h, ok, tk => by
    simp only [chE] at h
    split at h
    · exact j_notv ok.K (jE h ok tk)
    · cases h
  | .andv es, ex, s, X, Wx, h, ok, tk => by
    simp only [chE] at h
    split at h
    · exact jAnd h ok tk
    · cases h
  | .orv es, ex, s, X, Wx, h, ok, tk => by
    simp only [chE] at h
    split at h
    · exact jOr h ok tk
    · cases h
  | .cmp op a b, ex, s, X, Wx, h, ok, tk => by
    simp only [chE] at h
    split at h
    · simp only [Bool.and_eq_true, decide_eq_true_eq, Bool.not_eq_true'] at h
      obtain ⟨⟨⟨rfl, h2⟩, h3⟩, h4⟩ := h
      exact j_cmp ok.K (hu_of ok) op (jE h3 ok tk) (jE h4 ok tk) h2
    · cases h
  | .chain o1 o2 a b d, ex, s, X, Wx, h, ok, tk => by
    simp only [chE] at h
    split at h
    · simp only [Bool.and_eq_true, decide_eq_true_eq, Bool.not_eq_true'] at h
      obtain ⟨⟨⟨⟨⟨rfl, rfl⟩, h2⟩, h3⟩, h4⟩, h5⟩ := h
      exact j_chain ok.K (hu_of ok) o1 o2 (jE h3 ok tk) (jE h4 ok tk) (jE h5 ok tk) h2
    · cases h
  | .isN a, ex, s, X, Wx, h, ok, tk => by
    simp only [chE] at h
    split at h
    · exact j_isN (jE h ok tk)
    · cases h
  | .notN a, ex, s, X, Wx, h, ok, tk => by
    simp only [chE] at h
    split at h
    · exact PE_imp (j_notN (jE h ok tk)) fun σ H Q q => tJ_cast (by
        funext env
        show (evE (cT T fuel lvl) a env >>= fun x => pure (PV.bl (match x with | .non => false | _ => true))) = (evE (cT T fuel lvl) a env >>= fun x => pure (PV.bl (!isNon x)))
        exact congrArg _ (funext fun x => by cases x <;> rfl)) q
    · cases h
  | .ite c a b, ex, s, X, Wx, h, ok, tk => by
    simp only [chE] at h
    split at h
    · simp only [Bool.and_eq_true] at h
      exact j_ite (jC h.1.1 ok tk) (jE h.1.2 ok tk) (jE h.2 ok tk)
    · cases h
  | .tup es, ex, s, X, Wx, h, ok, tk => by
    simp only [chE] at h
    split at h
    · exact j_tup (jEs h ok tk)
    · cases h
  | .list m es, ex, s, X, Wx, h, ok, tk => by
    simp only [chE] at h
    split at h
    · exact j_lst m (jEs h ok tk)
    · cases h
  | .idx a i, ex, s, X, Wx, h, ok, tk => by
    simp only [chE] at h
    split at h
    · simp only [Bool.and_eq_true] at h
      exact j_idx ok.K (jE h.1.2 ok tk) (jE h.2 ok tk) (isSl_f h.1.1)
    · cases h
  | .slice m a lo hi, ex, s, X, Wx, h, ok, tk => by
    simp only [chE] at h
    split at h
    · simp only [Bool.and_eq_true] at h
      exact j_slice ok.K m (jE h.1.1 ok tk) (jO h.1.2 ok tk) (jO h.2 ok tk)
    · cases h
  | .call f es, ex, s, X, Wx, h, ok, tk => by
    simp only [chE] at h
    split at h
    · simp only [Bool.and_eq_true, decide_eq_true_eq] at h
      exact j_call ok tk h.1.1 h.1.2 (jEs h.2 ok tk) (chEs_star h.2)
    · cases h
  | .callK f ord es, ex, s, X, Wx, h, ok, tk => by
    simp only [chE] at h
    split at h
    · simp only [Bool.and_eq_true, decide_eq_true_eq] at h
      obtain ⟨⟨⟨⟨⟨⟨h1, h2⟩, h3⟩, h4⟩, h5⟩, h6⟩, h7⟩ := h
      exact j_callK ok tk h1 h2 h3 h5 h4 (jKs h6 ok tk)
    · cases h
  | .bi b m es, ex, s, X, Wx, h, ok, tk => by
    have gen : ∀ {x : Str} {p pos : Pos} {z : Expr}, b ≠ .lenset → (decide (x = biId b) && glB s.sc x && chEs s es [z]) = true → PE X (.Call (.Name x p) [z] [] pos) (tV cn Wx (evE (cT T fuel lvl) (.bi b m es))) := fun {x p pos z} hb h => by
      simp only [Bool.and_eq_true, decide_eq_true_eq] at h
      obtain ⟨⟨rfl, h2⟩, h3⟩ := h
      exact j_bi ok m hb h2 (jEs h3 ok tk) (chEs_star h3 _ (by simp))
    cases b with
    | lenset =>
      simp only [chE] at h
      split at h
      · simp only [Bool.and_eq_true, decide_eq_true_eq] at h
        obtain ⟨⟨⟨⟨rfl, rfl⟩, h2⟩, h3⟩, h4⟩ := h
        exact j_lenset ok m h2 h3 (jEs h4 ok tk) (chEs_star h4 _ (by simp))
      · cases h
    | len =>
      simp only [chE] at h
      split at h
      · exact gen (by decide) h
      · cases h
    | all =>
      simp only [chE] at h
      split at h
      · exact gen (by decide) h
      · cases h
    | any =>
      simp only [chE] at h
      split at h
      · exact gen (by decide) h
      · cases h
    | int =>
      simp only [chE] at h
      split at h
      · exact gen (by decide) h
      · cases h
    | abs =>
      simp only [chE] at h
      split at h
      · exact gen (by decide) h
      · cases h
    | str =>
      simp only [chE] at h
      split at h
      · exact gen (by decide) h
      · cases h
    | max1 =>
      simp only [chE] at h
      split at h
      · exact gen (by decide) h
      · cases h
    | list =>
      simp only [chE] at h
      split at h
      · exact gen (by decide) h
      · cases h
    | tuple =>
      simp only [chE] at h
      split at h
      · exact gen (by decide) h
      · cases h
  | .inst a t, ex, s, X, Wx, h, ok, tk => by
    simp only [chE] at h
    split at h
    · simp only [Bool.and_eq_true, decide_eq_true_eq, Bool.not_eq_true'] at h
      obtain ⟨⟨⟨⟨⟨rfl, h2⟩, rfl⟩, h3⟩, h4⟩, h5⟩ := h
      exact j_inst ok h2 h3 (jE h4 ok tk) h5
    · cases h
  | .me k o es, ex, s, X, Wx, h, ok, tk => by
    simp only [chE] at h
    split at h
    · rename_i x n ap l p
      simp only [Bool.and_eq_true, decide_eq_true_eq, Bool.not_eq_true'] at h
      obtain ⟨⟨⟨⟨⟨⟨rfl, h2⟩, h3⟩, h4⟩, h5⟩, h6⟩, h7⟩ := h
      by_cases hk : k = .pop
      · subst hk
        have hl : l = [] := by simpa using h7
        subst hl
        cases es with
        | nil => exact j_pop ok h2 h3 (jE h4 ok tk)
        | cons _ _ => simp [chEs] at h5
      · cases l with
        | nil => cases k <;> first | exact absurd rfl hk | (simp at h7; done)
        | cons y r =>
          have hr : r = [] := by
            simp at h6; exact h6
          subst hr
          exact j_me1 ok hk h2 h3 (jE h4 ok tk) (jEs h5 ok tk) (chEs_star h5 _ (by simp))
    · cases h
  | .comp m own elt gs, ex, s, X, Wx, h, ok, tk => by
    simp only [chE] at h
    split at h
    · rename_i x gens scope p
      simp only [Bool.and_eq_true, decide_eq_true_eq] at h
      obtain ⟨⟨⟨⟨⟨h1, h2⟩, h3⟩, h4⟩, h5⟩, h6⟩ := h
      have bo := blkOk_by h1
      rw [← ok.sc, ← ok.N] at bo
      obtain ⟨tg, iter, ifs, rest, rfl, pi0, hs⟩ := jGI h6 ok tk
      have gj : ∀ (s0 : Shared) (H : Hp) (C : Addr) (cl : List (Str × Addr)) (fp : List Addr), GJ cn (X.blk s0 H scope (compEnvC scope cl C X.env) fp) x (evE (cT T fuel lvl) elt) (⟨tg, iter, ifs, 0⟩ :: rest) (gsIx gs) (gG (cT T fuel lvl) (fun env' => evE (cT T fuel lvl) elt env') gs) := fun s0 H C cl fp =>
        jGB h6 h3 (ok.blk scope s0 H C cl fp) (jE h5 (ok.blk scope s0 H C cl fp) takesF)
      have h2' : (own.filterMap fun i => (X.N[i]?).map fun n => (n, i)).map (·.2) = own := by rw [ok.N]; exact h2
      refine PE_imp (j_comp m ok.calm (by rw [ok.N]; exact ok.nd) ok.K pi0 bo gj hs (by rw [h2']; exact h4)) fun σ H Q q => tJ_cast ?_ q
      funext env
      rw [h2']
      show nox (evG _ _ gs (J.wipe env own)) >>= _ = _
      rw [evG_is]
    · cases h
  | .fstr es, ex, s, X, Wx, h, ok, tk => by
    simp only [chE] at h
    split at h
    · exact j_fstr (jF h ok tk)
    · cases h
  | .fmt a, ex, s, X, Wx, h, ok, tk => by
    simp only [chE] at h
    split at h
    · exact j_fmt (jE h ok tk)
    · cases h
theorem jEs : ∀ {es : Es} {l : List Expr} {s : SC} {X : Cx} {Wx : WX}, chEs s es l = true → XOk cn s T fuel lvl X → Takes X Wx → PA X l (tVs cn Wx (evEs (cT T fuel lvl) es))
  | .nil, l, s, X, Wx, h, ok, tk => by
    cases l with
    | nil => exact ja_nil
    | cons _ _ => simp [chEs] at h
  | .cons x es, l, s, X, Wx, h, ok, tk => by
    cases l with
    | nil => simp [chEs] at h
    | cons y r =>
      simp only [chEs, Bool.and_eq_true, Bool.not_eq_true'] at h
      exact ja_cons (jE h.1.2 ok tk) (jEs h.2 ok tk) h.1.1
theorem jKs : ∀ {es : Es} {l : List Keyword} {s : SC} {X : Cx} {Wx : WX}, chEs s es (l.map (·.value)) = true → XOk cn s T fuel lvl X → Takes X Wx → PK X l (tVs cn Wx (evEs (cT T fuel lvl) es))
  | .nil, l, s, X, Wx, h, ok, tk => by
    cases l with
    | nil => exact jk_nil
    | cons _ _ => simp [chEs] at h
  | .cons x es, l, s, X, Wx, h, ok, tk => by
    cases l with
    | nil => simp [chEs] at h
    | cons y r =>
      simp only [List.map_cons, chEs, Bool.and_eq_true, Bool.not_eq_true'] at h
      exact jk_cons (jE h.1.2 ok tk) (jKs h.2 ok tk)
theorem jF : ∀ {es : Es} {l : List Expr} {s : SC} {X : Cx} {Wx : WX}, chEs s es l = true → XOk cn s T fuel lvl X → Takes X Wx → FJ cn X Wx l (evJs (cT T fuel lvl) es)
  | .nil, l, s, X, Wx, h, ok, tk => by
    cases l with
    | nil => exact .nil
    | cons _ _ => simp [chEs] at h
  | .cons x es, l, s, X, Wx, h, ok, tk => by
    cases l with
    | nil => simp [chEs] at h
    | cons y r =>
      simp only [chEs, Bool.and_eq_true, Bool.not_eq_true'] at h
      exact .cons (jE h.1.2 ok tk) (jF h.2 ok tk)
theorem jAnd : ∀ {es : Es} {x : Expr} {r : List Expr} {pos : Pos} {s : SC} {X : Cx} {Wx : WX}, chEs s es (x :: r) = true → XOk cn s T fuel lvl X → Takes X Wx → PE X (.BoolOp .And (x :: r) pos) (tV cn Wx (evAnd (cT T fuel lvl) es))
  | .nil, x, r, pos, s, X, Wx, h, ok, tk => by simp [chEs] at h
  | .cons e .nil, x, r, pos, s, X, Wx, h, ok, tk => by
    simp only [chEs, Bool.and_eq_true, Bool.not_eq_true'] at h
    cases r with
    | nil => exact j_one (jE h.1.2 ok tk)
    | cons _ _ => simp at h
  | .cons e (.cons e2 es), x, r, pos, s, X, Wx, h, ok, tk => by
    have h' := h
    rw [chEs] at h
    simp only [Bool.and_eq_true, Bool.not_eq_true'] at h
    cases r with
    | nil => simp [chEs] at h
    | cons y r => exact j_and (jE h.1.2 ok tk) (jAnd h.2 ok tk)
theorem jOr : ∀ {es : Es} {x : Expr} {r : List Expr} {pos : Pos} {s : SC} {X : Cx} {Wx : WX}, chEs s es (x :: r) = true → XOk cn s T fuel lvl X → Takes X Wx → PE X (.BoolOp .Or (x :: r) pos) (tV cn Wx (evOr (cT T fuel lvl) es))
  | .nil, x, r, pos, s, X, Wx, h, ok, tk => by simp [chEs] at h
  | .cons e .nil, x, r, pos, s, X, Wx, h, ok, tk => by
    simp only [chEs, Bool.and_eq_true, Bool.not_eq_true'] at h
    cases r with
    | nil => exact j_one (jE h.1.2 ok tk)
    | cons _ _ => simp at h
  | .cons e (.cons e2 es), x, r, pos, s, X, Wx, h, ok, tk => by
    rw [chEs] at h
    simp only [Bool.and_eq_true, Bool.not_eq_true'] at h
    cases r with
    | nil => simp [chEs] at h
    | cons y r => exact j_or (jE h.1.2 ok tk) (jOr h.2 ok tk)
theorem jO : ∀ {o : Oe} {l : Option Expr} {s : SC} {X : Cx} {Wx : WX}, chO s o l = true → XOk cn s T fuel lvl X → Takes X Wx → PO X l (tOi cn Wx (evO (cT T fuel lvl) o))
  | .none, l, s, X, Wx, h, ok, tk => by
    cases l with
    | none => exact jo_none
    | some _ => simp [chO] at h
  | .some e, l, s, X, Wx, h, ok, tk => by
    cases l with
    | none => simp [chO] at h
    | some x => simp only [chO] at h; exact jo_some (jE h ok tk)
theorem jC : ∀ {c : C} {ex : Expr} {s : SC} {X : Cx} {Wx : WX}, chC s c ex = true → XOk cn s T fuel lvl X → Takes X Wx → PT X ex (tBo cn Wx (evC (cT T fuel lvl) c))
  | .and cs, ex, s, X, Wx, h, ok, tk => by
    simp only [chC] at h
    split at h
    · exact (jCA h ok tk).pt
    · cases h
  | .or cs, ex, s, X, Wx, h, ok, tk => by
    simp only [chC] at h
    split at h
    · exact (jCO h ok tk).pt
    · cases h
  | .not a, ex, s, X, Wx, h, ok, tk => by
    simp only [chC] at h
    split at h
    · exact jt_not (jC h ok tk)
    · cases h
  | .val a, ex, s, X, Wx, h, ok, tk => by
    cases a with
    | cmp op a b =>
      simp only [chC] at h
      split at h
      · simp only [Bool.and_eq_true, decide_eq_true_eq, Bool.not_eq_true'] at h
        obtain ⟨⟨⟨rfl, h2⟩, h3⟩, h4⟩ := h
        exact jt_cmp ok.K (hu_of ok) op (jE h3 ok tk) (jE h4 ok tk) h2
      · cases h
    | chain o1 o2 a b d =>
      simp only [chC] at h
      split at h
      · simp only [Bool.and_eq_true, decide_eq_true_eq, Bool.not_eq_true'] at h
        obtain ⟨⟨⟨⟨⟨rfl, rfl⟩, h2⟩, h3⟩, h4⟩, h5⟩ := h
        exact jt_chain ok.K (hu_of ok) o1 o2 (jE h3 ok tk) (jE h4 ok tk) (jE h5 ok tk) h2
      · cases h
    | isN a =>
      simp only [chC] at h
      split at h
      · exact jt_isN (jE h ok tk)
      · cases h
    | notN a =>
      simp only [chC] at h
      split at h
      · refine PT_imp (jt_notN (jE h ok tk)) fun σ H Q q => tJ_cast ?_ q
        funext env
        show ((evE (cT T fuel lvl) a env >>= fun x => pure (PV.bl (match x with | .non => false | _ => true))) >>= fun x => rd (truth · x)) = ((evE (cT T fuel lvl) a env >>= fun x => pure (PV.bl (!isNon x))) >>= fun x => rd (truth · x))
        exact congrArg (· >>= fun x => rd (truth · x)) (congrArg _ (funext fun x => by cases x <;> rfl))
      · cases h
    | _ =>
      simp only [chC, Bool.and_eq_true] at h
      exact jt_truth ok.K (jE h.2 ok tk) h.1
theorem jCA : ∀ {cs : Cs} {x : Expr} {r : List Expr} {pos : Pos} {s : SC} {X : Cx} {Wx : WX}, chCs s cs (x :: r) = true → XOk cn s T fuel lvl X → Takes X Wx → PW X (.BoolOp .And (x :: r) pos) (tBo cn Wx (evCA (cT T fuel lvl) cs))
  | .nil, x, r, pos, s, X, Wx, h, ok, tk => by simp [chCs] at h
  | .cons e es, x, r, pos, s, X, Wx, h, ok, tk => by
    rw [chCs] at h
    simp only [Bool.and_eq_true] at h
    cases r with
    | nil =>
      cases es with
      | nil => exact jw_and1 (jC h.1 ok tk)
      | cons _ _ => simp [chCs] at h
    | cons y r => exact jw_and (jC h.1 ok tk) (jCA h.2 ok tk)
theorem jCO : ∀ {cs : Cs} {x : Expr} {r : List Expr} {pos : Pos} {s : SC} {X : Cx} {Wx : WX}, chCs s cs (x :: r) = true → XOk cn s T fuel lvl X → Takes X Wx → PW X (.BoolOp .Or (x :: r) pos) (tBo cn Wx (evCO (cT T fuel lvl) cs))
  | .nil, x, r, pos, s, X, Wx, h, ok, tk => by simp [chCs] at h
  | .cons e es, x, r, pos, s, X, Wx, h, ok, tk => by
    rw [chCs] at h
    simp only [Bool.and_eq_true] at h
    cases r with
    | nil =>
      cases es with
      | nil => exact jw_or1 (jC h.1 ok tk)
      | cons _ _ => simp [chCs] at h
    | cons y r => exact jw_or (jC h.1 ok tk) (jCO h.2 ok tk)
theorem jPTs : ∀ {cs : Cs} {l : List Expr} {s : SC} {X : Cx} {Wx : WX}, chCs s cs l = true → l.length ≤ 1 → XOk cn s T fuel lvl X → Takes X Wx → PTs X l (tBo cn Wx (evCA (cT T fuel lvl) cs))
  | .nil, l, s, X, Wx, h, hl, ok, tk => by
    cases l with
    | nil => exact ⟨fun pins sh σ H Q I ⟨w, hh, env, S, R, p⟩ => pts_nil.run pins sh σ H Q I (p.pure S _ rfl)⟩
    | cons _ _ => simp [chCs] at h
  | .cons e es, l, s, X, Wx, h, hl, ok, tk => by
    cases l with
    | nil => simp [chCs] at h
    | cons y r =>
      have hr : r = [] := by simp at hl; exact hl
      subst hr
      rw [chCs] at h
      simp only [Bool.and_eq_true] at h
      cases es with
      | nil =>
        refine ⟨fun pins sh σ H Q I q => (pts_one (jC h.1 ok tk)).run pins sh σ H Q I (tJ_seq q fun w H1 hh env x v S R ra p1 => ?_)⟩
        cases ra
        cases x with
        | true => exact p1.pure S _ rfl
        | false => exact p1.pure S _ rfl
      | cons _ _ => simp [chCs] at h
theorem jI : ∀ {i : It} {tg e : Expr} {s : SC} {X : Cx} {Wx : WX}, chI s tg i e = true → XOk cn s T fuel lvl X → Takes X Wx → PI X tg e (tSr cn Wx (evI (cT T fuel lvl) i))
  | .val a, tg, e, s, X, Wx, h, ok, tk => by simp only [chI] at h; exact ji_val ok (jE h ok tk)
  | .range1 a, tg, e, s, X, Wx, h, ok, tk => by
    simp only [chI] at h
    split at h
    · simp only [Bool.and_eq_true, decide_eq_true_eq, Bool.not_eq_true'] at h
      obtain ⟨⟨⟨rfl, h2⟩, h3⟩, h4⟩ := h
      exact ji_range1 ok h2 (jE h3 ok tk) h4
    · cases h
  | .range2 a b, tg, e, s, X, Wx, h, ok, tk => by
    simp only [chI] at h
    split at h
    · simp only [Bool.and_eq_true, decide_eq_true_eq, Bool.not_eq_true'] at h
      obtain ⟨⟨⟨⟨⟨rfl, h2⟩, h3⟩, h4⟩, h5⟩, h6⟩ := h
      exact ji_range2 ok h2 (jE h3 ok tk) (jE h4 ok tk) h5 h6
    · cases h
  | .enum a, tg, e, s, X, Wx, h, ok, tk => by
    simp only [chI] at h
    split at h
    · simp only [Bool.and_eq_true, decide_eq_true_eq, Bool.not_eq_true'] at h
      obtain ⟨⟨⟨⟨rfl, h2⟩, h3⟩, h4⟩, h5⟩ := h
      exact ji_enum ok h2 h5 (jE h3 ok tk) h4
    · cases h
  | .zip a b, tg, e, s, X, Wx, h, ok, tk => by
    simp only [chI] at h
    split at h
    · simp only [Bool.and_eq_true, decide_eq_true_eq, Bool.not_eq_true'] at h
      obtain ⟨⟨⟨⟨⟨⟨rfl, h2⟩, h3⟩, h4⟩, h5⟩, h6⟩, h7⟩ := h
      exact ji_zip ok h2 h7 (jE h3 ok tk) (jE h4 ok tk) h5 h6
    · cases h
theorem jGI : ∀ {g : Gs} {l : List Comprehension} {s s' : SC} {X : Cx} {Wx : WX}, chG s s' g l = true → XOk cn s T fuel lvl X → Takes X Wx → ∃ tg iter ifs rest, l = ⟨tg, iter, ifs, 0⟩ :: rest ∧ PI X tg iter (tSr cn Wx (evI (cT T fuel lvl) (gI g))) ∧ ∀ env x, foldedSetIterable iter env x = pure x
  | .last t i cs, l, s, s', X, Wx, h, ok, tk => by
    simp only [chG] at h
    split at h
    · simp only [Bool.and_eq_true, decide_eq_true_eq, Bool.not_eq_true'] at h
      obtain ⟨⟨⟨⟨h1, h2⟩, h3⟩, h4⟩, h5⟩ := h
      exact ⟨_, _, _, _, rfl, jI h3 ok tk, notSet h1⟩
    · cases h
  | .cons t i cs g, l, s, s', X, Wx, h, ok, tk => by
    simp only [chG] at h
    split at h
    · simp only [Bool.and_eq_true, decide_eq_true_eq, Bool.not_eq_true'] at h
      obtain ⟨⟨⟨⟨⟨h1, h2⟩, h3⟩, h4⟩, h5⟩, h6⟩ := h
      exact ⟨_, _, _, _, rfl, jI h3 ok tk, notSet h1⟩
    · cases h
theorem jGB : ∀ {g : Gs} {l : List Comprehension} {s s' : SC} {B : Cx} {x : Expr} {te : En → M PV}, chG s s' g l = true → (gsIx g).Nodup → XOk cn s' T fuel lvl B → PE B x (tV cn WxF te) → GJ cn B x te l (gsIx g) (gG (cT T fuel lvl) te g)
  | .last t i cs, l, s, s', B, x, te, h, nd, ok, pe => by
    simp only [chG] at h
    split at h
    · simp only [Bool.and_eq_true, decide_eq_true_eq, Bool.not_eq_true'] at h
      obtain ⟨⟨⟨⟨h1, h2⟩, h3⟩, h4⟩, h5⟩ := h
      exact .last (jg ok h2) (jPTs h5 h4 ok takesF) pe
    · cases h
  | .cons t i cs g, l, s, s', B, x, te, h, nd, ok, pe => by
    simp only [chG] at h
    split at h
    · simp only [Bool.and_eq_true, decide_eq_true_eq, Bool.not_eq_true'] at h
      obtain ⟨⟨⟨⟨⟨h1, h2⟩, h3⟩, h4⟩, h5⟩, h6⟩ := h
      simp only [gsIx, List.nodup_append] at nd
      obtain ⟨tg1, iter1, ifs1, rest1, rfl, pi1, hs1⟩ := jGI h6 ok (takesF (X := B))
      exact .cons (jg ok h2) (jPTs h5 h4 ok takesF) hs1 pi1 (jGB h6 nd.2.1 ok pe) (fun j hj hk => nd.2.2 j hj j hk rfl)
    · cases h
end
end
end J

set_option autoImplicit false
set_option linter.all false
set_option maxRecDepth 100000
set_option maxHeartbeats 4000000
/-! JS: statements. -/
namespace J
open PySem PySem.Spec PyProof.Rows L2
/-- what is wanted by the way out -/
def FlQ (cn : Cn) (Wx : WX) (D : Ends) (w' : Wd) (H' : Hp) (σ' : L2.St) : Fl → Prop
  | .next => D.nx σ' H'
  | .brk => D.bk σ' H'
  | .cont => D.ct σ' H'
  | .ret v => ∀ u, Rl cn.K w' H' v u → D.rt u H'
  | .exc c v => ∀ cls d, cn.ex c v w' H' cls d → Wx cls d σ' H'
def SQ (cn : Cn) (Wx : WX) (D : Ends) : Wd → Hp → Hh → Fl × En → Prop := fun w' H' _ r => ∀ σ', Re cn.K w' H' r.2 σ' → FlQ cn Wx D w' H' σ' r.1
abbrev noE : XK := fun _ _ _ => False
def tSJ (cn : Cn) (Wx : WX) (m : En → M (Fl × En)) : TS := fun D σ H => ∃ w h env, Sim cn.K w h H ∧ Re cn.K w H env σ ∧ Post cn w H (m env h) (SQ cn Wx D) noE
section
variable {cn : Cn} {X : Cx} {Wx : WX} {α γ : Type} {D : Ends} {σ : L2.St} {H : Hp} {w : Wd} {h : Hh}
theorem PS_at {e : Stmt} {t : TS} (k : ∀ D σ H, t D σ H → ∃ t', PS X e t' ∧ t' D σ H) : PS X e t := ⟨fun pins s σ H D I q => let ⟨_, p, q'⟩ := k D σ H q; p.run pins s σ H D I q'⟩
/-- an expression at the head of a statement -/
theorem try_bind {m : M α} {env : En} {k : α → M (Fl × En)} (R : Re cn.K w H env σ) (p : Post cn w H (tryE m env k h) (SQ cn Wx D) noE) :
    Post cn w H (m h) (fun w' H' h' a => Post cn w' H' (k a h') (SQ cn Wx D) noE) (WE Wx σ) := by
  unfold tryE at p
  cases e : m h with
  | ok a h' => rw [e] at p; exact fun w' H' E S' => Post.up E p
  | exc c v h' =>
    rw [e] at p
    exact fun w' H' cls d E S' x => p w' H' E S' σ (R.mono E) cls d x
  | bad => rw [e] at p; exact p
theorem tS_seq {m : En → M α} {k : En → α → M (Fl × En)} {VR : Wd → Hp → α → γ → Prop} {Q' : γ → Hp → Prop}
    (p : tSJ cn Wx (fun env => tryE (m env) env (k env)) D σ H)
    (g : ∀ w H1 h env a v, Sim cn.K w h H1 → Re cn.K w H1 env σ → VR w H1 a v → Post cn w H1 (k env a h) (SQ cn Wx D) noE → Q' v H1) : tJ cn Wx m VR σ H Q' := by
  obtain ⟨w, h, env, S, R, p⟩ := p
  exact ⟨w, h, env, S, R, (try_bind R p).imp fun w' H' h' a E S' p' v r => g w' H' h' env a v S' (R.mono E) r p'⟩
variable {f g k : En → M PV} {a b d : Expr} {pos : Pos}
theorem js_expr (ha : PE X a (tV cn Wx f)) (hc : isComp a = false) : PS X (.Expr a pos) (tSJ cn Wx fun env => tryE (f env) env fun _ => pure (.next, env)) :=
  PS_imp (ps_expr ha (by cases a <;> first | rfl | (simp [isComp] at hc; done))) fun D σ H q => tS_seq q fun w H1 h env x v S R ra p1 => p1.pure S _ R
theorem sw_false {sc : SC} {v : Expr} {x : Str} {px pos : Pos} {env : Env} (hsc : env.scope = sc.sc) (hk : env.scope.kind = .function) (h : swB sc v x px = false) (hc : isComp v = false ∨ ∃ elt gs scope p, v = .ListComp elt gs scope p) : swapsWith v (some (.Name x px)) pos.line env = pure false := by
  rcases hc with hc | ⟨elt, gs, scope, p, rfl⟩
  · cases v <;> first | rfl | (simp [isComp] at hc; done)
  · unfold swapsWith
    simp only [swB] at h
    have hb : env.blockKind = .function := by unfold Env.blockKind; rw [hk]; rfl
    simp only [hb, Env.kindOf, hsc, Expr.pos]
    show (pure _ : Sem Bool) = pure false
    congr 1
    revert h
    generalize (scope.names.any fun (n, k) => n == x && (k == .local || k == .cell)) = q
    simp only [Bool.and_eq_false_iff, decide_eq_false_iff_not, Bool.not_eq_false']
    rintro ((h | h) | h)
    · have : (List.lookup x sc.sc.names == some NameKind.local) = false := by simpa using h
      rw [this]; simp
    · have : (px.line == p.line) = false := by simpa using h
      rw [this]; simp
    · rw [h]; simp
variable {tg : Expr} {t : Tg}
theorem js_asg {gt : TG} (hg : PG X tg gt) (ha : PE X a (tV cn Wx f)) (hc : isComp a = false) (hw : swappedStores [tg] a X.env = pure none) (h1 : isStar tg = false) : PS X (.Assign [tg] a pos) (tAsg (tV cn Wx f) gt) :=
  ps_asg ha hg (by cases a <;> first | rfl | (simp [isComp] at hc; done)) hw (by cases tg <;> first | rfl | (simp [isStar] at h1; done))
end
section
variable {cn : Cn} {s : SC} {T : Nat → Option Fd} {fuel lvl : Nat} {X : Cx} {Wx : WX} {f g k : En → M PV} {a b d tg : Expr} {t : Tg} {pos : Pos}
theorem set_read {i : Nat} {D : Ends} {σ : L2.St} {H : Hp} (q : tSJ cn Wx (fun env => tryE (f env) env fun x => if i < env.length then pure (.next, env.set i (some x)) else bad) D σ H) : tAsg (tV cn Wx f) (gName i) D σ H :=
  tS_seq q fun w H1 h env x v S R ra p1 => by
    split at p1
    · exact p1.pure S _ (R.set ra)
    · exact p1.elim
theorem js_tup (ok : XOk cn s T fuel lvl X) (ht : chTg s t tg = true) (hi : isTup tg = true) (ha : PE X a (tV cn Wx f)) (hc : isComp a = false) (hn : isTup a = false) :
    PS X (.Assign [tg] a pos) (tSJ cn Wx fun env => tryE (f env) env fun x => opt (asgn t x env) >>= fun env' => pure (.next, env')) :=
  PS_imp (js_asg (jg ok ht) ha hc (by cases tg <;> first | (simp [isTup] at hi; done) | (cases a <;> first | rfl | (simp [isTup] at hn; done))) (by cases tg <;> first | rfl | (simp [isTup] at hi; done))) fun D σ H q => tS_seq q fun w H1 h env x v S R ra p1 => by
    obtain ⟨env', e, p2⟩ := p1.optB
    exact ⟨w, h, env, x, env', S, R, ra, e, fun σ' R' _ => p2.pure S _ R'⟩
theorem js_seti (hK : X.K = cn.K) {o i : Expr} {p2 : Pos} (ho : PE X o (tV cn Wx f)) (hi : PE X i (tV cn Wx g)) (ha : PE X a (tV cn Wx k)) (hs : isSl i = false) (hc : isComp a = false) :
    PS X (.Assign [.Subscript o i p2] a pos) (tSJ cn Wx fun env => tryE (k env >>= fun v => f env >>= fun x => g env >>= fun kk => match kk with
      | .int kk => wrL x fun xs => (L2.ixN xs.length kk).map fun j => (.non, xs.set j v)
      | _ => bad) env fun _ => pure (.next, env)) :=
  PS_at fun D σ H ⟨w, h, env, S, R, p⟩ => ⟨_, js_asg (pg_sub ho hi (set_J (cn := cn) (EE := WE Wx σ)) (by intro v; cases i <;> first | rfl | (simp [isSl] at hs; done))) ha hc rfl rfl, by
    refine ⟨w, h, env, S, R, (try_bind R p).bind.imp fun w1 H1 h1 v E1 S1 p1 u ru => ?_⟩
    refine ⟨w1, h1, env, S1, R.mono E1, p1.bind.imp fun w2 H2 h2 x E2 S2 p2 ov rx => ?_⟩
    refine ⟨w2, h2, env, S2, (R.mono E1).mono E2, p2.bind.imp fun w3 H3 h3 kk E3 S3 p3 iv rk => ?_⟩
    cases kk with
    | int kk =>
      cases rk
      exact ⟨w3, h3, x, kk, v, S3, rx.mono E3, rfl, (ru.mono E2).mono E3, p3.imp fun w4 H4 h4 _ E4 S4 p4 => p4.pure S4 _ (((R.mono E1).mono E2).mono E3 |>.mono E4)⟩
    | _ => exact p3.elim⟩
end
end J

set_option autoImplicit false
set_option linter.all false
set_option maxRecDepth 100000
set_option maxHeartbeats 4000000
/-! JS2: statements, on: in place, tests, loops, blocks. -/
namespace J
open PySem PySem.Spec PyProof.Rows L2
section
variable {cn : Cn} {s : SC} {T : Nat → Option Fd} {fuel lvl : Nat} {X : Cx} {Wx : WX} {f g k : En → M PV} {a b d tg : Expr} {t : Tg} {pos p2 : Pos}
def augV (op : Op2) (x y : PV) : M PV := match x, y, op with
  | .int a, .int b, .add => pure (PV.int (a + b))
  | .int a, .int b, .sub => pure (PV.int (a - b))
  | _, _, _ => bad
theorem augV_inv {op : Op2} {x y : PV} {w : Wd} {H : Hp} {h : Hh} {R : Wd → Hp → Hh → PV → Prop} {EE : XK} (p : Post cn w H (augV op x y h) R EE) : ∃ i j, x = .int i ∧ y = .int j ∧ ((op = .add ∧ Post cn w H ((pure (.int (i + j)) : M PV) h) R EE) ∨ (op = .sub ∧ Post cn w H ((pure (.int (i - j)) : M PV) h) R EE)) := by
  unfold augV at p
  split at p
  · exact ⟨_, _, rfl, rfl, .inl ⟨rfl, p⟩⟩
  · exact ⟨_, _, rfl, rfl, .inr ⟨rfl, p⟩⟩
  · exact p.elim
def ipJ (cn : Cn) (op : Op2) : TIp := fun u v H Q => ∃ i j : Int, u = .int i ∧ v = .int j ∧ ((op = .add ∧ Q (.int (i + j)) H) ∨ (op = .sub ∧ Q (.int (i - j)) H))
theorem ip_J (op : Op2) : PIp X (opOf op) (ipJ cn op) := by
  intro pins s σ H x y v u Q I r1 r2 ⟨i, j, e1, e2, q⟩
  rcases q with ⟨rfl, q⟩ | ⟨rfl, q⟩
  · exact ip_add pins s σ H x y v u Q I r1 r2 ⟨i, j, e1, e2, q⟩
  · exact ip_sub pins s σ H x y v u Q I r1 r2 ⟨i, j, e1, e2, q⟩
theorem js_aug (ok : XOk cn s T fuel lvl X) {i : Nat} {x : Str} {op : Op2} (hN : s.N[i]? = some x) (hst : s.st x = true) (ha : PE X a (tV cn Wx f)) :
    PS X (.AugAssign (.Name x p2) (opOf op) a pos) (tSJ cn Wx fun env => tryE ((match env[i]? with | some (some v) => pure v | _ => bad : M PV) >>= fun x => f env >>= fun y => augV op x y) env fun z => pure (.next, env.set i (some z))) :=
  have l := ok.st x hst
  PS_imp (ps_aug (by rw [ok.N]; exact ok.nd) (by rw [ok.N]; exact hN) (by rw [ok.sc]; exact l.1) ha (ip_J (cn := cn) op) l.2) fun D σ H ⟨w, h, env, S, R, p⟩ => by
    have p := (try_bind R p).bind
    cases e : env[i]? with
    | none => rw [e] at p; exact False.elim p
    | some o =>
      rw [e] at p
      cases o with
      | none => exact False.elim p
      | some v =>
        obtain ⟨u, eu, ru⟩ := R.2 i v e
        refine ⟨u, eu, w, h, env, S, R, (Post.pure S p).bind.imp fun w1 H1 h1 y E1 S1 p1 yv ry => ?_⟩
        obtain ⟨m, n, rfl, rfl, q⟩ := augV_inv p1
        cases ry
        have ru' := ru
        cases ru
        refine ⟨m, n, rfl, rfl, q.imp (fun ⟨e, q⟩ => ⟨e, ?_⟩) fun ⟨e, q⟩ => ⟨e, ?_⟩⟩
        · exact Post.pure S1 (Post.pure S1 q) _ ((R.mono E1).set rfl)
        · exact Post.pure S1 (Post.pure S1 q) _ ((R.mono E1).set rfl)
theorem js_augi (hK : X.K = cn.K) {o i : Expr} {op : Op2} (ho : PE X o (tV cn Wx f)) (hi : PE X i (tV cn Wx g)) (ha : PE X a (tV cn Wx k)) (hs : isSl i = false) :
    PS X (.AugAssign (.Subscript o i p2) (opOf op) a pos) (tSJ cn Wx fun env => tryE (f env >>= fun x => g env >>= fun kk => rd (fun h => match kk with | .int j => if 0 ≤ j then (getL h x).bind fun xs => L2.atI xs j else none | _ => none) >>= fun old => k env >>= fun y => augV op old y >>= fun z => match kk with
      | .int kk => wrL x fun xs => (L2.ixN xs.length kk).map fun j => (.non, xs.set j z)
      | _ => bad) env fun _ => pure (.next, env)) :=
  PS_at fun D σ H ⟨w, h, env, S, R, p⟩ => ⟨_, ps_augS ho hi (get_J (cn := cn) hK) ha (ip_J (cn := cn) op) (set_J (cn := cn) (EE := WE Wx σ)) (by intro ov iv new; cases i <;> first | rfl | (simp [isSl] at hs; done)), by
    refine ⟨w, h, env, S, R, (try_bind R p).bind.imp fun w1 H1 h1 x E1 S1 p1 ov rx => ?_⟩
    refine ⟨w1, h1, env, S1, R.mono E1, p1.bind.imp fun w2 H2 h2 kk E2 S2 p2 iv rk => ?_⟩
    obtain ⟨old, e, p3⟩ := p2.rdB
    cases kk with
    | int kk =>
      cases rk
      simp only at e
      split at e
      · rename_i h0
        obtain ⟨xs, e1, e2⟩ := Option.bind_eq_some_iff.mp e
        have R2 := (R.mono E1).mono E2
        refine ⟨w2, h2, x, kk, xs, old, S2, rx.mono E2, rfl, h0, e1, e2, fun oldv rold => ?_⟩
        refine ⟨w2, h2, env, S2, R2, p3.bind.imp fun w3 H3 h3 y E3 S3 p4 yv ry => ?_⟩
        have p5 := p4.bind
        obtain ⟨m, n, rfl, rfl, q⟩ := augV_inv p5
        cases ry
        cases rold
        have fin : ∀ z : Int, Post cn w3 H3 ((wrL x fun xs => (L2.ixN xs.length kk).map fun j => (PV.non, xs.set j (.int z))) h3) (fun w' H' h' a => Post cn w' H' ((pure (.next, env) : M (Fl × En)) h') (SQ cn Wx D) noE) (WE Wx σ) → rSetJ cn (WE Wx σ) ov (.int kk) (.int z) H3 fun H6 => D.nx σ H6 := fun z q =>
          ⟨w3, h3, x, kk, .int z, S3, (rx.mono E2).mono E3, rfl, rfl, q.imp fun w4 H4 h4 _ E4 S4 p6 => p6.pure S4 _ ((R2.mono E3).mono E4)⟩
        exact ⟨m, n, rfl, rfl, q.imp (fun ⟨e, q⟩ => ⟨e, fin _ (Post.pure S3 q)⟩) fun ⟨e, q⟩ => ⟨e, fin _ (Post.pure S3 q)⟩⟩
      · cases e
    | _ => cases e⟩
variable {body : En → M (Fl × En)} {u v : En → M (Fl × En)} {c : Expr} {tt : En → M Bool} {la lb : List Stmt}
theorem js_ite (hc : PT X c (tBo cn Wx tt)) (ha : PSs X la (tSJ cn Wx u)) (hb : PSs X lb (tSJ cn Wx v)) : PS X (.If c la lb pos) (tSJ cn Wx fun env => tryE (tt env) env fun r => if r then u env else v env) :=
  PS_imp (ps_if hc ha hb) fun D σ H q => tS_seq q fun w H1 h env x v S R ra p1 => by
    cases ra
    cases x with
    | true => exact ⟨w, h, env, S, R, p1⟩
    | false => exact ⟨w, h, env, S, R, p1⟩
theorem js_ret (ha : PE X a (tV cn Wx f)) : PS X (.Return (some a) pos) (tSJ cn Wx fun env => tryE (f env) env fun x => pure (.ret x, env)) :=
  PS_imp (ps_ret ha) fun D σ H q => tS_seq q fun w H1 h env x v S R ra p1 => p1.pure S _ R _ ra
theorem js_retN : PS X (.Return none pos) (tSJ cn Wx fun env => pure (.ret .non, env)) := PS_imp ps_retN fun D σ H ⟨w, h, env, S, R, p⟩ => p.pure S _ R _ rfl
theorem js_brk : PS X (.Break pos) (tSJ cn Wx fun env => pure (.brk, env)) := PS_imp ps_break fun D σ H ⟨w, h, env, S, R, p⟩ => p.pure S _ R
theorem js_cont : PS X (.Continue pos) (tSJ cn Wx fun env => pure (.cont, env)) := PS_imp ps_continue fun D σ H ⟨w, h, env, S, R, p⟩ => p.pure S _ R
theorem js_pass : PS X (.Pass pos) (tSJ cn Wx fun env => pure (.next, env)) := PS_imp ps_pass fun D σ H ⟨w, h, env, S, R, p⟩ => p.pure S _ R
theorem js_never {st : Stmt} : PS X st (tSJ cn Wx fun env => bad) := PS_imp ps_never fun D σ H ⟨w, h, env, S, R, p⟩ => p
/-- how a body's way out is taken within a loop: N what the next turn wants -/
theorem loop_body {w : Wd} {H : Hp} {D : Ends} {o : Out (Fl × En)} {nxt : En → M (Fl × En)} {N : L2.St → Hp → Prop}
    (p : Post cn w H (match o with
      | .ok (.next, env') h' => nxt env' h'
      | .ok (.cont, env') h' => nxt env' h'
      | .ok (.brk, env') h' => .ok (.next, env') h'
      | .ok (.ret v, env') h' => .ok (.ret v, env') h'
      | .ok (.exc c v, env') h' => .ok (.exc c v, env') h'
      | .exc c v h' => .exc c v h'
      | .bad => .bad) (SQ cn Wx D) noE)
    (go : ∀ w' H' h' env' σ', Ext w H w' H' → Sim cn.K w' h' H' → Re cn.K w' H' env' σ' → Post cn w' H' (nxt env' h') (SQ cn Wx D) noE → N σ' H') : Post cn w H o (SQ cn Wx { D with nx := N, ct := N, bk := D.nx }) noE := by
  cases o with
  | bad => exact p
  | exc c v h' => exact p
  | ok r h' =>
    obtain ⟨fl, env'⟩ := r
    cases fl with
    | next => exact fun w' H' E S' σ' R => go w' H' h' env' σ' E S' R (Post.up E p)
    | cont => exact fun w' H' E S' σ' R => go w' H' h' env' σ' E S' R (Post.up E p)
    | brk => exact fun w' H' E S' σ' R => p w' H' E S' σ' R
    | ret v => exact fun w' H' E S' σ' R => p w' H' E S' σ' R
    | exc c v => exact fun w' H' E S' σ' R => p w' H' E S' σ' R
theorem js_while (ok : XOk cn s T fuel lvl X) (n : Nat) (hc : PT X c (tBo cn Wx tt)) (hb : PSs X la (tSJ cn Wx body)) : PS X (.While c la [] pos) (tSJ cn Wx fun env => whGo tt body n env) := by
  refine PS_imp (ps_while ok.pass hc hb) fun D σ H ⟨w, h, env, S, R, p⟩ => ⟨fun m σ H => ∃ w h env, Sim cn.K w h H ∧ Re cn.K w H env σ ∧ Post cn w H (whGo tt body m env h) (SQ cn Wx D) noE, ⟨n, w, h, env, S, R, p⟩, ?_⟩
  rintro m σ H ⟨w, h, env, S, R, p⟩
  cases m with
  | zero => exact p.elim
  | succ m =>
    refine ⟨w, h, env, S, R, (try_bind R p).imp fun w1 H1 h1 b E1 S1 p1 b' rb => ?_⟩
    cases rb
    cases b with
    | true =>
      rw [if_pos rfl] at p1 ⊢
      refine ⟨fun σ' H' => ∃ w h env, Sim cn.K w h H' ∧ Re cn.K w H' env σ' ∧ Post cn w H' (whGo tt body m env h) (SQ cn Wx D) noE, fun σ' H' z => ⟨m, Nat.lt_succ_self m, z⟩, w1, h1, env, S1, R.mono E1, ?_⟩
      refine loop_body (nxt := fun env' => whGo tt body m env') ?_ fun w' H' h' env' σ' E' S' R' p' => ⟨w', h', env', S', R', p'⟩
      have p1 : Post cn w1 H1 (M.bind (body env) (fun r => match r with
        | (.next, env') => whGo tt body m env'
        | (.cont, env') => whGo tt body m env'
        | (.brk, env') => pure (.next, env')
        | (.ret v, env') => pure (.ret v, env')
        | (.exc c v, env') => pure (.exc c v, env')) h1) (SQ cn Wx D) noE := p1
      unfold M.bind at p1
      cases e : body env h1 with
      | bad => rw [e] at p1; exact p1
      | exc c v h' => rw [e] at p1; exact p1
      | ok r h' =>
        rw [e] at p1
        obtain ⟨fl, env'⟩ := r
        cases fl <;> exact p1
    | false =>
      rw [if_neg (by decide)] at p1 ⊢
      exact p1.pure S1 _ (R.mono E1)
theorem js_for (ok : XOk cn s T fuel lvl X) {iter : Expr} {it : En → M Src} (hi : PI X tg iter (tSr cn Wx it)) (ht : chTg s t tg = true) (hb : PSs X la (tSJ cn Wx body)) (hs : ∀ env x, foldedSetIterable iter env x = pure x) :
    PS X (.For tg iter la [] pos) (tSJ cn Wx fun env => tryE (it env) env fun src => fun h => forGo src (fun x env => opt (asgn t x env) >>= fun env' => body env') (turns h src) 0 env h) := by
  refine PS_imp (ps_for ok.pass ok.calm hi (jg ok ht) hb (hs _)) fun D σ H q => tS_seq q fun w H1 h env src J S R sj p1 => ?_
  refine ⟨fun i m σ H => ∃ w h env, Sim cn.K w h H ∧ Re cn.K w H env σ ∧ SrcJ cn w H src J ∧ Post cn w H (forGo src (fun x env => opt (asgn t x env) >>= fun env' => body env') m i env h) (SQ cn Wx D) noE, ⟨_, w, h, env, S, R, sj, p1⟩, ?_⟩
  rintro i m σ H ⟨w, h, env, S, R, sj, p⟩
  cases m with
  | zero => exact False.elim p
  | succ m =>
    simp only [forGo] at p
    cases e : item h src i with
    | none => rw [e] at p; exact False.elim p
    | some o =>
      rw [e] at p
      cases o with
      | none => exact .inl ⟨sj.stop S e, p w H (Ext.refl _ _) S σ R⟩
      | some x =>
        obtain ⟨g1, g2⟩ := sj.go S e
        refine .inr ⟨g1, fun σ' H' => ∃ w h env, Sim cn.K w h H' ∧ Re cn.K w H' env σ' ∧ SrcJ cn w H' src J ∧ Post cn w H' (forGo src (fun x env => opt (asgn t x env) >>= fun env' => body env') m (i + 1) env h) (SQ cn Wx D) noE, fun σ' H' z => ⟨m, Nat.lt_succ_self m, z⟩, fun v H' y => ?_⟩
        obtain ⟨E1, S1, rx⟩ := g2 v H' y
        cases ea : asgn t x env with
        | none =>
          simp only [ea] at p
          exact False.elim p
        | some env' =>
          simp only [ea] at p
          refine ⟨w, h, env, x, env', S1, R.mono E1, rx, ea, fun σ1 R1 _ => ⟨w, h, env', S1, R1, ?_⟩⟩
          have p := Post.up E1 p
          exact loop_body (nxt := fun env' => forGo src (fun x env => opt (asgn t x env) >>= fun env' => body env') m (i + 1) env') p fun w' H2 h' env2 σ' E' S' R' p' => ⟨w', h', env2, S', R', (sj.mono E1).mono E', p'⟩
theorem jss_nil : PSs X [] (tSJ cn Wx fun env => pure (.next, env)) := PSs_imp pss_nil fun D σ H ⟨w, h, env, S, R, p⟩ => p.pure S _ R
theorem jss_cons {st : Stmt} (ha : PS X st (tSJ cn Wx u)) (hb : PSs X la (tSJ cn Wx v)) : PSs X (st :: la) (tSJ cn Wx fun env => u env >>= fun r => match r with
    | (.next, env') => v env'
    | r => pure r) :=
  PSs_imp (pss_cons ha hb) fun D σ H ⟨w, h, env, S, R, p⟩ => ⟨w, h, env, S, R, p.bind.imp fun w1 H1 h1 r E1 S1 p1 σ' R' => by
    obtain ⟨fl, env'⟩ := r
    cases fl with
    | next => exact ⟨w1, h1, env', S1, R', p1⟩
    | brk => exact p1.pure S1 σ' R'
    | cont => exact p1.pure S1 σ' R'
    | ret v => exact p1.pure S1 σ' R'
    | exc c v => exact p1.pure S1 σ' R'⟩
/-- a list stands still from here on -/
theorem jss_frz {i : Nat} (hb : PSs X la (tSJ cn Wx v)) : PSs X la (tSJ cn Wx fun env => (fun h => match env[i]? with
    | some (some (.loc n)) => match h[n]? with
      | some (.lst xs) => .ok (Fl.next, env.set i (some (.lst xs))) (h.set n .dead)
      | some (.dct ks vs) => .ok (.next, env.set i (some (.dct ks vs))) (h.set n .dead)
      | _ => .bad
    | _ => .bad : M (Fl × En)) >>= fun r => match r with
    | (.next, env') => v env'
    | r => pure r) :=
  PSs_imp hb fun D σ H ⟨w, h, env, S, R, p⟩ => by
    have p := p.bind
    cases e : env[i]? with
    | none => simp only [e] at p; exact False.elim p
    | some o =>
      cases o with
      | none => simp only [e] at p; exact False.elim p
      | some x =>
        cases x with
        | loc n =>
          simp only [e] at p
          cases e2 : h[n]? with
          | none => simp only [e2] at p; exact False.elim p
          | some c =>
            obtain ⟨u, eu, a, rfl, fa⟩ := R.2 i _ e
            cases c with
            | dead => simp only [e2] at p; exact False.elim p
            | lst xs =>
              simp only [e2] at p
              obtain ⟨a', vs, k1, k2, k3, k4, k5⟩ := S.cells n _ e2
              rw [fa] at k1; cases k1
              obtain ⟨E, S'⟩ := S.still e2 (fun z => nomatch z) fa
              have := (R.mono E).set (i := i) (x := .lst xs) (v := .ref a) ⟨a, vs, rfl, .inr rfl, k4, k5.mono E⟩
              have hs : σ.set i (some (V.ref a)) = σ := by
                obtain ⟨hi, hv⟩ := List.getElem?_eq_some_iff.mp eu
                rw [← hv]; exact List.set_getElem_self hi
              rw [hs] at this
              exact ⟨w.fz a, _, _, S', this, p _ _ E S'⟩
            | dct ks xs =>
              simp only [e2] at p
              obtain ⟨a', vs, k1, k2, k3, k4, k5, k6⟩ := S.cells n _ e2
              rw [fa] at k1; cases k1
              obtain ⟨E, S'⟩ := S.still e2 (fun z => nomatch z) fa
              have := (R.mono E).set (i := i) (x := .dct ks xs) (v := .ref a) ⟨a, vs, rfl, .inr rfl, k4, k5, k6.mono E⟩
              have hs : σ.set i (some (V.ref a)) = σ := by
                obtain ⟨hi, hv⟩ := List.getElem?_eq_some_iff.mp eu
                rw [← hv]; exact List.set_getElem_self hi
              rw [hs] at this
              exact ⟨w.fz a, _, _, S', this, p _ _ E S'⟩
        | _ => simp only [e] at p; exact False.elim p
end
end J

set_option autoImplicit false
set_option linter.all false
set_option maxRecDepth 100000
set_option maxHeartbeats 4000000
/-! JT: checked statements, defs, programs. -/
namespace J
open PySem PySem.Spec PyProof.Rows L2
section
variable {cn : Cn} {T : Nat → Option Fd} {fuel lvl : Nat}
theorem chE_comp {s : SC} {a : E} {v : Expr} (h : chE s a v = true) : isComp v = false ∨ ∃ elt gs scope p, v = .ListComp elt gs scope p := by
  cases v with
  | ListComp elt gs scope p => exact .inr ⟨_, _, _, _, rfl⟩
  | SetComp _ _ _ _ => cases a <;> first | (simp [chE] at h; done) | (rename_i b _ _; cases b <;> (simp [chE] at h; done))
  | DictComp _ _ _ _ _ => cases a <;> first | (simp [chE] at h; done) | (rename_i b _ _; cases b <;> (simp [chE] at h; done))
  | _ => exact .inl rfl
theorem jSet {i : Nat} {a : E} {v : Expr} {x : Str} {px pos : Pos} {s : SC} {X : Cx} {Wx : WX} (hN : s.N[i]? = some x) (hst : s.st x = true) (h : chE s a v = true) (ok : XOk cn s T fuel lvl X) (tk : Takes X Wx) :
    PS X (.Assign [.Name x px] v pos) (tSJ cn Wx fun env => tryE (evE (cT T fuel lvl) a env) env fun x => if i < env.length then pure (.next, env.set i (some x)) else bad) := by
  have l := ok.st x hst
  have hN' : X.N[i]? = some x := by rw [ok.N]; exact hN
  have nd : X.N.Nodup := by rw [ok.N]; exact ok.nd
  refine ⟨fun pins sh σ H D I q => ?_⟩
  cases hsw : swB s v x px with
  | false =>
    exact (ps_set nd hN' (by rw [ok.sc]; exact l.1) (jE h ok tk) (sw_false ok.sc I.ok.kind hsw (chE_comp h)) l.2).run pins sh σ H D I (set_read q)
  | true =>
    rcases chE_comp h with hc | ⟨elt, gens, scope, p, rfl⟩
    · cases v <;> first | (simp [swB] at hsw; done) | (simp [isComp] at hc; done)
    · simp only [swB, Bool.and_eq_true, decide_eq_true_eq, Bool.not_eq_true'] at hsw
      obtain ⟨⟨w1, w2⟩, w3⟩ := hsw
      cases a with
      | comp m own el gs =>
        simp only [chE, Bool.and_eq_true, decide_eq_true_eq] at h
        obtain ⟨⟨⟨⟨⟨h1, h2⟩, h3⟩, h4⟩, h5⟩, h6⟩ := h
        have bo := blkOk_by h1
        rw [← ok.sc, ← ok.N] at bo
        obtain ⟨tg, iter, ifs, rest, rfl, pi0, hs⟩ := jGI h6 ok tk
        have gj : ∀ (s0 : Shared) (H : Hp) (C : Addr) (cl : List (Str × Addr)) (fp : List Addr), GJ cn (X.blk s0 H scope (compEnvC scope cl C X.env) fp) elt (evE (cT T fuel lvl) el) (⟨tg, iter, ifs, 0⟩ :: rest) (gsIx gs) (gG (cT T fuel lvl) (fun env' => evE (cT T fuel lvl) el env') gs) := fun s0 H C cl fp =>
          jGB h6 h3 (ok.blk scope s0 H C cl fp) (jE h5 (ok.blk scope s0 H C cl fp) takesF)
        have h2' : (own.filterMap fun i => (X.N[i]?).map fun n => (n, i)).map (·.2) = own := by rw [ok.N]; exact h2
        have yl : X.env.scope.names.lookup x = some .local := by rw [ok.sc]; exact w1
        refine (js_setLc (Wx := Wx) m ok.calm nd ok.K hN' yl (sw_true I.ok.kind yl (by simpa using w2) w3) pi0 bo gj hs (by rw [h2']; exact h4)).run pins sh σ H D I ?_
        have e : (fun env => nox (evI (cT T fuel lvl) (gI gs) (J.wipe env ((own.filterMap fun i => (X.N[i]?).map fun n => (n, i)).map (·.2))) >>= gG (cT T fuel lvl) (fun env' => evE (cT T fuel lvl) el env') gs (J.wipe env ((own.filterMap fun i => (X.N[i]?).map fun n => (n, i)).map (·.2)))) >>= fun xs => mkL m xs) = evE (cT T fuel lvl) (.comp m own el gs) := by
          funext env
          rw [h2']
          show _ = nox (evG _ _ gs (J.wipe env own)) >>= _
          rw [evG_is]
        rw [e]; exact set_read q
      | bi b _ _ => cases b <;> simp [chE] at h
      | _ => simp [chE] at h
mutual
theorem jS : ∀ {st : S} {ex : Stmt} {s : SC} {X : Cx} {Wx : WX}, chS s st ex = true → XOk cn s T fuel lvl X → Takes X Wx → PS X ex (tSJ cn Wx (evS (cT T fuel lvl) st))
  | .expr a, ex, s, X, Wx, h, ok, tk => by
    simp only [chS] at h
    split at h
    · simp only [Bool.and_eq_true, Bool.not_eq_true'] at h
      exact js_expr (jE h.2 ok tk) h.1
    · cases h
  | .set i a, ex, s, X, Wx, h, ok, tk => by
    simp only [chS] at h
    split at h
    · simp only [Bool.and_eq_true, decide_eq_true_eq] at h
      exact jSet h.1.1 h.1.2 h.2 ok tk
    · cases h
  | .asg t a, ex, s, X, Wx, h, ok, tk => by
    simp only [chS] at h
    split at h
    · simp only [Bool.and_eq_true, Bool.not_eq_true'] at h
      obtain ⟨⟨⟨⟨h1, h2⟩, h3⟩, h4⟩, h5⟩ := h
      exact js_tup ok h2 h1 (jE h3 ok tk) h4 h5
    · cases h
  | .seti o i a, ex, s, X, Wx, h, ok, tk => by
    simp only [chS] at h
    split at h
    · simp only [Bool.and_eq_true, Bool.not_eq_true'] at h
      obtain ⟨⟨⟨⟨⟨h1, h2⟩, h3⟩, h4⟩, h5⟩, h6⟩ := h
      exact js_seti ok.K (jE h1 ok tk) (jE h2 ok tk) (jE h3 ok tk) h4 h5
    · cases h
  | .aug i op a, ex, s, X, Wx, h, ok, tk => by
    simp only [chS] at h
    split at h
    · simp only [Bool.and_eq_true, decide_eq_true_eq] at h
      obtain ⟨⟨⟨h1, h2⟩, rfl⟩, h4⟩ := h
      exact js_aug ok h1 h2 (jE h4 ok tk)
    · cases h
  | .augi o i op a, ex, s, X, Wx, h, ok, tk => by
    simp only [chS] at h
    split at h
    · simp only [Bool.and_eq_true, Bool.not_eq_true', decide_eq_true_eq] at h
      obtain ⟨⟨⟨⟨h1, h2⟩, h3⟩, h4⟩, rfl⟩ := h
      exact js_augi ok.K (jE h1 ok tk) (jE h2 ok tk) (jE h3 ok tk) h4
    · cases h
  | .ite c a b, ex, s, X, Wx, h, ok, tk => by
    simp only [chS] at h
    split at h
    · simp only [Bool.and_eq_true] at h
      exact js_ite (jC h.1.1 ok tk) (jSs h.1.2 ok tk) (jSs h.2 ok tk)
    · cases h
  | .wh c b, ex, s, X, Wx, h, ok, tk => by
    simp only [chS] at h
    split at h
    · simp only [Bool.and_eq_true] at h
      exact js_while ok fuel (jC h.1 ok tk) (jSs h.2 ok tk)
    · cases h
  | .for t i b, ex, s, X, Wx, h, ok, tk => by
    simp only [chS] at h
    split at h
    · simp only [Bool.and_eq_true, Bool.not_eq_true'] at h
      exact js_for ok (jI h.1.1.2 ok tk) h.1.1.1 (jSs h.1.2 ok tk) (notSet h.2)
    · cases h
  | .ret a, ex, s, X, Wx, h, ok, tk => by
    simp only [chS] at h
    split at h
    · exact js_ret (jE h ok tk)
    · cases h
  | .retN, ex, s, X, Wx, h, ok, tk => by
    simp only [chS] at h
    split at h
    · exact js_retN
    · cases h
  | .brk, ex, s, X, Wx, h, ok, tk => by
    simp only [chS] at h
    split at h
    · exact js_brk
    · cases h
  | .cont, ex, s, X, Wx, h, ok, tk => by
    simp only [chS] at h
    split at h
    · exact js_cont
    · cases h
  | .pass, ex, s, X, Wx, h, ok, tk => by
    simp only [chS] at h
    split at h
    · exact js_pass
    · cases h
  | .never, ex, s, X, Wx, h, ok, tk => js_never
  | .raise _ _, ex, s, X, Wx, h, ok, tk => by simp [chS] at h
  | .frz _, ex, s, X, Wx, h, ok, tk => by simp [chS] at h
theorem jSs : ∀ {ss : Ss} {l : List Stmt} {s : SC} {X : Cx} {Wx : WX}, chSs s ss l = true → XOk cn s T fuel lvl X → Takes X Wx → PSs X l (tSJ cn Wx (evSs (cT T fuel lvl) ss))
  | .nil, l, s, X, Wx, h, ok, tk => by
    cases l with
    | nil => exact jss_nil
    | cons _ _ => simp [chSs] at h
  | .cons a ss, l, s, X, Wx, h, ok, tk => by
    have gen : ∀ {l : List Stmt}, (∃ x r, l = x :: r ∧ chS s a x = true ∧ chSs s ss r = true) → PSs X l (tSJ cn Wx (evSs (cT T fuel lvl) (.cons a ss))) := fun {l} ⟨x, r, e, h1, h2⟩ => by
      subst e
      exact jss_cons (jS h1 ok tk) (jSs h2 ok tk)
    cases a with
    | frz i => simp only [chSs] at h; exact jss_frz (jSs h ok tk)
    | _ =>
      cases l with
      | nil => simp [chSs] at h
      | cons x r =>
        simp only [chSs, Bool.and_eq_true] at h
        exact gen ⟨x, r, rfl, h.1, h.2⟩
end
end
/-! ### a statement's way out is no exception of the small language -/
def NoX {α : Type} (m : M α) : Prop := ∀ h c v h', m h ≠ .exc c v h'
section
variable {α β : Type}
theorem NoX.pure (a : α) : NoX (Pure.pure a : M α) := fun h c v h' e => by
  have : (Out.ok a h : Out α) = .exc c v h' := e
  cases this
theorem NoX.bad : NoX (J.bad : M α) := fun h c v h' e => by
  have : (Out.bad : Out α) = .exc c v h' := e
  cases this
theorem NoX.opt (x : Option α) : NoX (J.opt x) := by cases x with | none => exact .bad | some a => exact .pure a
theorem NoX.bind {m : M α} {k : α → M β} (a : NoX m) (b : ∀ x, NoX (k x)) : NoX (m >>= k) := fun h c v h' e => by
  cases q : m h with
  | ok x h1 => rw [bind_ok q] at e; exact b x _ _ _ _ e
  | exc c1 v1 h1 => exact a _ _ _ _ q
  | bad => rw [bind_bad q] at e; cases e
theorem NoX.tryE {m : M α} {env : En} {k : α → M (Fl × En)} (b : ∀ x, NoX (k x)) : NoX (J.tryE m env k) := fun h c v h' e => by
  unfold J.tryE at e
  cases q : m h with
  | ok x h1 => rw [q] at e; exact b x _ _ _ _ e
  | exc c1 v1 h1 => rw [q] at e; cases e
  | bad => rw [q] at e; cases e
theorem NoX.ite {b : Bool} {m n : M α} (x : NoX m) (y : NoX n) : NoX (if b then m else n) := by cases b <;> assumption
theorem NoX.for {src : Src} {body : PV → En → M (Fl × En)} (b : ∀ x env, NoX (body x env)) : ∀ (n i : Nat) (env : En), NoX (forGo src body n i env)
  | 0, _, _ => .bad
  | n + 1, i, env => fun h c v h' e => by
    simp only [forGo] at e
    split at e
    · cases e
    · cases e
    · split at e <;> first | exact NoX.for b n _ _ _ _ _ _ e | exact absurd (by assumption) (b _ _ _ _ _ _) | cases e
theorem NoX.wh {test : En → M Bool} {body : En → M (Fl × En)} (b : ∀ env, NoX (body env)) : ∀ (n : Nat) (env : En), NoX (whGo test body n env)
  | 0, _ => .bad
  | n + 1, env => .tryE fun x => by
    cases x with
    | false => exact .pure _
    | true =>
      refine NoX.bind (b env) fun r => ?_
      obtain ⟨fl, env'⟩ := r
      cases fl <;> first | exact NoX.wh b n _ | exact .pure _
mutual
theorem nS (c : Ctx) : ∀ (st : S) (env : En), NoX (evS c st env)
  | .expr a, env => .tryE fun x => .pure _
  | .set i a, env => .tryE fun x => by
    show NoX (if i < env.length then _ else _)
    split
    · exact .pure _
    · exact .bad
  | .asg t a, env => .tryE fun x => .bind (.opt _) fun y => .pure _
  | .seti o i a, env => .tryE fun x => .pure _
  | .aug i op a, env => .tryE fun x => .pure _
  | .augi o i op a, env => .tryE fun x => .pure _
  | .ite t a b, env => .tryE fun x => by cases x with | true => exact nSs c a env | false => exact nSs c b env
  | .wh t b, env => NoX.wh (fun env => nSs c b env) _ _
  | .for t i b, env => .tryE fun x => fun h => NoX.for (fun x env => NoX.bind (.opt _) fun env' => nSs c b env') _ _ _ h
  | .ret a, env => .tryE fun x => .pure _
  | .retN, env => .pure _
  | .brk, env => .pure _
  | .cont, env => .pure _
  | .pass, env => .pure _
  | .raise k es, env => .tryE fun x => by
    show NoX (match x with | [v] => _ | _ => _)
    split
    · exact .pure _
    · exact .bad
  | .never, env => .bad
  | .frz i, env => fun h k v h' e => by
    simp only [evS] at e
    split at e
    · split at e <;> cases e
    · cases e
theorem nSs (c : Ctx) : ∀ (ss : Ss) (env : En), NoX (evSs c ss env)
  | .nil, env => .pure _
  | .cons s ss, env => .bind (nS c s env) fun r => by
    obtain ⟨fl, env'⟩ := r
    cases fl with
    | next => exact nSs c ss env'
    | _ => exact .pure _
end
end
section
variable {cn : Cn} {T : Nat → Option Fd} {fuel lvl : Nat}
/-! ### what a call lays and nobody keeps -/
def Wd.cut (w : Wd) (n : Nat) : Wd := { w with f := w.f.take n }
mutual
theorem rl_clo {K : PySem.W.Frag} {w : Wd} {H : Hp} : ∀ {x : PV} {v : V}, Rl K w H x v → clo w.f.length x = true
  | .non, _, _ => rfl
  | .bl _, _, _ => rfl
  | .int _, _, _ => rfl
  | .str _, _, _ => rfl
  | .tup xs, _, ⟨a, vs, _, _, r⟩ => by simp only [clo]; exact rls_clo r
  | .lst xs, _, ⟨a, vs, _, _, _, r⟩ => by simp only [clo]; exact rls_clo r
  | .scr xs, _, ⟨a, vs, _, _, r⟩ => by simp only [clo]; exact rls_clo r
  | .loc n, _, ⟨a, _, r⟩ => by simp only [clo]; exact decide_eq_true (List.getElem?_eq_some_iff.mp r).1
  | .dct ks xs, _, ⟨a, vs, _, _, _, _, r⟩ => by simp only [clo]; exact rls_clo r
theorem rls_clo {K : PySem.W.Frag} {w : Wd} {H : Hp} : ∀ {xs : List PV} {vs : List V}, Rls K w H xs vs → clos w.f.length xs = true
  | [], _, _ => rfl
  | x :: xs, _, ⟨v, r, _, h1, h2⟩ => by simp only [clos, Bool.and_eq_true]; exact ⟨rl_clo h1, rls_clo h2⟩
end
mutual
theorem rl_cut {K : PySem.W.Frag} {w : Wd} {H : Hp} {n : Nat} : ∀ {x : PV} {v : V}, Rl K w H x v → clo n x = true → Rl K (w.cut n) H x v
  | .non, _, r, _ => r
  | .bl _, _, r, _ => r
  | .int _, _, r, _ => r
  | .str _, _, r, _ => r
  | .tup xs, _, ⟨a, vs, e, h1, r⟩, c => ⟨a, vs, e, h1, rls_cut r (by simpa only [clo] using c)⟩
  | .lst xs, _, ⟨a, vs, e, h1, h2, r⟩, c => ⟨a, vs, e, h1, h2, rls_cut r (by simpa only [clo] using c)⟩
  | .scr xs, _, ⟨a, vs, e, h1, r⟩, c => ⟨a, vs, e, h1, rls_cut r (by simpa only [clo] using c)⟩
  | .loc m, _, ⟨a, e, r⟩, c => ⟨a, e, by
    simp only [clo] at c
    show (w.f.take n)[m]? = _
    rw [List.getElem?_take_of_lt (of_decide_eq_true c)]; exact r⟩
  | .dct ks xs, _, ⟨a, vs, e, h1, h2, h3, r⟩, c => ⟨a, vs, e, h1, h2, h3, rls_cut r (by simpa only [clo] using c)⟩
theorem rls_cut {K : PySem.W.Frag} {w : Wd} {H : Hp} {n : Nat} : ∀ {xs : List PV} {vs : List V}, Rls K w H xs vs → clos n xs = true → Rls K (w.cut n) H xs vs
  | [], _, r, _ => r
  | x :: xs, _, ⟨v, r, e, h1, h2⟩, c => by
    simp only [clos, Bool.and_eq_true] at c
    exact ⟨v, r, e, rl_cut h1 c.1, rls_cut h2 c.2⟩
end
theorem old_get {n : Nat} : ∀ {h h' : Hh} {i : Nat} {c : Cell}, oldOk n h h' = true → h[i]? = some c → ∃ c', h'[i]? = some c' ∧ (beqC c c' || cloC n c') = true
  | [], _, _, _, _, e => by simp at e
  | c :: h, [], i, d, o, e => by simp [oldOk] at o
  | c :: h, c' :: h', 0, d, o, e => by
    simp only [oldOk, Bool.and_eq_true] at o
    simp at e; subst e
    exact ⟨c', rfl, o.1⟩
  | c :: h, c' :: h', i + 1, d, o, e => by
    simp only [oldOk, Bool.and_eq_true] at o
    obtain ⟨x, e1, e2⟩ := old_get o.2 (by simpa using e : h[i]? = some d)
    exact ⟨x, by simpa using e1, e2⟩
theorem beqC_eq {c c' : Cell} (h : beqC c c' = true) : c = c' := by
  cases c <;> cases c' <;> simp [beqC] at h
  · rfl
  · rw [beqPs_eq h]
  · rw [h.1, beqPs_eq h.2]
theorem cell_clo {K : PySem.W.Frag} {w : Wd} {H : Hp} {n : Nat} {c : Cell} (h : CellOk K w H n c) : cloC w.f.length c = true := by
  cases c with
  | dead => rfl
  | lst xs => obtain ⟨_, _, _, _, _, _, r⟩ := h; exact rls_clo r
  | dct ks xs => obtain ⟨_, _, _, _, _, _, _, r⟩ := h; exact rls_clo r
theorem cut_ok {K : PySem.W.Frag} {w w' : Wd} {H H' : Hp} {h h' : Hh} (S : Sim K w h H) (E : Ext w H w' H') (S' : Sim K w' h' H') (o : oldOk h.length h h' = true) : Ext w H (w'.cut h.length) H' ∧ Sim K (w'.cut h.length) (h'.take h.length) H' := by
  obtain ⟨t, et⟩ := E.f
  have ef : (w'.cut h.length).f = w.f := by show w'.f.take h.length = _; rw [et, S.len]; simp
  have le : h.length ≤ h'.length := by
    rw [S'.len, S.len, et]; simp
  have look : ∀ {n : Nat} {c : Cell}, (h'.take h.length)[n]? = some c → n < h.length ∧ h'[n]? = some c := fun {n c} e => by
    have hn : n < h.length := by
      have := (List.getElem?_eq_some_iff.mp e).1
      simp at this; omega
    rw [List.getElem?_take_of_lt hn] at e
    exact ⟨hn, e⟩
  have fl : ∀ {n : Nat}, n < h.length → (w'.cut h.length).f[n]? = w'.f[n]? := fun {n} hn => List.getElem?_take_of_lt hn
  refine ⟨⟨⟨[], by simpa using ef⟩, E.F, E.G, E.Ge, E.tup, E.frz⟩, ⟨by rw [ef, ← S.len]; simp [le], fun n c e => ?_, fun n m a hnm l1 l2 e1 e2 => ?_, S'.F0, S'.G0, S'.FG⟩⟩
  · obtain ⟨hn, e'⟩ := look e
    have cc : cloC h.length c = true := by
      obtain ⟨c0, e0⟩ : ∃ c0, h[n]? = some c0 := ⟨h[n], by simp [hn]⟩
      obtain ⟨c1, k1, k2⟩ := old_get o e0
      rw [e'] at k1; cases k1
      rw [Bool.or_eq_true] at k2
      rcases k2 with k2 | k2
      · rw [← beqC_eq k2, S.len]; exact cell_clo (S.cells n c0 e0)
      · exact k2
    have q := S'.cells n c e'
    cases c with
    | dead => trivial
    | lst xs => obtain ⟨a, vs, h1, h2, h3, h4, h5⟩ := q; exact ⟨a, vs, by rw [fl hn]; exact h1, h2, h3, h4, rls_cut h5 cc⟩
    | dct ks xs => obtain ⟨a, vs, h1, h2, h3, h4, h5, h6⟩ := q; exact ⟨a, vs, by rw [fl hn]; exact h1, h2, h3, h4, h5, rls_cut h6 cc⟩
  · obtain ⟨c1, k1, d1⟩ := l1
    obtain ⟨c2, k2, d2⟩ := l2
    obtain ⟨n1, k1⟩ := look k1
    obtain ⟨n2, k2⟩ := look k2
    rw [fl n1] at e1
    rw [fl n2] at e2
    exact S'.inj n m a hnm ⟨c1, k1, d1⟩ ⟨c2, k2, d2⟩ e1 e2
/-- a body, out of its def's promise -/
theorem body_of {d : Fd} {c : Ctx} {xs : List PV} {w : Wd} {H : Hp} {h : Hh} {Q : VK} {E : XK} (S : Sim cn.K w h H) (p : Post cn w H (evDef c d xs h) (VQ cn Q) E) (hl : xs.length = d.ps) :
    Post cn w H (evSs c d.body (xs.map some ++ List.replicate (d.slots - xs.length) none) h) (SQ cn (fun cls d _ H => E cls d H) { nx := fun _ H' => Q .non H', rt := Q }) noE := by
  unfold evDef at p
  rw [if_pos hl] at p
  unfold tidy at p
  have fin : ∀ {v : PV} {h' : Hh}, Post cn w H (if clo h.length v && oldOk h.length h h' then .ok v (h'.take h.length) else .ok v h' : Out PV) (VQ cn Q) E → ∀ w' H', Ext w H w' H' → Sim cn.K w' h' H' → ∀ u, Rl cn.K w' H' v u → Q u H' := fun {v h'} p w' H' E' S' u r => by
    split at p
    · rename_i c
      rw [Bool.and_eq_true] at c
      obtain ⟨E2, S2⟩ := cut_ok S E' S' c.2
      exact p _ _ E2 S2 u (rl_cut r c.1)
    · exact p _ _ E' S' u r
  cases e : evSs c d.body (xs.map some ++ List.replicate (d.slots - xs.length) none) h with
  | bad => rw [bind_bad e] at p; exact p.elim
  | exc k v h' => exact absurd e (nSs _ _ _ _ _ _ _)
  | ok r h' =>
    rw [bind_ok e] at p
    obtain ⟨fl, env'⟩ := r
    cases fl with
    | next => exact fun w' H' E' S' σ' R' => fin p w' H' E' S' .non rfl
    | ret v => exact fun w' H' E' S' σ' R' u ru => fin p w' H' E' S' u ru
    | exc k v => exact fun w' H' E' S' σ' R' cls dd x => p w' H' cls dd E' S' x
    | brk => exact p.elim
    | cont => exact p.elim
end
end J

set_option autoImplicit false
set_option linter.all false
set_option maxRecDepth 100000
/-! JU0: what is asked of the head. -/
namespace J
open PySem PySem.Spec PyProof.Rows L2
def stAt (p : Program) (j : Nat) : Stmt := p.main.body.getD j (.Pass ⟨0, 0, 0, 0⟩)
def ddOf (p : Program) (d : Fd) (j : Nat) : He.DefD := ⟨(d.name, none), d.name, d.name, defArgs (stAt p j), defBody (stAt p j), defScope (stAt p j), [], []⟩
/-- the defs of a text: number, tree, slots, place in the top -/
abbrev Ds := List (Nat × Fd × List Str × Nat)
def tOf (ds : Ds) : Nat → Option Fd := fun i => (ds.lookup i).map (·.1)
def fsOf (ds : Ds) : List (Nat × Str) := ds.map fun q => (q.1, q.2.1.name)
def ddsOf (p : Program) (ds : Ds) : List He.DefD := ds.map fun q => ddOf p q.2.1 q.2.2.2
def bis : List Str := ["len", "all", "any", "int", "abs", "str", "max", "list", "tuple", "set", "isinstance", "bool", "range", "enumerate", "zip"]
def faOf (ds : Ds) : List He.Fa := ds.map (fun q => He.Fa.glo q.2.1.name) ++ bis.map He.Fa.free
mutual
/-- a constant of the text -/
def pvB (K : PySem.W.Frag) : PV → Value → Bool
  | .non, v => match v with | .none => true | _ => false
  | .bl b, v => match v with | .bool c => b == c | _ => false
  | .int i, v => match v with | .int j _ => decide (i = j) | _ => false
  | .str x, v => match v with | .str y _ => decide (x = y) | _ => false
  | .tup xs, v => match v with
    | .ref a => match K.lookup a with
      | some ⟨.type c, _, .seq its _, _⟩ => decide (c = "tuple") && (decide (its.size ≤ sizeLine) && pvsB K xs its.toList)
      | _ => false
    | _ => false
  | _, _ => false
termination_by structural x => x
def pvsB (K : PySem.W.Frag) : List PV → List Value → Bool
  | [], l => match l with | [] => true | _ => false
  | x :: xs, l => match l with | v :: r => pvB K x v && pvsB K xs r | [] => false
termination_by structural x => x
end
def exOf (gl : List (Str × PV)) (K : PySem.W.Frag) : Bool := gl.all fun q => match PySem.W.nsIn K mainGlobals q.1 with
  | some (some u) => pvB K q.2 u
  | _ => false
abbrev hkOf (p : Program) (ds : Ds) (gl : List (Str × PV)) : PySem.W.Hook := He.hookX 4 (faOf ds) (ddsOf p ds) [] [] (exOf gl)
def obOf (p : Program) (ds : Ds) (gl : List (Str × PV)) (s : PySem.W.SharedT) : He.AlX := He.obsX 4 (faOf ds) (ddsOf p ds) [] [] (exOf gl) (HandSHeadRun.getT s)
theorem ob_eq (p : Program) (ds : Ds) (gl : List (Str × PV)) (s : PySem.W.SharedT) : obOf p ds gl s = (hkOf p ds gl).obs s.abs := He.obsX_eq (HandSHeadRun.getT_eq s)
end J

set_option autoImplicit false
set_option linter.all false
set_option maxRecDepth 100000
set_option maxHeartbeats 2000000
/-! JU1: how arguments bind. -/
namespace J
open PySem PySem.Spec PyProof.Rows L2
theorem lookup_zip : ∀ {ps : List Str} {us : List Value}, ps.Nodup → us.length = ps.length → (ps.filterMap fun n => ((ps.zip us).lookup n).map (n, ·)) = ps.zip us ∧ ∀ n ∈ ps, ((ps.zip us).lookup n).isNone = false := by
  intro ps
  induction ps with
  | nil => intro us _ _; exact ⟨rfl, fun n h => by simp at h⟩
  | cons p ps ih =>
    intro us nd hl
    cases us with
    | nil => simp at hl
    | cons u us =>
      obtain ⟨h1, h2⟩ := ih (us := us) (List.nodup_cons.mp nd).2 (by simpa using hl)
      have np : p ∉ ps := (List.nodup_cons.mp nd).1
      have step : ∀ n ∈ ps, ((p, u) :: ps.zip us).lookup n = (ps.zip us).lookup n := fun n hn => by
        rw [List.lookup_cons]
        have : (n == p) = false := by
          cases q : n == p with
          | false => rfl
          | true => exact absurd (beq_iff_eq.mp q ▸ hn) np
        rw [this]
      refine ⟨?_, fun n hn => ?_⟩
      · have g : ∀ l : List Str, (∀ n ∈ l, n ∈ ps) → (l.filterMap fun n => (((p, u) :: ps.zip us).lookup n).map (n, ·)) = l.filterMap fun n => ((ps.zip us).lookup n).map (n, ·) := fun l hl => by
          induction l with
          | nil => rfl
          | cons a l ih => simp only [List.filterMap_cons, step a (hl a (by simp)), ih fun n hn => hl n (by simp [hn])]
        have hd : ((p, u) :: ps.zip us).lookup p = some u := by simp
        show (List.filterMap (fun n => (((p, u) :: ps.zip us).lookup n).map (n, ·)) (p :: ps)) = (p, u) :: ps.zip us
        rw [List.filterMap_cons, hd, g ps fun n hn => hn, h1]
        rfl
      · rcases List.mem_cons.mp hn with rfl | hn
        · simp
        · rw [List.zip_cons_cons, step n hn]; exact h2 n hn
theorem bind_plain {fd : FuncData} {as : List Arg} (hp : fd.params = ⟨[], as, none, [], [], none, []⟩) (hd : fd.defaults = .none) (nd : (as.map (·.arg)).Nodup) {us : List Value} (hl : us.length = as.length) : bindArgs fd ⟨us, []⟩ = pure ((as.map (·.arg)).zip us) := by
  obtain ⟨h1, h2⟩ := lookup_zip (ps := as.map (·.arg)) (us := us) nd (by simpa using hl)
  have e : seqItems? fd.defaults = pure none := by rw [hd]; rfl
  have m : ((as.map (·.arg)).filter fun n => (((as.map (·.arg)).zip us).lookup n).isNone) = [] := by
    rw [List.filter_eq_nil_iff]
    intro n hn
    rw [h2 n hn]; decide
  have m2 : ((as.map (·.arg)).take as.length) = as.map (·.arg) := by rw [← List.length_map (f := (·.arg)), List.take_length]
  unfold bindArgs
  simp only [hp, e, List.map_nil, List.nil_append, List.append_nil, List.length_map, hl, List.forIn_nil, pure_bind, Option.getD_none, Nat.lt_irrefl]
  simp only [decide_false, Bool.false_and, Bool.false_eq_true, if_false, List.drop_nil, List.length_nil, Nat.sub_zero, m2, m, List.isEmpty_nil, Bool.not_true, List.zip_nil_right, List.forIn_nil, pure_bind, h1]
end J

set_option autoImplicit false
set_option linter.all false
set_option maxRecDepth 100000
set_option maxHeartbeats 2000000
/-! JU: a whole text. -/
namespace J
open PySem PySem.Spec PyProof.Rows L2
mutual
theorem pvB_ok {K : PySem.W.Frag} : ∀ {v : PV} {u : Value}, pvB K v u = true → ∃ z : V, RelV z u ∧ ∀ w H, Rl K w H v z
  | .non, u, h => by
    cases u <;> first | (simp [pvB] at h; done) | exact ⟨.non, rfl, fun _ _ => rfl⟩
  | .bl b, u, h => by
    cases u <;> first | (simp [pvB] at h; done) | skip
    simp only [pvB] at h
    have := eq_of_beq h; subst this
    exact ⟨.bl _, rfl, fun _ _ => rfl⟩
  | .int i, u, h => by
    cases u <;> first | (simp [pvB] at h; done) | skip
    simp only [pvB] at h
    have := of_decide_eq_true h; subst this
    exact ⟨.int _, ⟨_, rfl⟩, fun _ _ => rfl⟩
  | .str i, u, h => by
    cases u <;> first | (simp [pvB] at h; done) | skip
    simp only [pvB] at h
    have := of_decide_eq_true h; subst this
    exact ⟨.str _, ⟨_, rfl⟩, fun _ _ => rfl⟩
  | .tup xs, u, h => by
    cases u <;> first | (simp [pvB] at h; done) | skip
    rename_i a
    simp only [pvB] at h
    split at h
    · rename_i c _ its n sl e
      simp only [Bool.and_eq_true, decide_eq_true_eq] at h
      obtain ⟨rfl, h2, h3⟩ := h
      obtain ⟨zs, r, hz⟩ := pvsB_ok h3
      exact ⟨.ref a, rfl, fun w H => ⟨a, zs, rfl, .inr ⟨_, its, n, e, rfl, rfl, h2, r⟩, hz w H⟩⟩
    · cases h
  | .lst _, u, h => by simp [pvB] at h
  | .scr _, u, h => by simp [pvB] at h
  | .loc _, u, h => by simp [pvB] at h
  | .dct _ _, u, h => by simp [pvB] at h
theorem pvsB_ok {K : PySem.W.Frag} : ∀ {v : List PV} {u : List Value}, pvsB K v u = true → ∃ z : List V, Vals z u ∧ ∀ w H, Rls K w H v z
  | [], u, h => by
    cases u with
    | nil => exact ⟨[], .nil, fun _ _ => rfl⟩
    | cons _ _ => simp [pvsB] at h
  | x :: xs, u, h => by
    cases u with
    | nil => simp [pvsB] at h
    | cons y r =>
      simp only [pvsB, Bool.and_eq_true] at h
      obtain ⟨z, h1, h2⟩ := pvB_ok h.1
      obtain ⟨zs, h3, h4⟩ := pvsB_ok h.2
      exact ⟨z :: zs, .cons h1 h3, fun w H => ⟨z, zs, rfl, h2 w H, h4 w H⟩⟩
end
/-- the trees are the text's -/
def chkAll (p : Program) (ds : Ds) (gl : List (Str × PV)) (kw : List (Nat × Nat × List Str × List Nat)) : Bool :=
  decide ((ds.map (·.1)).Nodup) && ds.all fun q => chD (fsOf ds) gl kw q.2.2.1 q.2.1 (stAt p q.2.2.2)
/-- how keywords bind -/
def KwOk (p : Program) (ds : Ds) (kw : List (Nat × Nat × List Str × List Nat)) : Prop := ∀ q ∈ kw, ∀ (d : Fd) (N : List Str) (j : Nat), ds.lookup q.1 = some (d, N, j) →
  ∀ (kV doc pm : Value) (an : Option Addr) (cdv ct : Value) (us : List Value), us.length = q.2.2.1.length → bindArgs (PySem.W.fnOf d.name d.name (defArgs (stAt p j)) (defBody (stAt p j)) (defScope (stAt p j)) .none kV doc pm an cdv ct) ⟨[], q.2.2.1.zip us⟩ = pure ((N.take d.ps).zip (pick q.2.2.2 us))
theorem look_mem {α : Type} : ∀ {l : List (Nat × α)} {i : Nat} {v : α}, l.lookup i = some v → (i, v) ∈ l
  | [], _, _, h => by simp at h
  | (k, x) :: r, i, v, h => by
    rw [List.lookup_cons] at h
    cases q : i == k with
    | true =>
      rw [q] at h
      have := beq_iff_eq.mp q
      subst this
      cases h; simp
    | false =>
      rw [q] at h
      exact List.mem_cons_of_mem _ (look_mem h)
theorem mem_look {α : Type} : ∀ {l : List (Nat × α)} {i : Nat} {v : α}, (l.map (·.1)).Nodup → (i, v) ∈ l → l.lookup i = some v
  | [], _, _, _, h => by simp at h
  | (k, x) :: r, i, v, nd, h => by
    simp only [List.map_cons, List.nodup_cons] at nd
    rw [List.lookup_cons]
    rcases List.mem_cons.mp h with e | hr
    · cases e; simp
    · have : (i == k) = false := by
        cases q : i == k with
        | false => rfl
        | true =>
          have e := beq_iff_eq.mp q
          subst e
          exact absurd (show i ∈ r.map (·.1) from List.mem_map.mpr ⟨(i, v), hr, rfl⟩) nd.1
      rw [this]
      exact mem_look nd.2 hr
theorem chkAll_at {p : Program} {ds : Ds} {gl : List (Str × PV)} {kw : List (Nat × Nat × List Str × List Nat)} (h : chkAll p ds gl kw = true) :
    (∀ q ∈ fsOf ds, ∃ d, tOf ds q.1 = some d ∧ d.name = q.2) ∧ ∀ (i : Nat) (d : Fd), tOf ds i = some d → ∃ N j, ds.lookup i = some (d, N, j) ∧ chD (fsOf ds) gl kw N d (stAt p j) = true := by
  simp only [chkAll, Bool.and_eq_true, decide_eq_true_eq, List.all_eq_true] at h
  refine ⟨fun q hq => ?_, fun i d e => ?_⟩
  · obtain ⟨z, hz, rfl⟩ := List.mem_map.mp hq
    refine ⟨z.2.1, ?_, rfl⟩
    unfold tOf
    rw [mem_look (v := z.2) h.1 hz]; rfl
  · unfold tOf at e
    rw [Option.map_eq_some_iff] at e
    obtain ⟨⟨d', N, j⟩, e1, rfl⟩ := e
    exact ⟨N, j, e1, h.2 _ (look_mem e1)⟩
section
variable {P : Program} {w : World} {K : PySem.W.Frag} {mg : Str → Option Value} {base : Heap}
abbrev FnJ (P : Program) (K : PySem.W.Frag) (d : Fd) (j : Nat) (fd : FuncData) : Prop := FunD K d.name d.name (defArgs (stAt P j)) (defBody (stAt P j)) (defScope (stAt P j)) [] [] (He.ga K d.name) fd
theorem _root_.L2.FunD.dflt {x qual : Str} {params : Arguments} {body : List Stmt} {scope : Scope} {f : Addr} {fd : FuncData} (F : FunD K x qual params body scope [] [] f fd) :
    ∃ (kV doc pm : Value) (an : Option Addr) (cdv ct : Value), fd = PySem.W.fnOf x qual params body scope .none kV doc pm an cdv ct := by
  obtain ⟨oc, od, dV, kV, doc, pm, an, cdv, ct, osl, e, lk, hcd, hD, hK⟩ := F.ex
  rcases hD with ⟨_, rfl⟩ | ⟨z, _⟩
  · exact ⟨kV, doc, pm, an, cdv, ct, e⟩
  · exact absurd rfl z
/-- what the head tells -/
structure Said (P : Program) (K : PySem.W.Frag) (mg : Str → Option Value) (ds : Ds) (gl : List (Str × PV)) (kw : List (Nat × Nat × List Str × List Nat)) : Prop where
  chk : chkAll P ds gl kw = true
  kwd : KwOk P ds kw
  fn : ∀ (i : Nat) (d : Fd) (N : List Str) (j : Nat), ds.lookup i = some (d, N, j) → (∃ fd, FnJ P K d j fd) ∧ mg d.name = some (.ref (He.ga K d.name))
  gl : ∀ n v, glook n gl = some v → ∃ (u : Value) (z : V), mg n = some u ∧ RelV z u ∧ ∀ w H, Rl K w H v z
  bi : ∀ x ∈ bis, mg x = none
variable {ds : Ds} {gl : List (Str × PV)} {kw : List (Nat × Nat × List Str × List Nat)} {fuel : Nat}
theorem noD {a : Arguments} (h : noDefaults a = true) : a.posonlyargs = [] ∧ a.vararg = none ∧ a.kwonlyargs = [] ∧ a.kw_defaults = [] ∧ a.kwarg = none ∧ a.defaults = [] := by
  obtain ⟨a1, a2, a3, a4, a5, a6, a7⟩ := a
  simp only [noDefaults, Bool.and_eq_true, List.isEmpty_iff, Option.isNone_iff_eq_none] at h
  obtain ⟨⟨⟨⟨⟨h1, h2⟩, h3⟩, h4⟩, h5⟩, h6⟩ := h
  exact ⟨h1, h2, h3, h4, h5, h6⟩
theorem chD_parts {fs : List (Nat × Str)} {N : List Str} {d : Fd} {st : Stmt} (h : chD fs gl kw N d st = true) : C8.scC N (N.take d.ps) (defScope st) = true ∧ (defArgs st).args.map (·.arg) = N.take d.ps ∧ N.length = d.slots ∧ d.ps ≤ d.slots ∧ noDefaults (defArgs st) = true ∧
    chSs { N := N, sc := defScope st, st := fun x => match (defScope st).names.lookup x with | some .local => true | some .cell => true | _ => false, fs := fs, gl := gl, kw := kw } d.body (defBody st) = true := by
  unfold chD at h
  split at h
  · simp only [Bool.and_eq_true, decide_eq_true_eq] at h
    obtain ⟨⟨⟨⟨⟨⟨h1, h2⟩, h3⟩, h4⟩, h5⟩, h6⟩, h7⟩ := h
    exact ⟨h6, h3, h4, h5, h2, h7⟩
  · cases h
theorem binds_J {fs : List (Nat × Str)} {N : List Str} {d : Fd} {j : Nat} {fd : FuncData} (F : FnJ P K d j fd) (h : chD fs gl kw N d (stAt P j) = true) (us : List Value) (hl : us.length = (N.take d.ps).length) : bindArgs fd ⟨us, []⟩ = pure ((N.take d.ps).zip us) := by
  obtain ⟨c1, c2, c3, c4, c5, c6⟩ := chD_parts h
  obtain ⟨kV, doc, pm, an, cdv, ct, rfl⟩ := F.dflt
  obtain ⟨n1, n2, n3, n4, n5, n6⟩ := noD c5
  have S := C8.fnScope_by c1
  have nd : (N.take d.ps).Nodup := S.nd.sublist (List.take_sublist _ _)
  rw [← c2] at nd hl ⊢
  refine bind_plain (as := (defArgs (stAt P j)).args) ?_ rfl nd (by simpa using hl)
  show defArgs (stAt P j) = _
  cases e : defArgs (stAt P j) with
  | mk a1 a2 a3 a4 a5 a6 a7 =>
    rw [e] at n1 n2 n3 n4 n5 n6
    simp only at n1 n2 n3 n4 n5 n6
    rw [n1, n2, n3, n4, n5, n6]
theorem fn_ok (S : Said P K mg ds gl kw) : ∀ (lvl : Nat) (i : Nat) (d : Fd) (j : Nat) (N : List Str) (fd : FuncData), ds.lookup i = some (d, N, j) → FnJ P K d j fd →
    FnOk P w K mg base (L2.CX P w) lvl (He.ga K d.name) fd (N.take d.ps) (spJ ⟨K, fun _ _ _ _ _ _ => False⟩ d.ps (callAt (tOf ds) fuel lvl i)) := by
  obtain ⟨efs, chk⟩ := chkAll_at S.chk
  intro lvl
  induction lvl with
  | zero => exact fun i d j N fd _ _ => ⟨fun vs H Q E ⟨_, _, _, _, _, _, p⟩ => False.elim p, fun A outer s H args us vs Q E _ _ _ _ ⟨_, _, _, _, _, _, p⟩ => False.elim p⟩
  | succ lvl ih =>
    intro i d j N fd hL F
    have hT : tOf ds i = some d := by unfold tOf; rw [hL]; rfl
    obtain ⟨N', j', e1, c⟩ := chk i d hT
    rw [hL] at e1; cases e1
    obtain ⟨c1, c2, c3, c4, c5, c6⟩ := chD_parts c
    have sc := C8.fnScope_by c1
    refine F.ok sc (fun vs H Q E h => ?_) fun cdv A outer s H vs Q E hr ⟨hl, w0, h, xs, Sm, r, p⟩ => ?_
    · obtain ⟨hl, _⟩ := h
      rw [hl, List.length_take, c3]; omega
    · have hxl : xs.length = d.ps := callAt_len hT p
      have ok : XOk ⟨K, fun _ _ _ _ _ _ => False⟩ { N := N, sc := defScope (stAt P j), st := fun x => match (defScope (stAt P j)).names.lookup x with | some .local => true | some .cell => true | _ => false, fs := fsOf ds, gl := gl, kw := kw } (tOf ds) fuel lvl
          (cxOf (L2.CX P w) P w K mg base N d.name (defScope (stAt P j)) (He.ga K d.name) cdv A outer s H E) := {
        K := rfl
        N := rfl
        sc := rfl
        nd := sc.nd
        calm := rfl
        st := fun x hx => by
          have hx : (match (defScope (stAt P j)).names.lookup x with | some .local => true | some .cell => true | _ => false) = true := hx
          split at hx
          · exact ⟨.inl (by assumption), .inl rfl⟩
          · exact ⟨.inr (by assumption), .inl rfl⟩
          · cases hx
        room := hr
        pass := passes_of rfl
        nm := efs
        fn := fun i2 d2 h2 => by
          obtain ⟨N2, j2, f1, c⟩ := chk i2 d2 h2
          obtain ⟨⟨fd2, F2⟩, hm⟩ := S.fn i2 d2 N2 j2 f1
          obtain ⟨k1, k2, k3, k4, k5, k6⟩ := chD_parts c
          refine ⟨_, fd2, N2.take d2.ps, ih i2 d2 j2 N2 fd2 f1 F2, hm, F2.kp, .all fun us hl => binds_J F2 c us hl, by rw [List.length_take, k3]; omega, fun q hq eq sh us _ hlen => ?_⟩
          obtain ⟨kV, doc, pm, an, cdv2, ct, rfl⟩ := F2.dflt
          exact .of_eq (S.kwd q hq d2 N2 j2 (by rw [eq]; exact f1) kV doc pm an cdv2 ct us hlen)
        gl := S.gl
        bi := fun x hx => S.bi x hx }
      have tk : Takes (cxOf (L2.CX P w) P w K mg base N d.name (defScope (stAt P j)) (He.ga K d.name) cdv A outer s H E) (fun cls d _ H => E cls d H) := takes_of rfl rfl rfl rfl
      refine ⟨_, jSs c6 ok tk, w0, h, xs.map some ++ List.replicate (d.slots - xs.length) none, Sm, ?_, ?_⟩
      · have hlv := r.len
        refine ⟨by simp [L2.start, hlv, c3], fun k x e => ?_⟩
        by_cases hk : k < xs.length
        · rw [List.getElem?_append_left (by simpa using hk), List.getElem?_map] at e
          cases q : xs[k]? with
          | none => rw [q] at e; cases e
          | some y =>
            rw [q] at e
            simp only [Option.map_some, Option.some.injEq] at e
            subst e
            obtain ⟨v, e3, r3⟩ := r.get q
            refine ⟨v, ?_, r3⟩
            unfold L2.start
            rw [List.getElem?_append_left (by simpa [← hlv] using hk), List.getElem?_map, e3]
            rfl
        · rw [List.getElem?_append_right (by simpa using hk), List.getElem?_replicate] at e
          split at e <;> cases e
      · have p : Post ⟨K, fun _ _ _ _ _ _ => False⟩ w0 H (evDef (cT (tOf ds) fuel lvl) d xs h) (VQ ⟨K, fun _ _ _ _ _ _ => False⟩ Q) E := by
          have := p
          simp only [callAt, hT] at this
          exact this
        exact body_of Sm p hxl
/-- nothing is let out: the promise with no way out, in a world of none -/
theorem _root_.L2.FnOk.calm {k : Nat} {f : Addr} {fd : FuncData} {ps : List Str} {sp : Sp} (F : FnOk P w K mg base (L2.CX P w) k f fd ps sp) : FnOk P w K mg base CX0 k f fd ps (fun vs H Q _ => sp vs H Q E0) :=
  ⟨fun vs H Q _ h => F.len vs H Q E0 h, fun A outer s H args us vs Q _ hr he hb hv h => codeAny_mono (F.run A outer s H args us vs Q E0 hr he hb hv h) fun r s' q => by
    cases r with
    | ok fl => cases fl <;> exact q
    | error e =>
      obtain ⟨_, _, _, _, _, _, _, _, _, _, _, _, z⟩ := q
      exact z.elim⟩
end
/-- from the head's word -/
theorem said_of {P : Program} {w : World} {K : PySem.W.Frag} {mg : Str → Option Value} {h : Heap} {ds : Ds} {gl : List (Str × PV)} {kw : List (Nat × Nat × List Str × List Nat)}
    (X : K.In h) (G : h.Ns mainGlobals mg) (c : He.SaysX (faOf ds) (ddsOf P ds) [] [] (exOf gl) w h K) (chk : chkAll P ds gl kw = true) (kwd : KwOk P ds kw) : Said P K mg ds gl kw where
  chk := chk
  kwd := kwd
  fn := fun i d N j hL => by
    have m := look_mem hL
    exact ⟨c.t.d.defs (d := ddOf P d j) (List.mem_map.mpr ⟨_, m, rfl⟩), He.glo_ok X G (c.t.d.facts (List.mem_append_left _ (List.mem_map.mpr ⟨_, m, rfl⟩)))⟩
  gl := fun n v e => by
    have m : (n, v) ∈ gl := by
      clear chk c
      induction gl with
      | nil => cases e
      | cons q r ih =>
        obtain ⟨x, y⟩ := q
        simp only [glook] at e
        split at e
        · rename_i z; cases e; subst z; simp
        · exact List.mem_cons_of_mem _ (ih e)
    have z := List.all_eq_true.mp (show exOf gl K = true from c.more) _ m
    simp only at z
    split at z
    · rename_i u e1
      obtain ⟨y, r, hy⟩ := pvB_ok z
      exact ⟨u, y, PySem.W.mg_of X G e1, r, hy⟩
    · cases z
  bi := fun x hx => He.free_ok X G (c.t.d.facts (List.mem_append_right _ (List.mem_map.mpr ⟨x, hx, rfl⟩)))
/-- a law's walk: T's def iL is the law's -/
theorem walk_J {l : PySem.W.OpenLaw} {n k fuel iL jL : Nat} {q : Program} {loose : List Str} {XP : (Str → Option Value) → Heap → Prop} {ds : Ds} {gl : List (Str × PV)} {kw : List (Nat × Nat × List Str × List Nat)} {d : DefRec} {dL : Fd} {x : Str} {Nr : List Str}
    (hn : l.most = some n) (hn2 : n ≤ sizeLine) (hdf : d.params.defaults = []) (hr : Room k callerA) (chk : chkAll l.prog ds gl kw = true) (kwd : KwOk l.prog ds kw)
    (hL : ds.lookup iL = some (dL, x :: Nr, jL)) (hp : dL.ps = 1) (hname : dL.name = d.name)
    (math : ∀ ns : List Int, ns.length ≤ n → ∃ h', callAt (tOf ds) fuel k iL [.scr (ns.map PV.int)] [] = .ok (.bl true) h') :
    PySem.W.WalkO q loose XP (hkOf l.prog ds gl).says l.row.toRowW d [] (fun f vs => PySem.call f vs) := by
  refine L2.walk_ofE (n := n) (k := k) (x := x) (CX := L2.CX0) hn hn2 hdf hr ?_ (fun _ _ _ _ z => z)
  rintro w mg fa h ⟨K, KX, c⟩ G hmg
  have S := said_of KX G c chk kwd
  obtain ⟨⟨fd, F⟩, hm⟩ := S.fn iL dL _ jL hL
  rw [hname, hmg] at hm
  obtain ⟨_, chk'⟩ := chkAll_at chk
  obtain ⟨N', j', e1, cD⟩ := chk' iL dL (by unfold tOf; rw [hL]; rfl)
  rw [hL] at e1; cases e1
  have tk : (x :: Nr).take dL.ps = [x] := by rw [hp]; rfl
  refine ⟨K, fd, fun vs H Q _ => spJ ⟨K, fun _ _ _ _ _ _ => False⟩ dL.ps (callAt (tOf ds) fuel k iL) vs H Q E0, KX, fun s u => .of_eq ?_, fun H a ns hl hO hS => ?_, fun base KB GB => ?_⟩
  · have := binds_J F cD [u] (by rw [tk]; rfl)
    rwa [tk] at this
  · obtain ⟨h', e⟩ := math ns hl
    refine ⟨by rw [hp]; rfl, ⟨[], fun _ => False, fun _ => False⟩, [], [.scr (ns.map PV.int)], ⟨rfl, fun n c e => by simp at e, fun n m a _ ⟨c, e, _⟩ => by simp at e, fun a z => z.elim, fun a z => z.elim, fun a z => z.elim⟩, ?_, ?_⟩
    · refine ⟨.ref a, [], rfl, ⟨a, ns.map V.int, rfl, ?_, ?_⟩, rfl⟩
      · rcases hS with (hS | ⟨o, hS⟩) | hS
        · rcases hO a with z | ⟨o, ys, z⟩ <;> rw [z] at hS <;> cases hS
        · exact .inl ⟨o, hS⟩
        · exact .inr (.inr hS)
      · clear e hl hS
        induction ns with
        | nil => rfl
        | cons i ns ih => exact ⟨_, _, rfl, rfl, ih⟩
    · show Post _ _ _ (callAt (tOf ds) fuel k iL [.scr (ns.map PV.int)] []) _ _
      rw [e]
      exact fun w' H' _ _ v r => r
  · have := (fn_ok (w := w) (fuel := fuel) S k iL dL jL (x :: Nr) fd hL F (base := base)).calm
    rw [tk] at this
    have e : He.ga K dL.name = fa := by
      rw [hname]
      have := Option.some.inj hm
      cases this; rfl
    rw [e] at this
    exact this
end J

set_option autoImplicit false
set_option linter.all false
set_option maxRecDepth 100000
/-! MA: reckoning with the small language. -/
namespace J
open PySem
section
variable {α β γ : Type}
@[simp] theorem pb (a : α) (k : α → M β) : ((pure a : M α) >>= k) = k a := rfl
@[simp] theorem bb (k : α → M β) : ((bad : M α) >>= k) = bad := rfl
theorem ba (m : M α) (f : α → M β) (g : β → M γ) : ((m >>= f) >>= g) = m >>= fun x => f x >>= g := by
  funext h
  show M.bind (M.bind m f) g h = M.bind m (fun x => M.bind (f x) g) h
  unfold M.bind
  cases m h <;> rfl
@[simp] theorem os (a : α) : opt (some a) = (pure a : M α) := rfl
@[simp] theorem on : opt (none : Option α) = bad := rfl
theorem rd_of {f : Hh → Option α} {a : α} (e : ∀ h, f h = some a) : rd f = (pure a : M α) := by
  funext h
  show opt (f h) h = _
  rw [e]; rfl
@[simp] theorem te (a : α) (env : En) (k : α → M (Fl × En)) : tryE (pure a : M α) env k = k a := rfl
@[simp] theorem nx (a : α) : nox (pure a : M α) = pure a := rfl
end
@[simp] theorem bp {α : Type} (m : M α) : (m >>= fun x => (pure x : M α)) = m := by
  funext h
  show M.bind m _ h = _
  unfold M.bind
  cases m h <;> rfl
@[simp] theorem ip {α : Type} (p : Prop) [Decidable p] (a b : α) : (if p then (pure a : M α) else pure b) = pure (if p then a else b) := by split <;> rfl
@[simp] theorem ibl (p : Prop) [Decidable p] (a b : Bool) : (if p then PV.bl a else PV.bl b) = PV.bl (if p then a else b) := by split <;> rfl
@[simp] theorem itf (p : Prop) [Decidable p] (b : Bool) : (if p then b else false) = (decide p && b) := by by_cases h : p <;> simp [h]
@[simp] theorem itt (p : Prop) [Decidable p] (b : Bool) : (if p then true else b) = (decide p || b) := by by_cases h : p <;> simp [h]
@[simp] theorem tyb (a b : Ty) : (a == b) = decide (a = b) := by cases a <;> cases b <;> rfl
/-! ### reading -/
@[simp] theorem rd_tb (b : Bool) : rd (truth · (.bl b)) = pure b := rfl
@[simp] theorem rd_tn : rd (truth · .non) = pure false := rfl
@[simp] theorem rd_eqi (i j : Int) : rd (evCmp .eq (.int i) (.int j)) = pure (decide (i = j)) := rfl
@[simp] theorem rd_nei (i j : Int) : rd (evCmp .ne (.int i) (.int j)) = pure (!decide (i = j)) := rfl
@[simp] theorem rd_lti (i j : Int) : rd (evCmp .lt (.int i) (.int j)) = pure (decide (i < j)) := rfl
@[simp] theorem rd_lei (i j : Int) : rd (evCmp .le (.int i) (.int j)) = pure (decide (i ≤ j)) := rfl
@[simp] theorem rd_gti (i j : Int) : rd (evCmp .gt (.int i) (.int j)) = pure (decide (j < i)) := rfl
@[simp] theorem rd_gei (i j : Int) : rd (evCmp .ge (.int i) (.int j)) = pure (decide (j ≤ i)) := rfl
@[simp] theorem rd_eqs (i j : Str) : rd (evCmp .eq (.str i) (.str j)) = pure (decide (i = j)) := rfl
@[simp] theorem rd_nes (i j : Str) : rd (evCmp .ne (.str i) (.str j)) = pure (!decide (i = j)) := rfl
/-- a sign among signs -/
def memB (c : Nat) (l : List Nat) : Bool := decide (c ∈ l)
theorem rd_int (x : PV) {xs : List PV} (hx : flatP x = true) (h : xs.all flatP = true) : rd (evCmp .isin x (.tup xs)) = pure (xs.any fun y => eqP y x) := by
  have key : ∀ h, evIn h x (.tup xs) = some (xs.any fun y => eqP y x) := fun g => by
    cases x <;> simp [evIn, getS, h, hx]
  exact rd_of key
theorem rd_inl (x : PV) {xs : List PV} (hx : flatP x = true) (h : xs.all flatP = true) : rd (evCmp .isin x (.lst xs)) = pure (xs.any fun y => eqP y x) := by
  have key : ∀ h, evIn h x (.lst xs) = some (xs.any fun y => eqP y x) := fun g => by
    cases x <;> simp [evIn, getS, getL, h, hx]
  exact rd_of key
@[simp] theorem rd_ins (x : Str) (t : Ty) : rd (evInst · (.str x) t) = pure (t == .str) := rfl
@[simp] theorem rd_ini (x : Int) (t : Ty) : rd (evInst · (.int x) t) = pure (t == .int) := rfl
@[simp] theorem rd_inb (x : Bool) (t : Ty) : rd (evInst · (.bl x) t) = pure (t == .int || t == .bool) := rfl
@[simp] theorem rd_inn (t : Ty) : rd (evInst · .non t) = pure false := rfl
@[simp] theorem rd_itup (x : List PV) (t : Ty) : rd (evInst · (.tup x) t) = pure (t == .tup) := rfl
@[simp] theorem rd_ilst (x : List PV) (t : Ty) : rd (evInst · (.lst x) t) = pure (t == .lst) := rfl
theorem rd_ixt (xs : List PV) (k : Int) {v : PV} (e : L2.atI xs k = some v) : rd (evIdx · (.tup xs) (.int k)) = pure v := rd_of fun _ => e
theorem rd_ixl (xs : List PV) (k : Int) {v : PV} (e : L2.atI xs k = some v) : rd (evIdx · (.lst xs) (.int k)) = pure v := rd_of fun _ => e
theorem rd_ixs (z : Str) (k : Int) {c : Nat} (hz : z.length ≤ sizeL) (e : L2.atI z.cps.toList k = some c) : rd (evIdx · (.str z) (.int k)) = pure (.str ⟨#[c]⟩) := rd_of fun _ => by
  simp [evIdx, hz, e]
@[simp] theorem bi_lent (m : Bool) (xs : List PV) : evBi .len m [.tup xs] = pure (.int xs.length) := rfl
@[simp] theorem bi_lenl (m : Bool) (xs : List PV) : evBi .len m [.lst xs] = pure (.int xs.length) := rfl
@[simp] theorem bi_lensc (m : Bool) (xs : List PV) : evBi .len m [.scr xs] = pure (.int xs.length) := rfl
theorem bi_lenstr (m : Bool) (z : Str) (h : z.length ≤ sizeL) : evBi .len m [.str z] = pure (.int z.length) := by
  show (if z.length ≤ sizeL then pure (.int z.length) else bad : M PV) = _
  rw [if_pos h]
theorem bls_map (bs : List Bool) : blsOf (bs.map PV.bl) = some bs := by
  induction bs with
  | nil => rfl
  | cons b bs ih => simp [blsOf, ih]
theorem bi_alll (m : Bool) (bs : List Bool) : evBi .all m [.lst (bs.map PV.bl)] = pure (.bl (bs.all id)) := by
  show (rd (getL · (.lst (bs.map PV.bl))) >>= fun xs => opt (blsOf xs) >>= fun bs => pure (PV.bl (bs.all id))) = _
  show (opt (blsOf (bs.map PV.bl)) >>= fun bs => pure (PV.bl (bs.all id))) = _
  rw [bls_map]; rfl
theorem mk_l (xs : List PV) (h : xs.length ≤ sizeL) : mkL false xs = pure (.lst xs) := by
  funext g
  simp [mkL, h]; rfl
theorem mk_t (xs : List PV) (h : xs.length ≤ sizeL) : mkT xs = pure (.tup xs) := by simp [mkT, h]
/-! ### what is walked -/
def itemsOf : Src → Option (List PV)
  | .seq (.tup xs) => some xs
  | .seq (.lst xs) => some xs
  | .seq (.scr xs) => some xs
  | .seq (.str z) => if z.length ≤ sizeL then some (z.cps.toList.map fun c => .str ⟨#[c]⟩) else none
  | .enum (.tup xs) => some (xs.mapIdx fun i x => .tup [.int i, x])
  | .enum (.lst xs) => some (xs.mapIdx fun i x => .tup [.int i, x])
  | .zip (.tup xs) (.tup ys) => some (List.zipWith (fun x y => .tup [x, y]) xs ys)
  | .zip (.lst xs) (.lst ys) => some (List.zipWith (fun x y => .tup [x, y]) xs ys)
  | .range lo n => some ((List.range n).map fun (i : Nat) => PV.int (lo + (i : Int)))
  | _ => none
theorem items_ok {src : Src} {xs : List PV} (e : itemsOf src = some xs) (h : Hh) : (∀ i, item h src i = some xs[i]?) ∧ xs.length + 1 ≤ turns h src := by
  have str : ∀ {z : Str}, src = .seq (.str z) → (∀ i, item h src i = some xs[i]?) ∧ xs.length + 1 ≤ turns h src := fun {z} q => by
    subst q
    simp only [itemsOf] at e
    split at e
    · rename_i hz
      cases e
      refine ⟨fun i => ?_, ?_⟩
      · simp [item, hz]
      · simp [turns, Str.length]
    · cases e
  cases src with
  | seq v =>
    cases v with
    | tup ys => cases e; exact ⟨fun i => rfl, Nat.le_refl _⟩
    | lst ys => cases e; exact ⟨fun i => rfl, Nat.le_refl _⟩
    | scr ys => cases e; exact ⟨fun i => rfl, Nat.le_refl _⟩
    | str z => exact str rfl
    | _ => cases e
  | enum v =>
    cases v with
    | tup ys => cases e; exact ⟨fun i => by simp [item, getS, List.getElem?_mapIdx], by simp [turns, getS]⟩
    | lst ys => cases e; exact ⟨fun i => by simp [item, getS, getL, List.getElem?_mapIdx], by simp [turns, getS, getL]⟩
    | _ => cases e
  | zip u v =>
    cases u with
    | tup xs =>
      cases v with
      | tup ys =>
        cases e
        refine ⟨fun i => ?_, by simp [turns, getS]; omega⟩
        simp only [item, getS, Option.bind_some, Option.map_some, List.getElem?_zipWith]
        cases xs[i]? <;> cases ys[i]? <;> rfl
      | _ => cases e
    | lst xs =>
      cases v with
      | lst ys =>
        cases e
        refine ⟨fun i => ?_, by simp [turns, getS, getL]; omega⟩
        simp only [item, getS, getL, Option.bind_some, Option.map_some, List.getElem?_zipWith]
        cases xs[i]? <;> cases ys[i]? <;> rfl
      | _ => cases e
    | _ => cases e
  | range lo n =>
    cases e
    refine ⟨fun i => ?_, by simp [turns]⟩
    simp only [item]
    split
    · rename_i hi; simp [hi]
    · rename_i hi; simp [hi]
/-- a clause, its turns without effect -/
theorem comp_pure {src : Src} {body : PV → M (List PV)} {xs : List PV} {f : PV → List PV} (e : itemsOf src = some xs) (hb : ∀ x ∈ xs, body x = pure (f x)) : (fun h => compGo src body (turns h src) 0 h) = (pure (xs.flatMap f) : M (List PV)) := by
  funext h
  obtain ⟨h1, h2⟩ := items_ok e h
  have go : ∀ n i, xs.length + 1 ≤ n + i → i ≤ xs.length → compGo src body n i h = .ok ((xs.drop i).flatMap f) h := by
    intro n
    induction n with
    | zero =>
      intro i hi hi'
      omega
    | succ n ih =>
      intro i hi hi'
      simp only [compGo, h1]
      cases q : xs[i]? with
      | none =>
        have : xs.length ≤ i := by simpa using q
        rw [List.drop_eq_nil_of_le this]; rfl
      | some x =>
        have hx : x ∈ xs := List.mem_of_getElem? q
        have hi2 : i < xs.length := (List.getElem?_eq_some_iff.mp q).1
        have ex : xs[i] = x := (List.getElem?_eq_some_iff.mp q).2
        simp only [hb x hx]
        show (compGo src body n (i + 1) >>= fun zs => pure (f x ++ zs)) h = _
        show M.bind _ _ h = _
        unfold M.bind
        rw [ih (i + 1) (by omega) hi2]
        rw [List.drop_eq_getElem_cons hi2, ex]
        rfl
  have := go (turns h src) 0 (by omega) (Nat.zero_le _)
  rw [List.drop_zero] at this
  exact this
/-! ### calls -/
def retOf : Fl × En → M PV
  | (.next, _) => pure .non
  | (.ret v, _) => pure v
  | (.exc c v, _) => fun h => .exc c v h
  | _ => bad
theorem call_pure {T : Nat → Option Fd} {fuel k i : Nat} {d : Fd} {xs : List PV} {v : PV} (hT : T i = some d) (hl : xs.length = d.ps) (hb : (evSs ⟨callAt T fuel k, fuel⟩ d.body (xs.map some ++ List.replicate (d.slots - xs.length) none) >>= retOf) = pure v) :
    callAt T fuel (k + 1) i xs = pure v := by
  funext h
  have e : callAt T fuel (k + 1) i xs = evDef ⟨callAt T fuel k, fuel⟩ d xs := by simp only [callAt, hT]
  rw [e]
  unfold evDef
  rw [if_pos hl]
  unfold tidy
  change (match (evSs ⟨callAt T fuel k, fuel⟩ d.body (xs.map some ++ List.replicate (d.slots - xs.length) none) >>= retOf) h with
    | .ok v h' => if clo h.length v && oldOk h.length h h' then Out.ok v (h'.take h.length) else .ok v h'
    | r => r) = _
  rw [hb]
  show (if clo h.length v && oldOk h.length h h then Out.ok v (h.take h.length) else .ok v h) = .ok v h
  rw [List.take_length]
  split <;> rfl
theorem atI_nat {α : Type} (xs : List α) (k : Nat) : L2.atI xs (k : Int) = xs[k]? := by
  have h0 : (0 : Int) ≤ (k : Int) := by omega
  simp only [L2.atI, L2.ixN, if_pos h0]
  by_cases h : k < xs.length
  · rw [if_pos (by omega)]; simp
  · rw [if_neg (by omega)]; simp; omega
@[simp] theorem atI_0 {α : Type} (xs : List α) : L2.atI xs 0 = xs[0]? := atI_nat xs 0
@[simp] theorem atI_1 {α : Type} (xs : List α) : L2.atI xs 1 = xs[1]? := atI_nat xs 1
@[simp] theorem atI_2 {α : Type} (xs : List α) : L2.atI xs 2 = xs[2]? := atI_nat xs 2
@[simp] theorem atI_3 {α : Type} (xs : List α) : L2.atI xs 3 = xs[3]? := atI_nat xs 3
@[simp] theorem atI_4 {α : Type} (xs : List α) : L2.atI xs 4 = xs[4]? := atI_nat xs 4
/-! ### comprehensions -/
section
variable {c : Ctx} {elt : E} {t : Tg} {it : It} {cs : Cs} {env : En} {src : Src} {xs ys : List PV} {g : PV → List PV} {f : PV → PV} {own : List Nat} {gs : Gs} {el : En → M PV}
theorem evG_last (hi : evI c it env = pure src) (hx : itemsOf src = some xs) (hb : ∀ x ∈ xs, (opt (asgn t x env) >>= fun env' => evCA c cs env' >>= fun b => if b then (el env' >>= fun y => pure [y]) else pure []) = pure (g x)) : evG c el (.last t it cs) env = pure (xs.flatMap g) := by
  show (evI c it env >>= fun src => fun h => compGo src (fun x => opt (asgn t x env) >>= fun env' => evCA c cs env' >>= fun b => if b then (el env' >>= fun y => pure [y]) else pure []) (turns h src) 0 h) = _
  rw [hi]
  exact comp_pure hx hb
theorem evG_cons (hi : evI c it env = pure src) (hx : itemsOf src = some xs) (hb : ∀ x ∈ xs, (opt (asgn t x env) >>= fun env' => evCA c cs env' >>= fun b => if b then evG c el gs env' else pure []) = pure (g x)) : evG c el (.cons t it cs gs) env = pure (xs.flatMap g) := by
  show (evI c it env >>= fun src => fun h => compGo src (fun x => opt (asgn t x env) >>= fun env' => evCA c cs env' >>= fun b => if b then evG c el gs env' else pure []) (turns h src) 0 h) = _
  rw [hi]
  exact comp_pure hx hb
theorem comp_of (hg : evG c (fun env' => evE c elt env') gs (wipe env own) = pure ys) (hl : ys.length ≤ sizeL) : evE c (.comp false own elt gs) env = pure (.lst ys) := by
  show (nox (evG c (fun env' => evE c elt env') gs (wipe env own)) >>= fun xs => mkL false xs) = _
  rw [hg]
  exact mk_l ys hl
/-- one clause without a test -/
theorem comp1 (hi : evI c it (wipe env own) = pure src) (hx : itemsOf src = some xs) (hb : ∀ x ∈ xs, (opt (asgn t x (wipe env own)) >>= fun env' => evE c elt env') = pure (f x)) (hl : xs.length ≤ sizeL) : evE c (.comp false own elt (.last t it .nil)) env = pure (.lst (xs.map f)) := by
  have e0 : ∀ l : List PV, l.flatMap (fun x => [f x]) = l.map f := fun l => by induction l <;> simp_all
  have e := e0 xs
  rw [← e]
  refine comp_of (evG_last hi hx fun x h => ?_) (by rw [e, List.length_map]; exact hl)
  have := hb x h
  cases q : asgn t x (wipe env own) with
  | none =>
    rw [q] at this
    have := congrFun this []
    cases this
  | some env' =>
    rw [q] at this
    show (evCA c .nil env' >>= fun b => if b then (evE c elt env' >>= fun y => pure [y]) else pure []) = _
    have e : evE c elt env' = pure (f x) := this
    show (if true then (evE c elt env' >>= fun y => pure [y]) else pure []) = _
    rw [e]; rfl
/-- .. over things that are told -/
theorem comp_m {α : Type} {l : List α} {enc : α → PV} {f : α → PV} (hi : evI c it (wipe env own) = pure src) (hx : itemsOf src = some (l.map enc)) (hl : l.length ≤ sizeL) (hb : ∀ a ∈ l, (opt (asgn t (enc a) (wipe env own)) >>= fun env' => evE c elt env') = pure (f a)) : evE c (.comp false own elt (.last t it .nil)) env = pure (.lst (l.map f)) := by
  have key : evG c (fun env' => evE c elt env') (.last t it .nil) (wipe env own) = pure (l.map f) := by
    show (evI c it (wipe env own) >>= fun src => fun h => compGo src (fun x => opt (asgn t x (wipe env own)) >>= fun env' => evCA c .nil env' >>= fun b => if b then (evE c elt env' >>= fun y => pure [y]) else pure []) (turns h src) 0 h) = _
    rw [hi]
    show (fun h => compGo src (fun x => opt (asgn t x (wipe env own)) >>= fun env' => evCA c .nil env' >>= fun b => if b then (evE c elt env' >>= fun y => pure [y]) else pure []) (turns h src) 0 h) = _
    funext h
    obtain ⟨h1, h2⟩ := items_ok hx h
    rw [List.length_map] at h2
    have go : ∀ n i, l.length + 1 ≤ n + i → i ≤ l.length → compGo src (fun x => opt (asgn t x (wipe env own)) >>= fun env' => evCA c .nil env' >>= fun b => if b then (evE c elt env' >>= fun y => pure [y]) else pure []) n i h = .ok ((l.drop i).map f) h := by
      intro n
      induction n with
      | zero => intro i hi hi'; omega
      | succ n ih =>
        intro i hi hi'
        simp only [compGo, h1, List.getElem?_map]
        cases q : l[i]? with
        | none =>
          have : l.length ≤ i := by simpa using q
          rw [List.drop_eq_nil_of_le this]; rfl
        | some x =>
          have hx : x ∈ l := List.mem_of_getElem? q
          have hi2 : i < l.length := (List.getElem?_eq_some_iff.mp q).1
          have ex : l[i] = x := (List.getElem?_eq_some_iff.mp q).2
          have eb : (opt (asgn t (enc x) (wipe env own)) >>= fun env' => evCA c .nil env' >>= fun b => if b then (evE c elt env' >>= fun y => pure [y]) else pure []) = (pure [f x] : M (List PV)) := by
            have := hb x hx
            cases q : asgn t (enc x) (wipe env own) with
            | none =>
              rw [q] at this
              have := congrFun this []
              cases this
            | some env' =>
              rw [q] at this
              have e : evE c elt env' = pure (f x) := this
              show (if true then (evE c elt env' >>= fun y => pure [y]) else pure []) = _
              rw [e]; rfl
          simp only [Option.map_some, eb]
          show M.bind (compGo src _ n (i + 1)) _ h = _
          unfold M.bind
          rw [ih (i + 1) (by omega) hi2, List.drop_eq_getElem_cons hi2, ex]
          rfl
    have := go (turns h src) 0 (by omega) (Nat.zero_le _)
    rw [List.drop_zero] at this
    exact this
  exact comp_of key (by rw [List.length_map]; exact hl)
end
theorem bi_all_m {α : Type} (m : Bool) (l : List α) (p : α → Bool) : evBi .all m [.lst (l.map fun a => PV.bl (p a))] = pure (.bl (l.all p)) := by
  have := bi_alll m (l.map p)
  rw [List.map_map] at this
  rw [show (l.map fun a => PV.bl (p a)) = l.map (PV.bl ∘ p) from rfl, this]
  simp
theorem clause_m {α : Type} {src : Src} {body : PV → M (List PV)} {l : List α} {enc : α → PV} {g : α → List PV} (e : itemsOf src = some (l.map enc)) (hb : ∀ a ∈ l, body (enc a) = pure (g a)) : (fun h => compGo src body (turns h src) 0 h) = (pure (l.flatMap g) : M (List PV)) := by
  funext h
  obtain ⟨h1, h2⟩ := items_ok e h
  rw [List.length_map] at h2
  have go : ∀ n i, l.length + 1 ≤ n + i → i ≤ l.length → compGo src body n i h = .ok ((l.drop i).flatMap g) h := by
    intro n
    induction n with
    | zero => intro i hi hi'; omega
    | succ n ih =>
      intro i hi hi'
      simp only [compGo, h1, List.getElem?_map]
      cases q : l[i]? with
      | none =>
        have : l.length ≤ i := by simpa using q
        rw [List.drop_eq_nil_of_le this]; rfl
      | some x =>
        have hx : x ∈ l := List.mem_of_getElem? q
        have hi2 : i < l.length := (List.getElem?_eq_some_iff.mp q).1
        have ex : l[i] = x := (List.getElem?_eq_some_iff.mp q).2
        simp only [Option.map_some, hb x hx]
        show M.bind (compGo src body n (i + 1)) _ h = _
        unfold M.bind
        rw [ih (i + 1) (by omega) hi2, List.drop_eq_getElem_cons hi2, ex]
        rfl
  have := go (turns h src) 0 (by omega) (Nat.zero_le _)
  rw [List.drop_zero] at this
  exact this
section
variable {α : Type} {c : Ctx} {t : Tg} {it : It} {cs : Cs} {env : En} {src : Src} {l : List α} {enc : α → PV} {g : α → List PV} {gs : Gs} {el : En → M PV}
theorem evG_last_m (hi : evI c it env = pure src) (hx : itemsOf src = some (l.map enc)) (hb : ∀ a ∈ l, (opt (asgn t (enc a) env) >>= fun env' => evCA c cs env' >>= fun b => if b then (el env' >>= fun y => pure [y]) else pure []) = pure (g a)) : evG c el (.last t it cs) env = pure (l.flatMap g) := by
  show (evI c it env >>= fun src => fun h => compGo src (fun x => opt (asgn t x env) >>= fun env' => evCA c cs env' >>= fun b => if b then (el env' >>= fun y => pure [y]) else pure []) (turns h src) 0 h) = _
  rw [hi]
  exact clause_m hx hb
theorem evG_cons_m (hi : evI c it env = pure src) (hx : itemsOf src = some (l.map enc)) (hb : ∀ a ∈ l, (opt (asgn t (enc a) env) >>= fun env' => evCA c cs env' >>= fun b => if b then evG c el gs env' else pure []) = pure (g a)) : evG c el (.cons t it cs gs) env = pure (l.flatMap g) := by
  show (evI c it env >>= fun src => fun h => compGo src (fun x => opt (asgn t x env) >>= fun env' => evCA c cs env' >>= fun b => if b then evG c el gs env' else pure []) (turns h src) 0 h) = _
  rw [hi]
  exact clause_m hx hb
end
theorem bi_all_true {α : Type} (m : Bool) (l : List α) : evBi .all m [.lst (l.map fun _ => PV.bl true)] = pure (.bl true) := by
  have e : l.all (fun _ => true) = true := List.all_eq_true.mpr fun _ _ => rfl
  exact (bi_all_m m l fun _ => true).trans (by rw [e])
theorem strs_map (l : List Str) : strsOf (l.map PV.str) = some l := by
  induction l with
  | nil => rfl
  | cons b bs ih => simp [strsOf, ih]
theorem dedup_nodup {xs : List Str} (h : xs.Nodup) : dedup xs = xs := by
  have key : ∀ (ys acc : List Str), (acc ++ ys).Nodup → ys.foldl (fun acc x => if x ∈ acc then acc else acc ++ [x]) acc = acc ++ ys := by
    intro ys
    induction ys with
    | nil => intro acc _; simp
    | cons y ys ih =>
      intro acc h
      have : y ∉ acc := fun z => by
        rw [List.nodup_append] at h
        exact h.2.2 y z y (by simp) rfl
      simp only [List.foldl_cons, if_neg this]
      rw [ih (acc ++ [y]) (by simpa using h)]
      simp
  have := key xs [] (by simpa using h)
  rw [List.nil_append] at this
  exact this
theorem bi_lenset (m : Bool) {l : List Str} (h : l.Nodup) (hl : l.length ≤ 4000) : evBi .lenset m [.lst (l.map PV.str)] = pure (.int l.length) := by
  show (rd (getL · (.lst (l.map PV.str))) >>= fun xs => opt (strsOf xs) >>= fun zs => if zs.length ≤ 4000 then pure (PV.int (dedup zs).length) else bad) = _
  show (opt (strsOf (l.map PV.str)) >>= fun zs => if zs.length ≤ 4000 then pure (PV.int (dedup zs).length) else bad) = _
  rw [strs_map]
  show (if l.length ≤ 4000 then pure (PV.int (dedup l).length) else bad) = _
  rw [if_pos hl, dedup_nodup h]
/-! ### texts by their signs -/
def st (l : List Nat) : Str := ⟨l.toArray⟩
@[simp] theorem st_len (l : List Nat) : (st l).length = l.length := by simp [st, Str.length]
@[simp] theorem st_tl (l : List Nat) : (st l).cps.toList = l := by simp [st]
@[simp] theorem st_inj (a b : List Nat) : st a = st b ↔ a = b := by simp [st]
@[simp] theorem st_beq (a b : List Nat) : (st a == st b) = decide (a = b) := by
  by_cases h : a = b
  · subst h; simp
  · rw [decide_eq_false h]
    exact beq_eq_false_iff_ne.mpr fun e => h ((st_inj a b).mp e)
theorem items_s {l : List Nat} (h : l.length ≤ sizeL) : itemsOf (.seq (.str (st l))) = some (l.map fun c => .str ⟨#[c]⟩) := by simp [itemsOf, h]
@[simp] theorem st_app (a b : List Nat) : st a ++ st b = st (a ++ b) := by
  show (⟨(st a).cps ++ (st b).cps⟩ : Str) = _
  simp [st]
theorem st_of (x : Str) : x = st x.cps.toList := by cases x; simp [st]
@[simp] theorem st_mk (l : List Nat) : (⟨l.toArray⟩ : Str) = st l := rfl
@[simp] theorem rd_inst (c : Nat) (z : Str) : rd (evCmp .isin (.str (st [c])) (.str z)) = pure (memB c z.cps.toList) := rfl
@[simp] theorem rd_ninst (c : Nat) (z : Str) : rd (evCmp .notin (.str (st [c])) (.str z)) = pure (!memB c z.cps.toList) := rfl
theorem rd_item {src : Src} {xs : List PV} (e : itemsOf src = some xs) : rd (item · src 0) = pure xs[0]? := rd_of fun h => (items_ok e h).1 0
@[simp] theorem rd_itt (xs : List PV) : rd (item · (.seq (.tup xs)) 0) = pure xs[0]? := rfl
@[simp] theorem rd_itl (xs : List PV) : rd (item · (.seq (.lst xs)) 0) = pure xs[0]? := rfl
theorem rd_its {l : List Nat} (h : l.length ≤ sizeL) : rd (item · (.seq (.str (st l))) 0) = pure ((l.map fun c => PV.str ⟨#[c]⟩)[0]?) := rd_item (items_s h)
@[simp] theorem st_one (c : Nat) : (⟨#[c]⟩ : Str) = st [c] := rfl
end J

set_option autoImplicit false
namespace J.G
open PySem J
def d0_is_int : Fd := ⟨"is_int", 1, 1,
  (.cons (.ret (.andv (.cons (.inst (.var 0) .int) (.cons (.notv (.inst (.var 0) .bool)) .nil))))
  .nil)⟩
def d1_within : Fd := ⟨"within", 3, 3,
  (.cons (.ret (.andv (.cons (.call 0 (.cons (.var 0) .nil)) (.cons (.chain .le .le (.var 1) (.var 0) (.var 2)) .nil))))
  .nil)⟩
def d2_is_row : Fd := ⟨"is_row", 3, 3,
  (.cons (.ret (.andv (.cons (.inst (.var 0) .tup) (.cons (.chain .le .le (.var 1) (.bi .len false (.cons (.var 0) .nil)) (.var 2)) .nil))))
  .nil)⟩
def d3_c0 : E :=
  .comp false [2] (.cmp .isin (.var 2) (.glob "DIGITS" (.str "0123456789"))) (.last (.name 2) (.val (.slice false (.var 0) (.some (.int 1)) .none)) .nil)
def d3_c1 : E :=
  .comp false [2] (.cmp .isin (.var 2) (.var 1)) (.last (.name 2) (.val (.var 0)) .nil)
def d3_is_name : Fd := ⟨"is_name", 1, 3,
  (.cons (.ite (.or (.cons (.not (.val (.inst (.var 0) .str))) (.cons (.not (.val (.chain .le .le (.int 1) (.bi .len false (.cons (.var 0) .nil)) (.glob "LONGEST" (.int (10)))))) (.cons (.val (.cmp .isin (.var 0) (.glob "KEYWORDS" (.tup [(.str "case"), (.str "drop"), (.str "entry"), (.str "free"), (.str "fun"), (.str "give"), (.str "hold"), (.str "in"), (.str "into"), (.str "kind"), (.str "number")])))) .nil))))
  (.cons (.ret (.bl false))
  .nil)
  .nil)
  (.cons (.ite (.and (.cons (.val (.cmp .isin (.idx (.var 0) (.int 0)) (.str "rt"))) (.cons (.val (.bi .all false (.cons d3_c0 .nil))) .nil)))
  (.cons (.ret (.bl false))
  .nil)
  .nil)
  (.cons (.set 1 (.bin .add false (.bin .add false (.glob "SMALL" (.str "abcdefghijklmnopqrstuvwxyz")) (.glob "CAPITALS" (.str "ABCDEFGHIJKLMNOPQRSTUVWXYZ"))) (.glob "DIGITS" (.str "0123456789"))))
  (.cons (.ret (.andv (.cons (.cmp .notin (.idx (.var 0) (.int 0)) (.glob "DIGITS" (.str "0123456789"))) (.cons (.bi .all false (.cons d3_c1 .nil)) .nil))))
  .nil))))⟩
def d4_is_low : Fd := ⟨"is_low", 1, 1,
  (.cons (.ret (.andv (.cons (.call 3 (.cons (.var 0) .nil)) (.cons (.cmp .isin (.idx (.var 0) (.int 0)) (.glob "SMALL" (.str "abcdefghijklmnopqrstuvwxyz"))) .nil))))
  .nil)⟩
def d5_is_high : Fd := ⟨"is_high", 1, 1,
  (.cons (.ret (.andv (.cons (.call 3 (.cons (.var 0) .nil)) (.cons (.cmp .isin (.idx (.var 0) (.int 0)) (.glob "CAPITALS" (.str "ABCDEFGHIJKLMNOPQRSTUVWXYZ"))) .nil))))
  .nil)⟩
def d6_is_number : Fd := ⟨"is_number", 1, 1,
  (.cons (.ret (.call 1 (.cons (.var 0) (.cons (.neg (.glob "GREATEST" (.int (1000000000000)))) (.cons (.glob "GREATEST" (.int (1000000000000))) .nil)))))
  .nil)⟩
def d7_is_register : Fd := ⟨"is_register", 1, 1,
  (.cons (.ret (.call 1 (.cons (.var 0) (.cons (.int 0) (.cons (.bin .sub false (.glob "REGISTERS" (.int (32))) (.int 1)) .nil)))))
  .nil)⟩
def d8_c0 : E :=
  .comp false [2] (.call 7 (.cons (.var 2) .nil)) (.last (.name 2) (.val (.var 0)) .nil)
def d8_is_registers : Fd := ⟨"is_registers", 2, 3,
  (.cons (.ret (.andv (.cons (.call 2 (.cons (.var 0) (.cons (.int 0) (.cons (.var 1) .nil)))) (.cons (.bi .all false (.cons d8_c0 .nil)) .nil))))
  .nil)⟩
def d9_is_word : Fd := ⟨"is_word", 1, 1,
  (.cons (.ret (.andv (.cons (.inst (.var 0) .str) (.cons (.orv (.cons (.cmp .eq (.var 0) (.str "number")) (.cons (.call 5 (.cons (.var 0) .nil)) .nil))) .nil))))
  .nil)⟩
def d10_c0 : E :=
  .comp false [1] (.call 9 (.cons (.var 1) .nil)) (.last (.name 1) (.val (.idx (.var 0) (.int 1))) .nil)
def d10_is_maker : Fd := ⟨"is_maker", 1, 2,
  (.cons (.ite (.or (.cons (.not (.val (.call 2 (.cons (.var 0) (.cons (.int 2) (.cons (.int 2) .nil)))))) (.cons (.not (.val (.call 5 (.cons (.idx (.var 0) (.int 0)) .nil)))) (.cons (.not (.val (.call 2 (.cons (.idx (.var 0) (.int 1)) (.cons (.int 0) (.cons (.glob "MOST_FIELDS" (.int (4))) .nil)))))) .nil))))
  (.cons (.ret (.bl false))
  .nil)
  .nil)
  (.cons (.ret (.bi .all false (.cons d10_c0 .nil)))
  .nil))⟩
def d11_c0 : E :=
  .comp false [1] (.call 10 (.cons (.var 1) .nil)) (.last (.name 1) (.val (.idx (.var 0) (.int 1))) .nil)
def d11_is_one_kind : Fd := ⟨"is_one_kind", 1, 2,
  (.cons (.ite (.or (.cons (.not (.val (.call 2 (.cons (.var 0) (.cons (.int 2) (.cons (.int 2) .nil)))))) (.cons (.not (.val (.call 5 (.cons (.idx (.var 0) (.int 0)) .nil)))) (.cons (.not (.val (.call 2 (.cons (.idx (.var 0) (.int 1)) (.cons (.int 1) (.cons (.glob "MOST_MAKERS" (.int (6))) .nil)))))) .nil))))
  (.cons (.ret (.bl false))
  .nil)
  .nil)
  (.cons (.ret (.bi .all false (.cons d11_c0 .nil)))
  .nil))⟩
def d12_c0 : E :=
  .comp false [4] (.call 11 (.cons (.var 4) .nil)) (.last (.name 4) (.val (.var 0)) .nil)
def d12_c1 : E :=
  .comp false [5, 6] (.var 5) (.last (.cons (.name 5) (.cons (.name 6) .nil)) (.val (.var 0)) .nil)
def d12_c2 : E :=
  .comp false [5, 6, 7, 8] (.var 7) (.cons (.cons (.name 5) (.cons (.name 6) .nil)) (.val (.var 0)) .nil (.last (.cons (.name 7) (.cons (.name 8) .nil)) (.val (.var 6)) .nil))
def d12_c3 : E :=
  .comp false [5, 6, 7, 8, 9] (.var 9) (.cons (.cons (.name 5) (.cons (.name 6) .nil)) (.val (.var 0)) .nil (.cons (.cons (.name 7) (.cons (.name 8) .nil)) (.val (.var 6)) .nil (.last (.name 9) (.val (.var 8)) .nil)))
def d12_c4 : E :=
  .comp false [10] (.orv (.cons (.cmp .eq (.var 10) (.str "number")) (.cons (.cmp .isin (.var 10) (.var 1)) .nil))) (.last (.name 10) (.val (.var 3)) .nil)
def d12_is_kinds : Fd := ⟨"is_kinds", 1, 11,
  (.cons (.ite (.or (.cons (.not (.val (.call 2 (.cons (.var 0) (.cons (.int 1) (.cons (.glob "MOST_KINDS" (.int (6))) .nil)))))) (.cons (.not (.val (.bi .all false (.cons d12_c0 .nil)))) .nil)))
  (.cons (.ret (.bl false))
  .nil)
  .nil)
  (.cons (.set 1 d12_c1)
  (.cons (.set 2 d12_c2)
  (.cons (.ite (.or (.cons (.val (.cmp .lt (.bi .lenset false (.cons (.var 1) .nil)) (.bi .len false (.cons (.var 1) .nil)))) (.cons (.val (.cmp .lt (.bi .lenset false (.cons (.var 2) .nil)) (.bi .len false (.cons (.var 2) .nil)))) .nil)))
  (.cons (.ret (.bl false))
  .nil)
  .nil)
  (.cons (.set 3 d12_c3)
  (.cons (.ret (.bi .all false (.cons d12_c4 .nil)))
  .nil))))))⟩
def d13_is_next : Fd := ⟨"is_next", 1, 1,
  (.cons (.ret (.call 1 (.cons (.var 0) (.cons (.int 0) (.cons (.bin .sub false (.glob "MOST_ROWS" (.int (60))) (.int 1)) .nil)))))
  .nil)⟩
def d14_is_branch : Fd := ⟨"is_branch", 1, 1,
  (.cons (.ret (.andv (.cons (.call 2 (.cons (.var 0) (.cons (.int 2) (.cons (.int 2) .nil)))) (.cons (.call 8 (.cons (.idx (.var 0) (.int 0)) (.cons (.glob "MOST_FIELDS" (.int (4))) .nil))) (.cons (.call 13 (.cons (.idx (.var 0) (.int 1)) .nil)) .nil)))))
  .nil)⟩
def d15_c0 : E :=
  .comp false [2] (.call 14 (.cons (.var 2) .nil)) (.last (.name 2) (.val (.idx (.var 0) (.int 2))) .nil)
def d15_is_program_row : Fd := ⟨"is_program_row", 1, 3,
  (.cons (.ite (.or (.cons (.not (.val (.call 2 (.cons (.var 0) (.cons (.int 2) (.cons (.int 5) .nil)))))) (.cons (.not (.val (.inst (.idx (.var 0) (.int 0)) .str))) (.cons (.not (.val (.call 7 (.cons (.idx (.var 0) (.int 1)) .nil)))) .nil))))
  (.cons (.ret (.bl false))
  .nil)
  .nil)
  (.cons (.set 1 (.idx (.var 0) (.int 0)))
  (.cons (.ite (.val (.cmp .eq (.var 1) (.str "give")))
  (.cons (.ret (.cmp .eq (.bi .len false (.cons (.var 0) .nil)) (.int 2)))
  .nil)
  .nil)
  (.cons (.ite (.val (.cmp .eq (.var 1) (.str "match")))
  (.cons (.ret (.andv (.cons (.cmp .eq (.bi .len false (.cons (.var 0) .nil)) (.int 3)) (.cons (.call 2 (.cons (.idx (.var 0) (.int 2)) (.cons (.int 1) (.cons (.glob "MOST_MAKERS" (.int (6))) .nil)))) (.cons (.bi .all false (.cons d15_c0 .nil)) .nil)))))
  .nil)
  .nil)
  (.cons (.ite (.not (.val (.call 13 (.cons (.idx (.var 0) (.neg (.int 1))) .nil))))
  (.cons (.ret (.bl false))
  .nil)
  .nil)
  (.cons (.ite (.val (.cmp .eq (.var 1) (.str "number")))
  (.cons (.ret (.andv (.cons (.cmp .eq (.bi .len false (.cons (.var 0) .nil)) (.int 4)) (.cons (.call 6 (.cons (.idx (.var 0) (.int 2)) .nil)) .nil))))
  .nil)
  .nil)
  (.cons (.ite (.val (.cmp .ne (.bi .len false (.cons (.var 0) .nil)) (.int 5)))
  (.cons (.ret (.bl false))
  .nil)
  .nil)
  (.cons (.ite (.val (.cmp .eq (.var 1) (.str "make")))
  (.cons (.ret (.andv (.cons (.call 5 (.cons (.idx (.var 0) (.int 2)) .nil)) (.cons (.call 8 (.cons (.idx (.var 0) (.int 3)) (.cons (.glob "MOST_FIELDS" (.int (4))) .nil))) .nil))))
  .nil)
  .nil)
  (.cons (.ite (.val (.cmp .eq (.var 1) (.str "call")))
  (.cons (.ret (.andv (.cons (.call 4 (.cons (.idx (.var 0) (.int 2)) .nil)) (.cons (.call 8 (.cons (.idx (.var 0) (.int 3)) (.cons (.glob "MOST_PARAMS" (.int (8))) .nil))) .nil))))
  .nil)
  .nil)
  (.cons (.ite (.val (.cmp .eq (.var 1) (.str "less")))
  (.cons (.ret (.andv (.cons (.call 7 (.cons (.idx (.var 0) (.int 2)) .nil)) (.cons (.call 13 (.cons (.idx (.var 0) (.int 3)) .nil)) .nil))))
  .nil)
  .nil)
  (.cons (.ret (.andv (.cons (.cmp .isin (.var 1) (.tup (.cons (.str "add") (.cons (.str "sub") .nil)))) (.cons (.call 7 (.cons (.idx (.var 0) (.int 2)) .nil)) (.cons (.call 7 (.cons (.idx (.var 0) (.int 3)) .nil)) .nil)))))
  .nil)))))))))))⟩
def d16_c0 : E :=
  .comp false [1] (.call 9 (.cons (.var 1) .nil)) (.last (.name 1) (.val (.idx (.var 0) (.int 1))) .nil)
def d16_c1 : E :=
  .comp false [2] (.call 15 (.cons (.var 2) .nil)) (.last (.name 2) (.val (.idx (.var 0) (.int 3))) .nil)
def d16_is_function : Fd := ⟨"is_function", 1, 3,
  (.cons (.ite (.or (.cons (.not (.val (.call 2 (.cons (.var 0) (.cons (.int 4) (.cons (.int 4) .nil)))))) (.cons (.not (.val (.call 4 (.cons (.idx (.var 0) (.int 0)) .nil)))) (.cons (.not (.val (.call 2 (.cons (.idx (.var 0) (.int 1)) (.cons (.int 0) (.cons (.glob "MOST_PARAMS" (.int (8))) .nil)))))) .nil))))
  (.cons (.ret (.bl false))
  .nil)
  .nil)
  (.cons (.ite (.or (.cons (.not (.val (.bi .all false (.cons d16_c0 .nil)))) (.cons (.not (.val (.call 9 (.cons (.idx (.var 0) (.int 2)) .nil)))) .nil)))
  (.cons (.ret (.bl false))
  .nil)
  .nil)
  (.cons (.ret (.andv (.cons (.call 2 (.cons (.idx (.var 0) (.int 3)) (.cons (.int 1) (.cons (.glob "MOST_ROWS" (.int (60))) .nil)))) (.cons (.bi .all false (.cons d16_c1 .nil)) .nil))))
  .nil)))⟩
def d17_c0 : E :=
  .comp false [1] (.call 16 (.cons (.var 1) .nil)) (.last (.name 1) (.val (.idx (.var 0) (.int 1))) .nil)
def d17_is_program : Fd := ⟨"is_program", 1, 2,
  (.cons (.ite (.or (.cons (.not (.val (.call 2 (.cons (.var 0) (.cons (.int 2) (.cons (.int 2) .nil)))))) (.cons (.not (.val (.call 12 (.cons (.idx (.var 0) (.int 0)) .nil)))) (.cons (.not (.val (.call 2 (.cons (.idx (.var 0) (.int 1)) (.cons (.int 1) (.cons (.glob "MOST_FUNCTIONS" (.int (12))) .nil)))))) .nil))))
  (.cons (.ret (.bl false))
  .nil)
  .nil)
  (.cons (.ret (.bi .all false (.cons d17_c0 .nil)))
  .nil))⟩
def d18_need_program : Fd := ⟨"need_program", 1, 1,
  (.cons (.ite (.not (.val (.call 17 (.cons (.var 0) .nil))))
  (.cons .never
  .nil)
  .nil)
  .nil)⟩
def d19_c0 : E :=
  .comp false [1, 2] (.var 2) (.last (.cons (.name 1) (.cons (.name 2) .nil)) (.val (.idx (.var 0) (.int 2))) .nil)
def d19_nexts_of : Fd := ⟨"nexts_of", 1, 3,
  (.cons (.ite (.val (.cmp .eq (.idx (.var 0) (.int 0)) (.str "give")))
  (.cons (.ret (.tup .nil))
  .nil)
  .nil)
  (.cons (.ite (.val (.cmp .eq (.idx (.var 0) (.int 0)) (.str "match")))
  (.cons (.ret (.bi .tuple false (.cons d19_c0 .nil)))
  .nil)
  .nil)
  (.cons (.ret (.ite (.val (.cmp .eq (.idx (.var 0) (.int 0)) (.str "less"))) (.slice false (.var 0) (.some (.int 3)) .none) (.slice false (.var 0) (.some (.neg (.int 1))) .none)))
  .nil)))⟩
def d20_is_token : Fd := ⟨"is_token", 1, 1,
  (.cons (.ret (.call 1 (.cons (.var 0) (.cons (.int 0) (.cons (.bin .sub false (.glob "TOKENS" (.int (16))) (.int 1)) .nil)))))
  .nil)⟩
def d21_is_deed : Fd := ⟨"is_deed", 1, 1,
  (.cons (.ite (.or (.cons (.not (.val (.call 2 (.cons (.var 0) (.cons (.int 2) (.cons (.int 3) .nil)))))) (.cons (.not (.val (.inst (.idx (.var 0) (.int 0)) .str))) .nil)))
  (.cons (.ret (.bl false))
  .nil)
  .nil)
  (.cons (.ite (.val (.cmp .eq (.idx (.var 0) (.int 0)) (.str "free")))
  (.cons (.ret (.andv (.cons (.cmp .eq (.bi .len false (.cons (.var 0) .nil)) (.int 3)) (.cons (.call 20 (.cons (.idx (.var 0) (.int 1)) .nil)) (.cons (.call 1 (.cons (.idx (.var 0) (.int 2)) (.cons (.int 0) (.cons (.glob "MOST_FIELDS" (.int (4))) .nil)))) .nil)))))
  .nil)
  .nil)
  (.cons (.ret (.andv (.cons (.cmp .eq (.bi .len false (.cons (.var 0) .nil)) (.int 2)) (.cons (.cmp .isin (.idx (.var 0) (.int 0)) (.tup (.cons (.str "hold") (.cons (.str "drop") .nil)))) (.cons (.call 7 (.cons (.idx (.var 0) (.int 1)) .nil)) .nil)))))
  .nil)))⟩
def d22_c0 : E :=
  .comp false [1] (.call 21 (.cons (.var 1) .nil)) (.last (.name 1) (.val (.var 0)) .nil)
def d22_is_deeds : Fd := ⟨"is_deeds", 1, 2,
  (.cons (.ret (.andv (.cons (.call 2 (.cons (.var 0) (.cons (.int 0) (.cons (.glob "MOST_DEEDS" (.int (60))) .nil)))) (.cons (.bi .all false (.cons d22_c0 .nil)) .nil))))
  .nil)⟩
def d23_c0 : E :=
  .comp false [3] (.call 22 (.cons (.var 3) .nil)) (.last (.name 3) (.val (.idx (.var 1) (.int 2))) .nil)
def d23_fits_row : Fd := ⟨"fits_row", 2, 4,
  (.cons (.ite (.or (.cons (.not (.val (.call 2 (.cons (.var 1) (.cons (.int 3) (.cons (.int 3) .nil)))))) (.cons (.not (.val (.call 22 (.cons (.idx (.var 1) (.int 0)) .nil)))) .nil)))
  (.cons (.ret (.bl false))
  .nil)
  .nil)
  (.cons (.ite (.and (.cons (.val (.notN (.idx (.var 1) (.int 1)))) (.cons (.or (.cons (.val (.cmp .notin (.idx (.var 0) (.int 0)) (.tup (.cons (.str "make") (.cons (.str "match") .nil))))) (.cons (.not (.val (.call 20 (.cons (.idx (.var 1) (.int 1)) .nil)))) .nil))) .nil)))
  (.cons (.ret (.bl false))
  .nil)
  .nil)
  (.cons (.set 2 (.bi .len false (.cons (.call 19 (.cons (.var 0) .nil)) .nil)))
  (.cons (.ret (.andv (.cons (.call 2 (.cons (.idx (.var 1) (.int 2)) (.cons (.var 2) (.cons (.var 2) .nil)))) (.cons (.bi .all false (.cons d23_c0 .nil)) .nil))))
  .nil))))⟩
def d24_c0 : E :=
  .comp false [2, 3] (.call 23 (.cons (.var 2) (.cons (.var 3) .nil))) (.last (.cons (.name 2) (.cons (.name 3) .nil)) (.zip (.var 0) (.idx (.var 1) (.int 1))) .nil)
def d24_fits_function : Fd := ⟨"fits_function", 2, 4,
  (.cons (.ite (.or (.cons (.not (.val (.call 2 (.cons (.var 1) (.cons (.int 2) (.cons (.int 2) .nil)))))) (.cons (.not (.val (.call 22 (.cons (.idx (.var 1) (.int 0)) .nil)))) (.cons (.not (.val (.call 2 (.cons (.idx (.var 1) (.int 1)) (.cons (.bi .len false (.cons (.var 0) .nil)) (.cons (.bi .len false (.cons (.var 0) .nil)) .nil)))))) .nil))))
  (.cons (.ret (.bl false))
  .nil)
  .nil)
  (.cons (.ret (.bi .all false (.cons d24_c0 .nil)))
  .nil))⟩
def d25_c0 : E :=
  .comp false [2, 3] (.call 24 (.cons (.idx (.var 2) (.int 3)) (.cons (.var 3) .nil))) (.last (.cons (.name 2) (.cons (.name 3) .nil)) (.zip (.idx (.var 0) (.int 1)) (.var 1)) .nil)
def d25_fits : Fd := ⟨"fits", 2, 4,
  (.cons (.ite (.not (.val (.call 2 (.cons (.var 1) (.cons (.bi .len false (.cons (.idx (.var 0) (.int 1)) .nil)) (.cons (.bi .len false (.cons (.idx (.var 0) (.int 1)) .nil)) .nil))))))
  (.cons (.ret (.bl false))
  .nil)
  .nil)
  (.cons (.ret (.bi .all false (.cons d25_c0 .nil)))
  .nil))⟩
def d26_need_placing : Fd := ⟨"need_placing", 2, 2,
  (.cons (.ite (.not (.val (.call 25 (.cons (.var 0) (.cons (.var 1) .nil)))))
  (.cons .never
  .nil)
  .nil)
  .nil)⟩
def d27_b0 : Ss :=
  (.cons (.ite (.val (.cmp .gt (.var 2) (.int 0)))
  (.cons (.expr (.me .append (.var 1) (.cons (.str ",") .nil)))
  .nil)
  .nil)
  (.cons (.expr (.me .append (.var 1) (.cons (.var 3) .nil)))
  .nil))
def d27_l1 : S :=
  .for (.cons (.name 2) (.cons (.name 3) .nil)) (.enum (.var 0)) d27_b0
def d27_bracket_words : Fd := ⟨"bracket_words", 1, 4,
  (.cons (.set 1 (.list true (.cons (.str "(") .nil)))
  (.cons d27_l1
  (.cons (.frz 1)
  (.cons (.ret (.bin .add false (.var 1) (.list false (.cons (.str ")") .nil))))
  .nil))))⟩
def d28_c0 : E :=
  .comp false [1] (.fstr (.cons (.str "r") (.cons (.fmt (.var 1)) .nil))) (.last (.name 1) (.val (.var 0)) .nil)
def d28_register_words : Fd := ⟨"register_words", 1, 2,
  (.cons (.ret (.call 27 (.cons d28_c0 .nil)))
  .nil)⟩
def d29_b0 : Ss :=
  (.cons (.ite (.val (.cmp .eq (.idx (.var 2) (.int 0)) (.str "free")))
  (.cons (.expr (.me .extend (.var 1) (.cons (.list false (.cons (.str "free") (.cons (.fstr (.cons (.str "t") (.cons (.fmt (.idx (.var 2) (.int 1))) .nil))) (.cons (.str ":") (.cons (.bi .str false (.cons (.idx (.var 2) (.int 2)) .nil)) .nil))))) .nil)))
  .nil)
  (.cons (.expr (.me .extend (.var 1) (.cons (.list false (.cons (.idx (.var 2) (.int 0)) (.cons (.fstr (.cons (.str "r") (.cons (.fmt (.idx (.var 2) (.int 1))) .nil))) .nil))) .nil)))
  .nil))
  .nil)
def d29_l1 : S :=
  .for (.name 2) (.val (.var 0)) d29_b0
def d29_deed_words : Fd := ⟨"deed_words", 1, 3,
  (.cons (.set 1 (.list true (.cons (.str "{") .nil)))
  (.cons d29_l1
  (.cons (.frz 1)
  (.cons (.ret (.bin .add true (.var 1) (.list false (.cons (.str "}") .nil))))
  .nil))))⟩
def d30_next_words : Fd := ⟨"next_words", 2, 2,
  (.cons (.ret (.bin .add false (.bin .add false (.list false (.cons (.str "->") .nil)) (.ite (.val (.cmp .ne (.var 1) (.tup .nil))) (.call 29 (.cons (.var 1) .nil)) (.list false .nil))) (.list false (.cons (.bi .str false (.cons (.var 0) .nil)) .nil))))
  .nil)⟩
def d31_b0 : Ss :=
  (.cons (.ite (.val (.cmp .gt (.var 4) (.int 0)))
  (.cons (.expr (.me .append (.var 3) (.cons (.str ",") .nil)))
  .nil)
  .nil)
  (.cons (.expr (.me .extend (.var 3) (.cons (.bin .add false (.call 28 (.cons (.var 5) .nil)) (.call 30 (.cons (.var 6) (.cons (.idx (.var 2) (.var 4)) .nil)))) .nil)))
  .nil))
def d31_l1 : S :=
  .for (.cons (.name 4) (.cons (.cons (.name 5) (.cons (.name 6) .nil)) .nil)) (.enum (.idx (.var 0) (.int 2))) d31_b0
def d31_case_words : Fd := ⟨"case_words", 3, 7,
  (.cons (.set 3 (.list true (.cons (.str "case") (.cons (.fstr (.cons (.str "r") (.cons (.fmt (.idx (.var 0) (.int 1))) .nil))) .nil))))
  (.cons (.ite (.val (.notN (.var 1)))
  (.cons (.expr (.me .extend (.var 3) (.cons (.list false (.cons (.str "into") (.cons (.fstr (.cons (.str "t") (.cons (.fmt (.var 1)) .nil))) .nil))) .nil)))
  .nil)
  .nil)
  (.cons d31_l1
  (.cons (.frz 3)
  (.cons (.ret (.var 3))
  .nil)))))⟩
def d32_setting_words : Fd := ⟨"setting_words", 2, 4,
  (.cons (.set 2 (.idx (.var 0) (.int 0)))
  (.cons (.set 3 (.list true (.cons (.fstr (.cons (.str "r") (.cons (.fmt (.idx (.var 0) (.int 1))) .nil))) (.cons (.str "=") .nil))))
  (.cons (.ite (.val (.cmp .eq (.var 2) (.str "number")))
  (.cons (.ret (.bin .add false (.var 3) (.list false (.cons (.bi .str false (.cons (.idx (.var 0) (.int 2)) .nil)) .nil))))
  .nil)
  .nil)
  (.cons (.ite (.val (.cmp .isin (.var 2) (.tup (.cons (.str "add") (.cons (.str "sub") .nil)))))
  (.cons (.ret (.bin .add false (.var 3) (.list false (.cons (.fstr (.cons (.str "r") (.cons (.fmt (.idx (.var 0) (.int 2))) .nil))) (.cons (.ite (.val (.cmp .eq (.var 2) (.str "add"))) (.str "+") (.str "-")) (.cons (.fstr (.cons (.str "r") (.cons (.fmt (.idx (.var 0) (.int 3))) .nil))) .nil))))))
  .nil)
  .nil)
  (.cons (.expr (.me .append (.var 3) (.cons (.idx (.var 0) (.int 2)) .nil)))
  (.cons (.expr (.me .extend (.var 3) (.cons (.call 28 (.cons (.idx (.var 0) (.int 3)) .nil)) .nil)))
  (.cons (.frz 3)
  (.cons (.ret (.ite (.val (.notN (.var 1))) (.bin .add false (.var 3) (.list false (.cons (.str "in") (.cons (.fstr (.cons (.str "t") (.cons (.fmt (.var 1)) .nil))) .nil)))) (.var 3)))
  .nil))))))))⟩
def d33_row_words : Fd := ⟨"row_words", 2, 6,
  (.cons (.asg (.cons (.name 2) (.cons (.name 3) (.cons (.name 4) .nil))) (.var 1))
  (.cons (.set 5 (.ite (.val (.cmp .ne (.var 2) (.tup .nil))) (.call 29 (.cons (.var 2) .nil)) (.list true .nil)))
  (.cons (.ite (.val (.cmp .eq (.idx (.var 0) (.int 0)) (.str "give")))
  (.cons (.expr (.me .extend (.var 5) (.cons (.list false (.cons (.str "give") (.cons (.fstr (.cons (.str "r") (.cons (.fmt (.idx (.var 0) (.int 1))) .nil))) .nil))) .nil)))
  .nil)
  (.cons (.ite (.val (.cmp .eq (.idx (.var 0) (.int 0)) (.str "match")))
  (.cons (.expr (.me .extend (.var 5) (.cons (.call 31 (.cons (.var 0) (.cons (.var 3) (.cons (.var 4) .nil)))) .nil)))
  .nil)
  (.cons (.ite (.val (.cmp .eq (.idx (.var 0) (.int 0)) (.str "less")))
  (.cons (.expr (.me .extend (.var 5) (.cons (.list false (.cons (.fstr (.cons (.str "r") (.cons (.fmt (.idx (.var 0) (.int 1))) .nil))) (.cons (.str "<") (.cons (.fstr (.cons (.str "r") (.cons (.fmt (.idx (.var 0) (.int 2))) .nil))) .nil)))) .nil)))
  (.cons (.expr (.me .extend (.var 5) (.cons (.bin .add false (.bin .add false (.call 30 (.cons (.idx (.var 0) (.int 3)) (.cons (.idx (.var 4) (.int 0)) .nil))) (.list false (.cons (.str ",") .nil))) (.call 30 (.cons (.idx (.var 0) (.int 4)) (.cons (.idx (.var 4) (.int 1)) .nil)))) .nil)))
  .nil))
  (.cons (.expr (.me .extend (.var 5) (.cons (.bin .add false (.call 32 (.cons (.var 0) (.cons (.var 3) .nil))) (.call 30 (.cons (.idx (.var 0) (.neg (.int 1))) (.cons (.idx (.var 4) (.int 0)) .nil)))) .nil)))
  .nil))
  .nil))
  .nil))
  (.cons (.frz 5)
  (.cons (.ret (.bin .add false (.var 5) (.list false (.cons (.str ";") .nil))))
  .nil)))))⟩
def d34_b0 : Ss :=
  (.cons (.expr (.me .extend (.var 2) (.cons (.bin .add false (.list false (.cons (.var 5) .nil)) (.call 27 (.cons (.var 6) .nil))) .nil)))
  .nil)
def d34_l1 : S :=
  .for (.cons (.name 5) (.cons (.name 6) .nil)) (.val (.var 4)) d34_b0
def d34_b2 : Ss :=
  (.cons (.expr (.me .extend (.var 2) (.cons (.list false (.cons (.str "kind") (.cons (.var 3) (.cons (.str "{") .nil)))) .nil)))
  (.cons d34_l1
  (.cons (.expr (.me .append (.var 2) (.cons (.str "}") .nil)))
  .nil)))
def d34_l3 : S :=
  .for (.cons (.name 3) (.cons (.name 4) .nil)) (.val (.idx (.var 0) (.int 0))) d34_b2
def d34_b4 : Ss :=
  (.cons (.expr (.me .extend (.var 2) (.cons (.call 33 (.cons (.var 12) (.cons (.var 13) .nil))) .nil)))
  .nil)
def d34_l5 : S :=
  .for (.cons (.name 12) (.cons (.name 13) .nil)) (.zip (.var 9) (.var 11)) d34_b4
def d34_b6 : Ss :=
  (.cons (.expr (.me .extend (.var 2) (.cons (.bin .add false (.bin .add false (.list false (.cons (.str "fun") (.cons (.var 3) .nil))) (.call 27 (.cons (.var 7) .nil))) (.list false (.cons (.var 8) (.cons (.str "{") .nil)))) .nil)))
  (.cons (.ite (.val (.cmp .ne (.var 10) (.tup .nil)))
  (.cons (.expr (.me .extend (.var 2) (.cons (.bin .add false (.bin .add false (.list false (.cons (.str "entry") .nil)) (.call 29 (.cons (.var 10) .nil))) (.list false (.cons (.str ";") .nil))) .nil)))
  .nil)
  .nil)
  (.cons d34_l5
  (.cons (.expr (.me .append (.var 2) (.cons (.str "}") .nil)))
  .nil))))
def d34_l7 : S :=
  .for (.cons (.cons (.name 3) (.cons (.name 7) (.cons (.name 8) (.cons (.name 9) .nil)))) (.cons (.cons (.name 10) (.cons (.name 11) .nil)) .nil)) (.zip (.idx (.var 0) (.int 1)) (.var 1)) d34_b6
def d34_write_text : Fd := ⟨"write_text", 2, 14,
  (.cons (.expr (.call 18 (.cons (.var 0) .nil)))
  (.cons (.expr (.call 26 (.cons (.var 0) (.cons (.var 1) .nil))))
  (.cons (.set 2 (.list true .nil))
  (.cons d34_l3
  (.cons d34_l7
  (.cons (.frz 2)
  (.cons (.ret (.me .join (.str " ") (.cons (.var 2) .nil)))
  .nil)))))))⟩
def d35_law_well : Fd := ⟨"_law_well", 2, 2,
  (.cons (.ret (.list true (.cons (.int 0) (.cons (.var 1) (.cons (.bi .list false (.cons (.var 0) .nil)) (.cons (.int 0) .nil))))))
  .nil)⟩
def d36_law_draw : Fd := ⟨"_law_draw", 2, 5,
  (.cons (.set 2 (.idx (.var 0) (.int 2)))
  (.cons (.ite (.val (.cmp .eq (.idx (.var 0) (.int 0)) (.int 0)))
  (.cons (.set 3 (.int 7))
  (.cons (.ite (.val (.cmp .lt (.idx (.var 0) (.int 1)) (.bi .len false (.cons (.var 2) .nil))))
  (.cons (.set 3 (.bi .abs false (.cons (.idx (.var 2) (.idx (.var 0) (.int 1))) .nil)))
  .nil)
  .nil)
  (.cons (.ite (.val (.cmp .lt (.var 3) (.bin .pow false (.int 10) (.int 18))))
  (.cons (.set 3 (.bin .add false (.bin .add false (.bin .add false (.bin .mul false (.var 3) (.int 1000003)) (.bin .mul false (.idx (.var 0) (.int 1)) (.int 7919))) (.int 12347)) (.bin .mul false (.idx (.var 0) (.int 3)) (.int 613))))
  (.cons (.set 3 (.bin .add false (.bin .mul false (.bin .fdiv false (.bin .mul false (.var 3) (.var 3)) (.int 97)) (.int 48271)) (.var 3)))
  .nil))
  .nil)
  (.cons (.seti (.var 0) (.int 0) (.var 3))
  (.cons (.augi (.var 0) (.int 1) .add (.int 1))
  (.cons (.augi (.var 0) (.int 3) .add (.int 1))
  .nil))))))
  .nil)
  (.cons (.set 4 (.bin .mod false (.bi .int false (.cons (.idx (.var 0) (.int 0)) .nil)) (.var 1)))
  (.cons (.seti (.var 0) (.int 0) (.bin .fdiv false (.idx (.var 0) (.int 0)) (.var 1)))
  (.cons (.ret (.var 4))
  .nil)))))⟩
def d37_b0 : Ss :=
  (.cons (.set 4 (.bin .add false (.var 4) (.idx (.var 2) (.call 36 (.cons (.var 0) (.cons (.int 62) .nil))))))
  .nil)
def d37_l1 : S :=
  .for (.name 5) (.range1 (.idx (.list false (.cons (.int 0) (.cons (.int 1) (.cons (.int 2) (.cons (.int 4) (.cons (.int 9) .nil)))))) (.call 36 (.cons (.var 0) (.cons (.int 5) .nil))))) d37_b0
def d37_c2 : E :=
  .comp false [6] (.cmp .isin (.var 6) (.str "0123456789")) (.last (.name 6) (.val (.slice false (.var 4) (.some (.int 1)) .none)) .nil)
def d37_law_plain : Fd := ⟨"_law_plain", 2, 7,
  (.cons (.set 2 (.str "abcdefghijklmnopqrstuvwxyzABCDEFGHIJKLMNOPQRSTUVWXYZ0123456789"))
  (.cons (.set 3 (.list false (.cons (.str "rx") (.cons (.str "r1x") (.cons (.str "t0b") (.cons (.str "into1") (.cons (.str "inn") (.cons (.str "caseA") (.cons (.str "numbers") (.cons (.str "fun2") (.cons (.str "holdr1") (.cons (.str "entry0") (.cons (.str "kindA") (.cons (.str "tt") (.cons (.str "r0t0") .nil)))))))))))))))
  (.cons (.ite (.val (.cmp .eq (.idx (.var 1) (.int 0)) (.str "A")))
  (.cons (.set 3 (.list false (.cons (.str "Kind") (.cons (.str "Number") (.cons (.str "R1") (.cons (.str "T0") (.cons (.str "Case") (.cons (.str "In") (.cons (.str "R") (.cons (.str "T") (.cons (.str "Hold") (.cons (.str "Entry") (.cons (.str "R31") .nil)))))))))))))
  .nil)
  .nil)
  (.cons (.ite (.val (.cmp .eq (.call 36 (.cons (.var 0) (.cons (.int 6) .nil))) (.int 0)))
  (.cons (.ret (.idx (.var 3) (.call 36 (.cons (.var 0) (.cons (.bi .len false (.cons (.var 3) .nil)) .nil)))))
  .nil)
  .nil)
  (.cons (.set 4 (.idx (.var 1) (.call 36 (.cons (.var 0) (.cons (.int 26) .nil)))))
  (.cons d37_l1
  (.cons (.ite (.val (.cmp .isin (.var 4) (.tup (.cons (.str "case") (.cons (.str "drop") (.cons (.str "entry") (.cons (.str "free") (.cons (.str "fun") (.cons (.str "give") (.cons (.str "hold") (.cons (.str "in") (.cons (.str "into") (.cons (.str "kind") (.cons (.str "number") .nil))))))))))))))
  (.cons (.ret (.bin .add false (.var 4) (.str "x")))
  .nil)
  .nil)
  (.cons (.ite (.and (.cons (.val (.cmp .isin (.idx (.var 4) (.int 0)) (.str "rt"))) (.cons (.val (.bi .all false (.cons d37_c2 .nil))) .nil)))
  (.cons (.ret (.bin .add false (.str "f") (.slice false (.var 4) (.some (.int 1)) .none)))
  .nil)
  .nil)
  (.cons (.ret (.var 4))
  .nil)))))))))⟩
def d38_c0 : E :=
  .comp false [3] (.bin .add false (.slice false (.var 2) .none (.some (.int 8))) (.bi .str false (.cons (.var 3) .nil))) (.last (.name 3) (.range1 (.int 100)) (.cons (.val (.cmp .notin (.bin .add false (.slice false (.var 2) .none (.some (.int 8))) (.bi .str false (.cons (.var 3) .nil))) (.var 1))) .nil))
def d38_law_unlike : Fd := ⟨"_law_unlike", 2, 4,
  (.cons (.set 2 (.call 37 (.cons (.var 0) (.cons (.str "ABCDEFGHIJKLMNOPQRSTUVWXYZ") .nil))))
  (.cons (.ite (.val (.cmp .isin (.var 2) (.var 1)))
  (.cons (.set 2 (.idx d38_c0 (.int 0)))
  .nil)
  .nil)
  (.cons (.expr (.me .append (.var 1) (.cons (.var 2) .nil)))
  (.cons (.ret (.var 2))
  .nil))))⟩
def d39_b0 : Ss :=
  (.cons (.expr (.call 38 (.cons (.var 0) (.cons (.var 1) .nil))))
  .nil)
def d39_l1 : S :=
  .for (.name 2) (.range1 (.idx (.list false (.cons (.int 1) (.cons (.int 1) (.cons (.int 2) (.cons (.int 3) (.cons (.int 6) .nil)))))) (.call 36 (.cons (.var 0) (.cons (.int 5) .nil))))) d39_b0
def d39_c2 : E :=
  .comp false [9] (.idx (.var 7) (.call 36 (.cons (.var 0) (.cons (.bi .len false (.cons (.var 7) .nil)) .nil)))) (.last (.name 9) (.range1 (.call 36 (.cons (.var 0) (.cons (.int 5) .nil)))) .nil)
def d39_b3 : Ss :=
  (.cons (.set 7 (.bin .add false (.list false (.cons (.str "number") .nil)) (.var 1)))
  (.cons (.set 8 d39_c2)
  (.cons (.expr (.me .append (.var 6) (.cons (.tup (.cons (.call 38 (.cons (.var 0) (.cons (.var 3) .nil))) (.cons (.bi .tuple false (.cons (.var 8) .nil)) .nil))) .nil)))
  .nil)))
def d39_l4 : S :=
  .for (.name 2) (.range1 (.idx (.list false (.cons (.int 1) (.cons (.int 2) (.cons (.int 3) (.cons (.int 6) .nil))))) (.call 36 (.cons (.var 0) (.cons (.int 4) .nil))))) d39_b3
def d39_b5 : Ss :=
  (.cons (.set 6 (.list true .nil))
  (.cons d39_l4
  (.cons (.frz 6)
  (.cons (.expr (.me .append (.var 4) (.cons (.tup (.cons (.var 5) (.cons (.bi .tuple false (.cons (.var 6) .nil)) .nil))) .nil)))
  .nil))))
def d39_l6 : S :=
  .for (.name 5) (.val (.var 1)) d39_b5
def d39_law_any_kinds : Fd := ⟨"_law_any_kinds", 1, 10,
  (.cons (.set 1 (.list true .nil))
  (.cons d39_l1
  (.cons (.frz 1)
  (.cons (.set 3 (.list true .nil))
  (.cons (.set 4 (.list true .nil))
  (.cons d39_l6
  (.cons (.frz 4)
  (.cons (.ret (.bi .tuple false (.cons (.var 4) .nil)))
  .nil))))))))⟩
def d40_b0 : Ss :=
  (.cons (.set 4 (.call 36 (.cons (.var 0) (.cons (.int 32) .nil))))
  (.cons (.expr (.me .append (.var 2) (.cons (.idx (.list false (.cons (.tup (.cons (.str "hold") (.cons (.var 4) .nil))) (.cons (.tup (.cons (.str "drop") (.cons (.var 4) .nil))) (.cons (.tup (.cons (.str "free") (.cons (.bin .fdiv false (.var 4) (.int 2)) (.cons (.call 36 (.cons (.var 0) (.cons (.int 5) .nil))) .nil)))) .nil)))) (.call 36 (.cons (.var 0) (.cons (.int 3) .nil)))) .nil)))
  .nil))
def d40_l1 : S :=
  .for (.name 3) (.range1 (.idx (.list false (.cons (.int 0) (.cons (.int 0) (.cons (.int 1) (.cons (.int 2) (.cons (.int 3) .nil)))))) (.call 36 (.cons (.var 0) (.cons (.int 5) .nil))))) d40_b0
def d40_law_any_deeds : Fd := ⟨"_law_any_deeds", 2, 5,
  (.cons (.set 2 (.list true .nil))
  (.cons d40_l1
  (.cons (.ite (.and (.cons (.val (.var 1)) (.cons (.val (.cmp .eq (.bi .len false (.cons (.var 2) .nil)) (.int 3))) (.cons (.val (.cmp .eq (.call 36 (.cons (.var 0) (.cons (.int 6) .nil))) (.int 0))) .nil))))
  (.cons (.set 2 (.bin .mul true (.var 2) (.int 20)))
  .nil)
  .nil)
  (.cons (.frz 2)
  (.cons (.ret (.bi .tuple false (.cons (.var 2) .nil)))
  .nil)))))⟩
def d41_c0 : E :=
  .comp false [2] (.call 36 (.cons (.var 0) (.cons (.int 32) .nil))) (.last (.name 2) (.range1 (.call 36 (.cons (.var 0) (.cons (.bin .add false (.var 1) (.int 1)) .nil)))) .nil)
def d41_law_any_registers : Fd := ⟨"_law_any_registers", 2, 3,
  (.cons (.ret (.bi .tuple false (.cons d41_c0 .nil)))
  .nil)⟩
def d42_c0 : E :=
  .comp false [11] (.tup (.cons (.call 41 (.cons (.var 0) (.cons (.int 4) .nil))) (.cons (.call 36 (.cons (.var 0) (.cons (.int 60) .nil))) .nil))) (.last (.name 11) (.range1 (.bin .add false (.int 1) (.call 36 (.cons (.var 0) (.cons (.int 6) .nil))))) .nil)
def d42_c1 : E :=
  .comp false [12] (.call 40 (.cons (.var 0) (.cons (.bl false) .nil))) (.last (.name 12) (.val (.var 10)) .nil)
def d42_law_any_row : Fd := ⟨"_law_any_row", 1, 13,
  (.cons (.set 1 (.call 40 (.cons (.var 0) (.cons (.bl true) .nil))))
  (.cons (.set 2 (.call 36 (.cons (.var 0) (.cons (.int 32) .nil))))
  (.cons (.set 3 (.call 36 (.cons (.var 0) (.cons (.int 32) .nil))))
  (.cons (.set 4 (.call 36 (.cons (.var 0) (.cons (.int 60) .nil))))
  (.cons (.set 5 (.tup (.cons (.call 40 (.cons (.var 0) (.cons (.cmp .eq (.var 1) (.tup .nil)) .nil))) .nil)))
  (.cons (.set 6 (.call 36 (.cons (.var 0) (.cons (.int 8) .nil))))
  (.cons (.set 7 (.idx (.list false (.cons .non (.cons (.call 36 (.cons (.var 0) (.cons (.int 16) .nil))) .nil))) (.call 36 (.cons (.var 0) (.cons (.int 2) .nil)))))
  (.cons (.ite (.val (.cmp .eq (.var 6) (.int 0)))
  (.cons (.set 8 (.idx (.list false (.cons (.int 0) (.cons (.neg (.int 1)) (.cons (.bin .pow false (.int 10) (.int 12)) (.cons (.neg (.bin .pow false (.int 10) (.int 12))) (.cons (.int 7) (.cons (.bin .sub false (.call 36 (.cons (.var 0) (.cons (.bin .add false (.bin .mul false (.int 2) (.bin .pow false (.int 10) (.int 12))) (.int 1)) .nil))) (.bin .pow false (.int 10) (.int 12))) .nil))))))) (.call 36 (.cons (.var 0) (.cons (.int 6) .nil)))))
  (.cons (.ret (.list false (.cons (.tup (.cons (.str "number") (.cons (.var 2) (.cons (.var 8) (.cons (.var 4) .nil))))) (.cons (.tup (.cons (.var 1) (.cons .non (.cons (.var 5) .nil)))) .nil))))
  .nil))
  .nil)
  (.cons (.ite (.val (.cmp .isin (.var 6) (.tup (.cons (.int 1) (.cons (.int 2) .nil)))))
  (.cons (.ret (.list false (.cons (.tup (.cons (.idx (.list false (.cons (.str "add") (.cons (.str "sub") .nil))) (.bin .sub false (.var 6) (.int 1))) (.cons (.var 2) (.cons (.var 3) (.cons (.call 36 (.cons (.var 0) (.cons (.int 32) .nil))) (.cons (.var 4) .nil)))))) (.cons (.tup (.cons (.var 1) (.cons .non (.cons (.var 5) .nil)))) .nil))))
  .nil)
  .nil)
  (.cons (.ite (.val (.cmp .eq (.var 6) (.int 3)))
  (.cons (.ret (.list false (.cons (.tup (.cons (.str "less") (.cons (.var 2) (.cons (.var 3) (.cons (.var 4) (.cons (.call 36 (.cons (.var 0) (.cons (.int 60) .nil))) .nil)))))) (.cons (.tup (.cons (.var 1) (.cons .non (.cons (.bin .add false (.var 5) (.tup (.cons (.call 40 (.cons (.var 0) (.cons (.bl false) .nil))) .nil))) .nil)))) .nil))))
  .nil)
  .nil)
  (.cons (.ite (.val (.cmp .eq (.var 6) (.int 4)))
  (.cons (.set 9 (.call 37 (.cons (.var 0) (.cons (.str "ABCDEFGHIJKLMNOPQRSTUVWXYZ") .nil))))
  (.cons (.ret (.list false (.cons (.tup (.cons (.str "make") (.cons (.var 2) (.cons (.var 9) (.cons (.call 41 (.cons (.var 0) (.cons (.int 4) .nil))) (.cons (.var 4) .nil)))))) (.cons (.tup (.cons (.var 1) (.cons (.var 7) (.cons (.var 5) .nil)))) .nil))))
  .nil))
  .nil)
  (.cons (.ite (.val (.cmp .eq (.var 6) (.int 5)))
  (.cons (.set 9 (.call 37 (.cons (.var 0) (.cons (.str "abcdefghijklmnopqrstuvwxyz") .nil))))
  (.cons (.ret (.list false (.cons (.tup (.cons (.str "call") (.cons (.var 2) (.cons (.var 9) (.cons (.call 41 (.cons (.var 0) (.cons (.int 8) .nil))) (.cons (.var 4) .nil)))))) (.cons (.tup (.cons (.var 1) (.cons .non (.cons (.var 5) .nil)))) .nil))))
  .nil))
  .nil)
  (.cons (.ite (.val (.cmp .eq (.var 6) (.int 6)))
  (.cons (.ret (.list false (.cons (.tup (.cons (.str "give") (.cons (.var 2) .nil))) (.cons (.tup (.cons (.var 1) (.cons .non (.cons (.tup .nil) .nil)))) .nil))))
  .nil)
  .nil)
  (.cons (.set 10 d42_c0)
  (.cons (.ret (.list false (.cons (.tup (.cons (.str "match") (.cons (.var 2) (.cons (.bi .tuple false (.cons (.var 10) .nil)) .nil)))) (.cons (.tup (.cons (.var 1) (.cons (.var 7) (.cons (.bi .tuple false (.cons d42_c1 .nil)) .nil)))) .nil))))
  .nil)))))))))))))))⟩
def d43_c0 : E :=
  .comp false [6, 9] (.var 6) (.last (.cons (.name 6) (.cons (.name 9) .nil)) (.val (.var 1)) .nil)
def d43_c1 : E :=
  .comp false [10] (.idx (.var 2) (.call 36 (.cons (.var 0) (.cons (.bi .len false (.cons (.var 2) .nil)) .nil)))) (.last (.name 10) (.range1 (.call 36 (.cons (.var 0) (.cons (.int 9) .nil)))) .nil)
def d43_c2 : E :=
  .comp false [10] (.call 42 (.cons (.var 0) .nil)) (.last (.name 10) (.range1 (.bin .add false (.int 1) (.call 36 (.cons (.var 0) (.cons (.int 5) .nil))))) .nil)
def d43_c3 : E :=
  .comp false [11, 12] (.bi .len false (.cons (.idx (.var 12) (.int 0)) .nil)) (.last (.cons (.name 11) (.cons (.name 12) .nil)) (.val (.var 8)) .nil)
def d43_c4 : E :=
  .comp false [11, 12] (.var 11) (.last (.cons (.name 11) (.cons (.name 12) .nil)) (.val (.var 8)) .nil)
def d43_c5 : E :=
  .comp false [11, 12] (.var 12) (.last (.cons (.name 11) (.cons (.name 12) .nil)) (.val (.var 8)) .nil)
def d43_b6 : Ss :=
  (.cons (.set 6 (.call 37 (.cons (.var 0) (.cons (.str "abcdefghijklmnopqrstuvwxyz") .nil))))
  (.cons (.set 7 (.bi .tuple false (.cons d43_c1 .nil)))
  (.cons (.set 8 d43_c2)
  (.cons (.ite (.and (.cons (.val (.cmp .eq (.bi .len false (.cons (.var 8) .nil)) (.int 5))) (.cons (.val (.cmp .lt (.bi .max1 false (.cons d43_c3 .nil)) (.int 4))) (.cons (.val (.cmp .eq (.call 36 (.cons (.var 0) (.cons (.int 6) .nil))) (.int 0))) .nil))))
  (.cons (.set 8 (.bin .mul false (.var 8) (.int 12)))
  .nil)
  .nil)
  (.cons (.expr (.me .append (.var 3) (.cons (.tup (.cons (.var 6) (.cons (.var 7) (.cons (.idx (.var 2) (.call 36 (.cons (.var 0) (.cons (.bi .len false (.cons (.var 2) .nil)) .nil)))) (.cons (.bi .tuple false (.cons d43_c4 .nil)) .nil))))) .nil)))
  (.cons (.expr (.me .append (.var 4) (.cons (.tup (.cons (.call 40 (.cons (.var 0) (.cons (.bl true) .nil))) (.cons (.bi .tuple false (.cons d43_c5 .nil)) .nil))) .nil)))
  .nil))))))
def d43_l7 : S :=
  .for (.name 5) (.range1 (.idx (.list false (.cons (.int 1) (.cons (.int 1) (.cons (.int 2) (.cons (.int 3) .nil))))) (.call 36 (.cons (.var 0) (.cons (.int 4) .nil))))) d43_b6
def d43_c8 : E :=
  .comp false [13] (.bi .len false (.cons (.idx (.var 13) (.int 3)) .nil)) (.last (.name 13) (.val (.var 3)) .nil)
def d43_law_any : Fd := ⟨"_law_any", 1, 14,
  (.cons (.set 1 (.call 39 (.cons (.var 0) .nil)))
  (.cons (.set 2 (.bin .add false d43_c0 (.list false (.cons (.str "number") (.cons (.call 37 (.cons (.var 0) (.cons (.str "ABCDEFGHIJKLMNOPQRSTUVWXYZ") .nil))) .nil)))))
  (.cons (.set 3 (.list true .nil))
  (.cons (.set 4 (.list true .nil))
  (.cons d43_l7
  (.cons (.ite (.and (.cons (.val (.cmp .eq (.bi .len false (.cons (.var 3) .nil)) (.int 3))) (.cons (.val (.cmp .lt (.bi .max1 false (.cons d43_c8 .nil)) (.int 6))) (.cons (.val (.cmp .eq (.call 36 (.cons (.var 0) (.cons (.int 8) .nil))) (.int 0))) .nil))))
  (.cons (.set 3 (.bin .mul true (.var 3) (.int 4)))
  (.cons (.set 4 (.bin .mul true (.var 4) (.int 4)))
  .nil))
  .nil)
  (.cons (.frz 3)
  (.cons (.frz 4)
  (.cons (.ret (.list false (.cons (.tup (.cons (.var 1) (.cons (.bi .tuple false (.cons (.var 3) .nil)) .nil))) (.cons (.bi .tuple false (.cons (.var 4) .nil)) .nil))))
  .nil)))))))))⟩
def d44_law_brackets : Fd := ⟨"_law_brackets", 1, 1,
  (.cons (.ite (.val (.cmp .eq (.bi .len false (.cons (.var 0) .nil)) (.int 0)))
  (.cons (.ret (.str "( )"))
  .nil)
  .nil)
  (.cons (.ret (.bin .add false (.bin .add false (.str "( ") (.me .join (.str " , ") (.cons (.bi .list false (.cons (.var 0) .nil)) .nil))) (.str " )")))
  .nil))⟩
def d45_c0 : E :=
  .comp false [1] (.bin .add false (.str "r") (.bi .str false (.cons (.var 1) .nil))) (.last (.name 1) (.val (.var 0)) .nil)
def d45_law_registers : Fd := ⟨"_law_registers", 1, 2,
  (.cons (.ret (.call 44 (.cons d45_c0 .nil)))
  .nil)⟩
def d46_b0 : Ss :=
  (.cons (.ite (.val (.cmp .eq (.idx (.var 2) (.int 0)) (.str "free")))
  (.cons (.set 1 (.bin .add false (.bin .add false (.bin .add false (.bin .add false (.bin .add false (.var 1) (.str "free t")) (.bi .str false (.cons (.idx (.var 2) (.int 1)) .nil))) (.str " : ")) (.bi .str false (.cons (.idx (.var 2) (.int 2)) .nil))) (.str " ")))
  .nil)
  (.cons (.set 1 (.bin .add false (.bin .add false (.bin .add false (.bin .add false (.var 1) (.idx (.var 2) (.int 0))) (.str " r")) (.bi .str false (.cons (.idx (.var 2) (.int 1)) .nil))) (.str " ")))
  .nil))
  .nil)
def d46_l1 : S :=
  .for (.name 2) (.val (.var 0)) d46_b0
def d46_law_deeds_text : Fd := ⟨"_law_deeds_text", 1, 3,
  (.cons (.ite (.val (.cmp .eq (.var 0) (.tup .nil)))
  (.cons (.ret (.str ""))
  .nil)
  .nil)
  (.cons (.set 1 (.str "{ "))
  (.cons d46_l1
  (.cons (.ret (.bin .add false (.var 1) (.str "} ")))
  .nil))))⟩
def d47_law_next : Fd := ⟨"_law_next", 2, 2,
  (.cons (.ret (.bin .add false (.bin .add false (.str " -> ") (.call 46 (.cons (.var 1) .nil))) (.bi .str false (.cons (.var 0) .nil))))
  .nil)⟩
def d48_b0 : Ss :=
  (.cons (.expr (.me .append (.var 6) (.cons (.bin .add false (.bin .add false (.str " ") (.call 45 (.cons (.idx (.idx (.idx (.var 0) (.int 2)) (.var 7)) (.int 0)) .nil))) (.call 47 (.cons (.idx (.idx (.idx (.var 0) (.int 2)) (.var 7)) (.int 1)) (.cons (.idx (.var 4) (.var 7)) .nil)))) .nil)))
  .nil)
def d48_l1 : S :=
  .for (.name 7) (.range1 (.bi .len false (.cons (.idx (.var 0) (.int 2)) .nil))) d48_b0
def d48_law_row_text : Fd := ⟨"_law_row_text", 2, 8,
  (.cons (.asg (.cons (.name 2) (.cons (.name 3) (.cons (.name 4) .nil))) (.var 1))
  (.cons (.set 5 (.call 46 (.cons (.var 2) .nil)))
  (.cons (.ite (.val (.cmp .eq (.idx (.var 0) (.int 0)) (.str "give")))
  (.cons (.ret (.bin .add false (.bin .add false (.bin .add false (.var 5) (.str "give r")) (.bi .str false (.cons (.idx (.var 0) (.int 1)) .nil))) (.str " ;")))
  .nil)
  .nil)
  (.cons (.ite (.val (.cmp .eq (.idx (.var 0) (.int 0)) (.str "less")))
  (.cons (.set 5 (.bin .add false (.bin .add false (.bin .add false (.bin .add false (.bin .add false (.var 5) (.str "r")) (.bi .str false (.cons (.idx (.var 0) (.int 1)) .nil))) (.str " < r")) (.bi .str false (.cons (.idx (.var 0) (.int 2)) .nil))) (.call 47 (.cons (.idx (.var 0) (.int 3)) (.cons (.idx (.var 4) (.int 0)) .nil)))))
  (.cons (.ret (.bin .add false (.bin .add false (.bin .add false (.var 5) (.str " ,")) (.call 47 (.cons (.idx (.var 0) (.int 4)) (.cons (.idx (.var 4) (.int 1)) .nil)))) (.str " ;")))
  .nil))
  .nil)
  (.cons (.ite (.val (.cmp .eq (.idx (.var 0) (.int 0)) (.str "match")))
  (.cons (.set 5 (.bin .add false (.bin .add false (.var 5) (.str "case r")) (.bi .str false (.cons (.idx (.var 0) (.int 1)) .nil))))
  (.cons (.ite (.val (.notN (.var 3)))
  (.cons (.set 5 (.bin .add false (.bin .add false (.var 5) (.str " into t")) (.bi .str false (.cons (.var 3) .nil))))
  .nil)
  .nil)
  (.cons (.set 6 (.list true .nil))
  (.cons d48_l1
  (.cons (.frz 6)
  (.cons (.ret (.bin .add false (.bin .add false (.var 5) (.me .join (.str " ,") (.cons (.var 6) .nil))) (.str " ;")))
  .nil))))))
  .nil)
  (.cons (.set 5 (.bin .add false (.bin .add false (.bin .add false (.var 5) (.str "r")) (.bi .str false (.cons (.idx (.var 0) (.int 1)) .nil))) (.str " = ")))
  (.cons (.ite (.val (.cmp .eq (.idx (.var 0) (.int 0)) (.str "number")))
  (.cons (.set 5 (.bin .add false (.var 5) (.bi .str false (.cons (.idx (.var 0) (.int 2)) .nil))))
  .nil)
  (.cons (.ite (.val (.cmp .eq (.idx (.var 0) (.int 0)) (.str "add")))
  (.cons (.set 5 (.bin .add false (.bin .add false (.bin .add false (.bin .add false (.var 5) (.str "r")) (.bi .str false (.cons (.idx (.var 0) (.int 2)) .nil))) (.str " + r")) (.bi .str false (.cons (.idx (.var 0) (.int 3)) .nil))))
  .nil)
  (.cons (.ite (.val (.cmp .eq (.idx (.var 0) (.int 0)) (.str "sub")))
  (.cons (.set 5 (.bin .add false (.bin .add false (.bin .add false (.bin .add false (.var 5) (.str "r")) (.bi .str false (.cons (.idx (.var 0) (.int 2)) .nil))) (.str " - r")) (.bi .str false (.cons (.idx (.var 0) (.int 3)) .nil))))
  .nil)
  (.cons (.set 5 (.bin .add false (.bin .add false (.bin .add false (.var 5) (.idx (.var 0) (.int 2))) (.str " ")) (.call 45 (.cons (.idx (.var 0) (.int 3)) .nil))))
  .nil))
  .nil))
  .nil))
  (.cons (.ite (.val (.notN (.var 3)))
  (.cons (.set 5 (.bin .add false (.bin .add false (.var 5) (.str " in t")) (.bi .str false (.cons (.var 3) .nil))))
  .nil)
  .nil)
  (.cons (.ret (.bin .add false (.bin .add false (.var 5) (.call 47 (.cons (.idx (.var 0) (.bin .sub false (.bi .len false (.cons (.var 0) .nil)) (.int 1))) (.cons (.idx (.var 4) (.int 0)) .nil)))) (.str " ;")))
  .nil)))))))))⟩
def d49_b0 : Ss :=
  (.cons (.expr (.me .append (.var 2) (.cons (.bin .add false (.bin .add false (.var 5) (.str " ")) (.call 44 (.cons (.var 6) .nil))) .nil)))
  .nil)
def d49_l1 : S :=
  .for (.cons (.name 5) (.cons (.name 6) .nil)) (.val (.var 4)) d49_b0
def d49_b2 : Ss :=
  (.cons (.expr (.me .append (.var 2) (.cons (.bin .add false (.bin .add false (.str "kind ") (.var 3)) (.str " {")) .nil)))
  (.cons d49_l1
  (.cons (.expr (.me .append (.var 2) (.cons (.str "}") .nil)))
  .nil)))
def d49_l3 : S :=
  .for (.cons (.name 3) (.cons (.name 4) .nil)) (.val (.idx (.var 0) (.int 0))) d49_b2
def d49_b4 : Ss :=
  (.cons (.expr (.me .append (.var 2) (.cons (.call 48 (.cons (.idx (.var 10) (.var 13)) (.cons (.idx (.var 12) (.var 13)) .nil))) .nil)))
  .nil)
def d49_l5 : S :=
  .for (.name 13) (.range1 (.bi .len false (.cons (.var 10) .nil))) d49_b4
def d49_b6 : Ss :=
  (.cons (.asg (.cons (.name 3) (.cons (.name 8) (.cons (.name 9) (.cons (.name 10) .nil)))) (.idx (.idx (.var 0) (.int 1)) (.var 7)))
  (.cons (.asg (.cons (.name 11) (.cons (.name 12) .nil)) (.idx (.var 1) (.var 7)))
  (.cons (.expr (.me .append (.var 2) (.cons (.bin .add false (.bin .add false (.bin .add false (.bin .add false (.bin .add false (.bin .add false (.str "fun ") (.var 3)) (.str " ")) (.call 44 (.cons (.var 8) .nil))) (.str " ")) (.var 9)) (.str " {")) .nil)))
  (.cons (.ite (.val (.cmp .ne (.var 11) (.tup .nil)))
  (.cons (.expr (.me .append (.var 2) (.cons (.bin .add false (.bin .add false (.str "entry ") (.call 46 (.cons (.var 11) .nil))) (.str ";")) .nil)))
  .nil)
  .nil)
  (.cons d49_l5
  (.cons (.expr (.me .append (.var 2) (.cons (.str "}") .nil)))
  .nil))))))
def d49_l7 : S :=
  .for (.name 7) (.range1 (.bi .len false (.cons (.idx (.var 0) (.int 1)) .nil))) d49_b6
def d49_law_text : Fd := ⟨"_law_text", 2, 14,
  (.cons (.set 2 (.list true .nil))
  (.cons d49_l3
  (.cons d49_l7
  (.cons (.frz 2)
  (.cons (.ret (.me .join (.str " ") (.cons (.var 2) .nil)))
  .nil)))))⟩
def d50_law : Fd := ⟨"law", 1, 8,
  (.cons (.set 1 (.call 35 (.cons (.var 0) (.cons (.int 0) .nil))))
  (.cons (.asg (.cons (.name 2) (.cons (.name 3) .nil)) (.call 43 (.cons (.var 1) .nil)))
  (.cons (.asg (.cons (.name 4) (.cons (.name 5) .nil)) (.call 43 (.cons (.var 1) .nil)))
  (.cons (.set 6 (.call 49 (.cons (.var 2) (.cons (.var 3) .nil))))
  (.cons (.set 7 (.call 34 (.cons (.var 2) (.cons (.var 3) .nil))))
  (.cons (.ite (.or (.cons (.not (.val (.inst (.var 7) .str))) (.cons (.val (.cmp .ne (.var 7) (.var 6))) .nil)))
  (.cons (.ret (.bl false))
  .nil)
  .nil)
  (.cons (.ite (.val (.cmp .ne (.callK 34 [1, 0] (.cons (.var 5) (.cons (.var 4) .nil))) (.call 49 (.cons (.var 4) (.cons (.var 5) .nil)))))
  (.cons (.ret (.bl false))
  .nil)
  .nil)
  (.cons (.ret (.cmp .eq (.callK 34 [0, 1] (.cons (.var 2) (.cons (.var 3) .nil))) (.var 6)))
  .nil))))))))⟩
end J.G
namespace J.K30
open PySem J
/-- number, tree, slots, place in the top -/
def ds : List (Nat × Fd × List Str × Nat) := [(0, G.d0_is_int, [Str.ofString "thing"], 10),
  (1, G.d1_within, [Str.ofString "thing", Str.ofString "low", Str.ofString "high"], 11),
  (2, G.d2_is_row, [Str.ofString "thing", Str.ofString "low", Str.ofString "high"], 12),
  (3, G.d3_is_name, [Str.ofString "thing", Str.ofString "signs", Str.ofString "sign"], 13),
  (4, G.d4_is_low, [Str.ofString "thing"], 14),
  (5, G.d5_is_high, [Str.ofString "thing"], 15),
  (6, G.d6_is_number, [Str.ofString "thing"], 25),
  (7, G.d7_is_register, [Str.ofString "thing"], 26),
  (8, G.d8_is_registers, [Str.ofString "thing", Str.ofString "most", Str.ofString "entry"], 27),
  (9, G.d9_is_word, [Str.ofString "thing"], 28),
  (10, G.d10_is_maker, [Str.ofString "thing", Str.ofString "field"], 29),
  (11, G.d11_is_one_kind, [Str.ofString "thing", Str.ofString "maker"], 30),
  (12, G.d12_is_kinds, [Str.ofString "thing", Str.ofString "names", Str.ofString "titles", Str.ofString "words", Str.ofString "kind", Str.ofString "name", Str.ofString "makers", Str.ofString "title", Str.ofString "fields", Str.ofString "field", Str.ofString "word"], 31),
  (13, G.d13_is_next, [Str.ofString "thing"], 32),
  (14, G.d14_is_branch, [Str.ofString "thing"], 33),
  (15, G.d15_is_program_row, [Str.ofString "thing", Str.ofString "word", Str.ofString "one"], 34),
  (16, G.d16_is_function, [Str.ofString "thing", Str.ofString "param", Str.ofString "row"], 35),
  (17, G.d17_is_program, [Str.ofString "thing", Str.ofString "function"], 36),
  (18, G.d18_need_program, [Str.ofString "program"], 37),
  (19, G.d19_nexts_of, [Str.ofString "row", Str.ofString "lot", Str.ofString "following"], 38),
  (20, G.d20_is_token, [Str.ofString "thing"], 42),
  (21, G.d21_is_deed, [Str.ofString "thing"], 43),
  (22, G.d22_is_deeds, [Str.ofString "thing", Str.ofString "deed"], 44),
  (23, G.d23_fits_row, [Str.ofString "row", Str.ofString "thing", Str.ofString "many", Str.ofString "deeds"], 45),
  (24, G.d24_fits_function, [Str.ofString "rows", Str.ofString "thing", Str.ofString "row", Str.ofString "spots"], 46),
  (25, G.d25_fits, [Str.ofString "program", Str.ofString "thing", Str.ofString "function", Str.ofString "place"], 47),
  (26, G.d26_need_placing, [Str.ofString "program", Str.ofString "placing"], 48),
  (27, G.d27_bracket_words, [Str.ofString "entries", Str.ofString "words", Str.ofString "index", Str.ofString "entry"], 50),
  (28, G.d28_register_words, [Str.ofString "registers", Str.ofString "r"], 51),
  (29, G.d29_deed_words, [Str.ofString "deeds", Str.ofString "words", Str.ofString "deed"], 52),
  (30, G.d30_next_words, [Str.ofString "following", Str.ofString "deeds"], 53),
  (31, G.d31_case_words, [Str.ofString "row", Str.ofString "token", Str.ofString "edges", Str.ofString "words", Str.ofString "index", Str.ofString "lot", Str.ofString "following"], 54),
  (32, G.d32_setting_words, [Str.ofString "row", Str.ofString "token", Str.ofString "word", Str.ofString "words"], 55),
  (33, G.d33_row_words, [Str.ofString "row", Str.ofString "place", Str.ofString "before", Str.ofString "token", Str.ofString "edges", Str.ofString "words"], 56),
  (34, G.d34_write_text, [Str.ofString "program", Str.ofString "placing", Str.ofString "words", Str.ofString "name", Str.ofString "makers", Str.ofString "title", Str.ofString "fields", Str.ofString "params", Str.ofString "result", Str.ofString "rows", Str.ofString "entry", Str.ofString "places", Str.ofString "row", Str.ofString "place"], 57),
  (35, G.d35_law_well, [Str.ofString "script", Str.ofString "at"], 59),
  (36, G.d36_law_draw, [Str.ofString "well", Str.ofString "many", Str.ofString "cells", Str.ofString "cell", Str.ofString "got"], 60),
  (37, G.d37_law_plain, [Str.ofString "well", Str.ofString "letters", Str.ofString "signs", Str.ofString "near", Str.ofString "name", Str.ofString "k", Str.ofString "sign"], 61),
  (38, G.d38_law_unlike, [Str.ofString "well", Str.ofString "used", Str.ofString "name", Str.ofString "k"], 62),
  (39, G.d39_law_any_kinds, [Str.ofString "well", Str.ofString "heads", Str.ofString "k", Str.ofString "titles", Str.ofString "kinds", Str.ofString "head", Str.ofString "makers", Str.ofString "sorts", Str.ofString "fields", Str.ofString "f"], 63),
  (40, G.d40_law_any_deeds, [Str.ofString "well", Str.ofString "may_be_long", Str.ofString "lot", Str.ofString "k", Str.ofString "r"], 64),
  (41, G.d41_law_any_registers, [Str.ofString "well", Str.ofString "most", Str.ofString "k"], 65),
  (42, G.d42_law_any_row, [Str.ofString "well", Str.ofString "before", Str.ofString "r", Str.ofString "a", Str.ofString "following", Str.ofString "edges", Str.ofString "pick", Str.ofString "token", Str.ofString "number", Str.ofString "name", Str.ofString "lots", Str.ofString "k", Str.ofString "lot"], 66),
  (43, G.d43_law_any, [Str.ofString "well", Str.ofString "kinds", Str.ofString "sorts", Str.ofString "functions", Str.ofString "places", Str.ofString "k", Str.ofString "name", Str.ofString "params", Str.ofString "both", Str.ofString "makers", Str.ofString "j", Str.ofString "row", Str.ofString "place", Str.ofString "function"], 67),
  (44, G.d44_law_brackets, [Str.ofString "lot"], 68),
  (45, G.d45_law_registers, [Str.ofString "lot", Str.ofString "r"], 69),
  (46, G.d46_law_deeds_text, [Str.ofString "deeds", Str.ofString "text", Str.ofString "deed"], 70),
  (47, G.d47_law_next, [Str.ofString "following", Str.ofString "deeds"], 71),
  (48, G.d48_law_row_text, [Str.ofString "row", Str.ofString "place", Str.ofString "before", Str.ofString "token", Str.ofString "edges", Str.ofString "text", Str.ofString "branches", Str.ofString "k"], 72),
  (49, G.d49_law_text, [Str.ofString "program", Str.ofString "placing", Str.ofString "lines", Str.ofString "name", Str.ofString "makers", Str.ofString "title", Str.ofString "fields", Str.ofString "k", Str.ofString "params", Str.ofString "result", Str.ofString "rows", Str.ofString "entry", Str.ofString "places", Str.ofString "at"], 73),
  (50, G.d50_law, [Str.ofString "script", Str.ofString "well", Str.ofString "program", Str.ofString "placing", Str.ofString "further", Str.ofString "other", Str.ofString "due", Str.ofString "found"], 74)]
def gl : List (Str × PV) := [(Str.ofString "SMALL", (.str "abcdefghijklmnopqrstuvwxyz")),
  (Str.ofString "CAPITALS", (.str "ABCDEFGHIJKLMNOPQRSTUVWXYZ")),
  (Str.ofString "DIGITS", (.str "0123456789")),
  (Str.ofString "LONGEST", (.int (10))),
  (Str.ofString "KEYWORDS", (.tup [(.str "case"), (.str "drop"), (.str "entry"), (.str "free"), (.str "fun"), (.str "give"), (.str "hold"), (.str "in"), (.str "into"), (.str "kind"), (.str "number")])),
  (Str.ofString "MOST_KINDS", (.int (6))),
  (Str.ofString "MOST_MAKERS", (.int (6))),
  (Str.ofString "MOST_FIELDS", (.int (4))),
  (Str.ofString "GREATEST", (.int (1000000000000))),
  (Str.ofString "MOST_FUNCTIONS", (.int (12))),
  (Str.ofString "MOST_PARAMS", (.int (8))),
  (Str.ofString "MOST_ROWS", (.int (60))),
  (Str.ofString "REGISTERS", (.int (32))),
  (Str.ofString "TOKENS", (.int (16))),
  (Str.ofString "MOST_DEEDS", (.int (60)))]
def kw : List (Nat × Nat × List Str × List Nat) := [(34, 0, [Str.ofString "placing", Str.ofString "program"], [1, 0]), (34, 0, [Str.ofString "program", Str.ofString "placing"], [0, 1])]
def loose : List Str := ([Str.ofString "__name__", Str.ofString "CellError", Str.ofString "BadProgram", Str.ofString "BadPlacing", Str.ofString "SMALL", Str.ofString "CAPITALS", Str.ofString "DIGITS", Str.ofString "LONGEST", Str.ofString "KEYWORDS", Str.ofString "is_int", Str.ofString "within", Str.ofString "is_row", Str.ofString "is_name", Str.ofString "is_low", Str.ofString "is_high", Str.ofString "MOST_KINDS", Str.ofString "MOST_MAKERS", Str.ofString "MOST_FIELDS", Str.ofString "GREATEST", Str.ofString "MOST_FUNCTIONS", Str.ofString "MOST_PARAMS", Str.ofString "MOST_ROWS", Str.ofString "REGISTERS", Str.ofString "is_number", Str.ofString "is_register", Str.ofString "is_registers", Str.ofString "is_word", Str.ofString "is_maker", Str.ofString "is_one_kind", Str.ofString "is_kinds", Str.ofString "is_next", Str.ofString "is_branch", Str.ofString "is_program_row", Str.ofString "is_function", Str.ofString "is_program", Str.ofString "need_program", Str.ofString "nexts_of", Str.ofString "TOKENS"] : List Str) ++ ([Str.ofString "MOST_DEEDS", Str.ofString "is_token", Str.ofString "is_deed", Str.ofString "is_deeds", Str.ofString "fits_row", Str.ofString "fits_function", Str.ofString "fits", Str.ofString "need_placing", Str.ofString "bracket_words", Str.ofString "register_words", Str.ofString "deed_words", Str.ofString "next_words", Str.ofString "case_words", Str.ofString "setting_words", Str.ofString "row_words", Str.ofString "write_text", Str.ofString "_law_well", Str.ofString "_law_draw", Str.ofString "_law_plain", Str.ofString "_law_unlike", Str.ofString "_law_any_kinds", Str.ofString "_law_any_deeds", Str.ofString "_law_any_registers", Str.ofString "_law_any_row", Str.ofString "_law_any", Str.ofString "_law_brackets", Str.ofString "_law_registers", Str.ofString "_law_deeds_text", Str.ofString "_law_next", Str.ofString "_law_row_text", Str.ofString "_law_text"] : List Str)
end J.K30

set_option autoImplicit false
set_option linter.all false
set_option maxRecDepth 100000
namespace J
open PySem
section
variable {T : Nat → Option Fd} {fuel k : Nat}
theorem is_int_i (h0 : T 0 = some G.d0_is_int) (i : Int) : callAt T fuel (k + 1) 0 [.int i] = pure (.bl true) := by
  refine call_pure h0 rfl ?_
  simp [evSs, evS, evE, evEs, evC, evCA, evCO, evAnd, evOr, evI, evO, evJs, retOf, asgn, asgns, wipe, J.ba, G.d0_is_int]
theorem is_int_n (h0 : T 0 = some G.d0_is_int) : callAt T fuel (k + 1) 0 [.non] = pure (.bl false) := by
  refine call_pure h0 rfl ?_
  simp [evSs, evS, evE, evEs, evC, evCA, evCO, evAnd, evOr, evI, evO, evJs, retOf, asgn, asgns, wipe, J.ba, G.d0_is_int]
theorem within_i (h0 : T 0 = some G.d0_is_int) (h1 : T 1 = some G.d1_within) (i lo hi : Int) : callAt T fuel (k + 2) 1 [.int i, .int lo, .int hi] = pure (.bl (decide (lo ≤ i) && decide (i ≤ hi))) := by
  refine call_pure h1 rfl ?_
  simp [evSs, evS, evE, evEs, evC, evCA, evCO, evAnd, evOr, evI, evO, evJs, retOf, asgn, asgns, wipe, J.ba, G.d1_within, is_int_i h0]
theorem is_row_t (h2 : T 2 = some G.d2_is_row) (xs : List PV) (lo hi : Int) : callAt T fuel (k + 1) 2 [.tup xs, .int lo, .int hi] = pure (.bl (decide (lo ≤ xs.length) && decide ((xs.length : Int) ≤ hi))) := by
  refine call_pure h2 rfl ?_
  simp [evSs, evS, evE, evEs, evC, evCA, evCO, evAnd, evOr, evI, evO, evJs, retOf, asgn, asgns, wipe, J.ba, G.d2_is_row]
/-! ### names -/
def digs : List Nat := [48, 49, 50, 51, 52, 53, 54, 55, 56, 57]
def smalls : List Nat := [97, 98, 99, 100, 101, 102, 103, 104, 105, 106, 107, 108, 109, 110, 111, 112, 113, 114, 115, 116, 117, 118, 119, 120, 121, 122]
def caps : List Nat := [65, 66, 67, 68, 69, 70, 71, 72, 73, 74, 75, 76, 77, 78, 79, 80, 81, 82, 83, 84, 85, 86, 87, 88, 89, 90]
def keysL : List (List Nat) := [[99, 97, 115, 101], [100, 114, 111, 112], [101, 110, 116, 114, 121], [102, 114, 101, 101], [102, 117, 110], [103, 105, 118, 101], [104, 111, 108, 100], [105, 110], [105, 110, 116, 111], [107, 105, 110, 100], [110, 117, 109, 98, 101, 114]]
def nameB (l : List Nat) : Bool := match l with
  | [] => false
  | c :: r => decide (l.length ≤ 10) && !keysL.contains l && !(memB c [114, 116] && r.all fun x => memB x digs) && !memB c digs && l.all fun x => memB x (smalls ++ caps ++ digs)
def keysP : List PV := [(.str "case"), (.str "drop"), (.str "entry"), (.str "free"), (.str "fun"), (.str "give"), (.str "hold"), (.str "in"), (.str "into"), (.str "kind"), (.str "number")]
theorem keysP_eq : keysP = keysL.map fun l => PV.str (st l) := by rfl
theorem rd_keys (l : List Nat) : rd (evCmp .isin (.str (st l)) (.tup keysP)) = pure (keysL.contains l) := by
  rw [rd_int _ rfl (by decide)]
  congr 1
  rw [keysP_eq]
  simp only [List.any_map]
  rw [List.contains_eq_any_beq]
  congr 1
  funext y
  show (st y == st l) = (l == y)
  rw [st_beq, Bool.eq_iff_iff, decide_eq_true_iff, beq_iff_eq, eq_comm]
theorem cut1 {α : Type} {l : List α} (h : l ≠ []) : cut l (some 1) none = l.drop 1 := by
  cases l with
  | nil => exact absurd rfl h
  | cons x r => simp [cut, HT.sIx]
@[simp] theorem t_digs : (Str.ofString "0123456789").cps.toList = digs := rfl
@[simp] theorem t_rt : (Str.ofString "rt").cps.toList = [114, 116] := rfl
@[simp] theorem t_smalls : (Str.ofString "abcdefghijklmnopqrstuvwxyz").cps.toList = smalls := rfl
@[simp] theorem t_caps : (Str.ofString "ABCDEFGHIJKLMNOPQRSTUVWXYZ").cps.toList = caps := rfl
theorem s_digs : Str.ofString "0123456789" = st digs := rfl
theorem s_smalls : Str.ofString "abcdefghijklmnopqrstuvwxyz" = st smalls := rfl
theorem s_caps : Str.ofString "ABCDEFGHIJKLMNOPQRSTUVWXYZ" = st caps := rfl
theorem c3_0 {c : Ctx} {l : List Nat} {a b : Option PV} (hl : l ≠ []) (hz : l.length ≤ sizeL) : evE c G.d3_c0 [some (.str (st l)), a, b] = pure (.lst (l.tail.map fun x => PV.bl (memB x digs))) := by
  refine comp_m (src := .seq (.str (st l.tail))) ?_ (items_s (by simp; omega)) (by simp; omega) fun x hx => ?_
  · simp [evSs, evS, evE, evEs, evC, evCA, evCO, evAnd, evOr, evI, evO, evJs, retOf, asgn, asgns, wipe, J.ba, evSlice, hz, cut1 hl, rd_its (show l.tail.length ≤ sizeL by simp; omega)]
  · simp [evSs, evS, evE, evEs, evC, evCA, evCO, evAnd, evOr, evI, evO, evJs, retOf, asgn, asgns, wipe, J.ba]
theorem c3_1 {c : Ctx} {l z : List Nat} {b : Option PV} (hz : l.length ≤ sizeL) : evE c G.d3_c1 [some (.str (st l)), some (.str (st z)), b] = pure (.lst (l.map fun x => PV.bl (memB x z))) := by
  refine comp_m (src := .seq (.str (st l))) ?_ (items_s hz) hz fun x hx => ?_
  · simp [evSs, evS, evE, evEs, evC, evCA, evCO, evAnd, evOr, evI, evO, evJs, retOf, asgn, asgns, wipe, J.ba, rd_its hz]
  · simp [evSs, evS, evE, evEs, evC, evCA, evCO, evAnd, evOr, evI, evO, evJs, retOf, asgn, asgns, wipe, J.ba]
theorem small10 {n : Nat} (h : n ≤ 10) : n ≤ sizeL := Nat.le_trans h (by decide)
theorem evadd (m : Bool) (x y : Str) (h : x.length + y.length ≤ sizeL) : evBin .add m (.str x) (.str y) = pure (.str (x ++ y)) := by
  show (if x.length + y.length ≤ sizeL then pure (.str (x ++ y)) else bad : M PV) = _
  rw [if_pos h]
theorem is_name_ok (h3 : T 3 = some G.d3_is_name) {l : List Nat} (h : nameB l = true) : callAt T fuel (k + 1) 3 [.str (st l)] = pure (.bl true) := by
  cases l with
  | nil => simp [nameB] at h
  | cons x r =>
    simp only [nameB, Bool.and_eq_true, decide_eq_true_eq, Bool.not_eq_true'] at h
    obtain ⟨⟨⟨⟨h1, h2⟩, h3'⟩, h4⟩, h5⟩ := h
    have hz : (x :: r).length ≤ sizeL := small10 h1
    have i0 : rd (evIdx · (.str (st (x :: r))) (.int 0)) = pure (.str (st [x])) := rd_ixs _ _ (by rw [st_len]; exact hz) (by simp)
    have k1 := rd_keys (x :: r)
    rw [h2] at k1
    have l1 : ¬ (((x :: r).length : Int) < 1) := by simp; omega
    have l2 : ¬ (10 < ((x :: r).length : Int)) := by omega
    refine call_pure h3 rfl ?_
    have k2 : rd (evCmp .isin (.str (st (x :: r))) (.tup [(.str "case"), (.str "drop"), (.str "entry"), (.str "free"), (.str "fun"), (.str "give"), (.str "hold"), (.str "in"), (.str "into"), (.str "kind"), (.str "number")])) = pure false := k1
    have c0 : ∀ (c : Ctx) a b, evE c G.d3_c0 [some (.str (st (x :: r))), a, b] = pure (.lst (r.map fun x => PV.bl (memB x digs))) := fun c a b => c3_0 (by simp) hz
    have c1 : ∀ (c : Ctx) z b, evE c G.d3_c1 [some (.str (st (x :: r))), some (.str (st z)), b] = pure (.lst ((x :: r).map fun x => PV.bl (memB x z))) := fun c z b => c3_1 hz
    have a0 : ∀ m, evBi .all m [.lst (r.map fun x => PV.bl (memB x digs))] = pure (.bl (r.all fun x => memB x digs)) := fun m => bi_all_m m r _
    have a1 : ∀ m z, evBi .all m [.lst ((x :: r).map fun x => PV.bl (memB x z))] = pure (.bl ((x :: r).all fun x => memB x z)) := fun m z => bi_all_m m (x :: r) _
    have b1 : ∀ m, evBin .add m (.str (st smalls)) (.str (st caps)) = pure (.str (st (smalls ++ caps))) := fun m => by rw [evadd _ _ _ (by decide), st_app]
    have b2 : ∀ m, evBin .add m (.str (st (smalls ++ caps))) (.str (st digs)) = pure (.str (st (smalls ++ caps ++ digs))) := fun m => by rw [evadd _ _ _ (by decide), st_app]
    have ln : ∀ m, evBi .len m [.str (st (x :: r))] = pure (.int ((x :: r).length : Nat)) := fun m => by rw [bi_lenstr _ _ (by rw [st_len]; exact hz), st_len]
    have q1 : ¬ (memB x [114, 116] = true ∧ ∀ y, y ∈ r → memB y digs = true) := fun z => by
      have : (memB x [114, 116] && r.all fun x => memB x digs) = true := by
        rw [Bool.and_eq_true, List.all_eq_true]; exact z
      rw [h3'] at this; cases this
    have q2 : ∀ y, y ∈ x :: r → memB y (smalls ++ (caps ++ digs)) = true := fun y hy => by
      have := List.all_eq_true.mp h5 y hy
      rwa [List.append_assoc] at this
    generalize hw : x :: r = w at *
    simp [evSs, evS, evE, evEs, evC, evCA, evCO, evAnd, evOr, evI, evO, evJs, retOf, asgn, asgns, wipe, J.ba, G.d3_is_name, ln, l1, l2, k2, i0, c0, c1, a0, a1, s_digs, s_smalls, s_caps, b1, b2, q1, h4]
    rw [List.all_eq_true.mpr q2]
end
end J

set_option autoImplicit false
set_option linter.all false
set_option maxRecDepth 100000
namespace J
open PySem
/-- the tables hold these -/
structure Hs (T : Nat → Option Fd) : Prop where
  t0 : T 0 = some G.d0_is_int
  t1 : T 1 = some G.d1_within
  t2 : T 2 = some G.d2_is_row
  t3 : T 3 = some G.d3_is_name
  t4 : T 4 = some G.d4_is_low
  t5 : T 5 = some G.d5_is_high
  t6 : T 6 = some G.d6_is_number
  t7 : T 7 = some G.d7_is_register
  t8 : T 8 = some G.d8_is_registers
  t9 : T 9 = some G.d9_is_word
  t10 : T 10 = some G.d10_is_maker
  t11 : T 11 = some G.d11_is_one_kind
  t12 : T 12 = some G.d12_is_kinds
  t13 : T 13 = some G.d13_is_next
  t14 : T 14 = some G.d14_is_branch
  t15 : T 15 = some G.d15_is_program_row
  t16 : T 16 = some G.d16_is_function
  t17 : T 17 = some G.d17_is_program
  t18 : T 18 = some G.d18_need_program
  t19 : T 19 = some G.d19_nexts_of
  t20 : T 20 = some G.d20_is_token
  t21 : T 21 = some G.d21_is_deed
  t22 : T 22 = some G.d22_is_deeds
  t23 : T 23 = some G.d23_fits_row
  t24 : T 24 = some G.d24_fits_function
  t25 : T 25 = some G.d25_fits
  t26 : T 26 = some G.d26_need_placing
def lowB (l : List Nat) : Bool := nameB l && memB (l.headD 0) smalls
def highB (l : List Nat) : Bool := nameB l && memB (l.headD 0) caps
theorem name_cons {l : List Nat} (h : nameB l = true) : ∃ c r, l = c :: r := by
  cases l with
  | nil => simp [nameB] at h
  | cons c r => exact ⟨c, r, rfl⟩
theorem name_len {l : List Nat} (h : nameB l = true) : l.length ≤ 10 := by
  cases l with
  | nil => simp
  | cons c r => simp only [nameB, Bool.and_eq_true, decide_eq_true_eq] at h; exact h.1.1.1.1
section
variable {T : Nat → Option Fd} {fuel k : Nat} (H : Hs T)
include H
theorem is_low_ok {l : List Nat} (h : lowB l = true) : callAt T fuel (k + 2) 4 [.str (st l)] = pure (.bl true) := by
  simp only [lowB, Bool.and_eq_true] at h
  obtain ⟨c, r, rfl⟩ := name_cons h.1
  have hz := small10 (name_len h.1)
  have i0 : rd (evIdx · (.str (st (c :: r))) (.int 0)) = pure (.str (st [c])) := rd_ixs _ _ (by rw [st_len]; exact hz) (by simp)
  have hc : memB c smalls = true := h.2
  refine call_pure H.t4 rfl ?_
  simp [evSs, evS, evE, evEs, evC, evCA, evCO, evAnd, evOr, evI, evO, evJs, retOf, asgn, asgns, wipe, J.ba, G.d4_is_low, is_name_ok H.t3 h.1, i0, hc]
theorem is_high_ok {l : List Nat} (h : highB l = true) : callAt T fuel (k + 2) 5 [.str (st l)] = pure (.bl true) := by
  simp only [highB, Bool.and_eq_true] at h
  obtain ⟨c, r, rfl⟩ := name_cons h.1
  have hz := small10 (name_len h.1)
  have i0 : rd (evIdx · (.str (st (c :: r))) (.int 0)) = pure (.str (st [c])) := rd_ixs _ _ (by rw [st_len]; exact hz) (by simp)
  have hc : memB c caps = true := h.2
  refine call_pure H.t5 rfl ?_
  simp [evSs, evS, evE, evEs, evC, evCA, evCO, evAnd, evOr, evI, evO, evJs, retOf, asgn, asgns, wipe, J.ba, G.d5_is_high, is_name_ok H.t3 h.1, i0, hc]
theorem is_number_i (i : Int) : callAt T fuel (k + 3) 6 [.int i] = pure (.bl (decide (-1000000000000 ≤ i) && decide (i ≤ 1000000000000))) := by
  refine call_pure H.t6 rfl ?_
  simp [evSs, evS, evE, evEs, evC, evCA, evCO, evAnd, evOr, evI, evO, evJs, retOf, asgn, asgns, wipe, J.ba, G.d6_is_number, within_i H.t0 H.t1]
theorem is_register_i (i : Int) : callAt T fuel (k + 3) 7 [.int i] = pure (.bl (decide (0 ≤ i) && decide (i ≤ 31))) := by
  refine call_pure H.t7 rfl ?_
  simp [evSs, evS, evE, evEs, evC, evCA, evCO, evAnd, evOr, evI, evO, evJs, retOf, asgn, asgns, wipe, J.ba, G.d7_is_register, within_i H.t0 H.t1, evBin]
theorem is_next_i (i : Int) : callAt T fuel (k + 3) 13 [.int i] = pure (.bl (decide (0 ≤ i) && decide (i ≤ 59))) := by
  refine call_pure H.t13 rfl ?_
  simp [evSs, evS, evE, evEs, evC, evCA, evCO, evAnd, evOr, evI, evO, evJs, retOf, asgn, asgns, wipe, J.ba, G.d13_is_next, within_i H.t0 H.t1, evBin]
theorem is_token_i (i : Int) : callAt T fuel (k + 3) 20 [.int i] = pure (.bl (decide (0 ≤ i) && decide (i ≤ 15))) := by
  refine call_pure H.t20 rfl ?_
  simp [evSs, evS, evE, evEs, evC, evCA, evCO, evAnd, evOr, evI, evO, evJs, retOf, asgn, asgns, wipe, J.ba, G.d20_is_token, within_i H.t0 H.t1, evBin]
omit H in
theorem sizeL_10 {n : Nat} (h : n ≤ 100) : n ≤ sizeL := Nat.le_trans h (by decide)
theorem c8 {l : List Int} {a b : Option PV} (hl : l.length ≤ sizeL) : evE ⟨callAt T fuel (k + 3), fuel⟩ G.d8_c0 [some (.tup (l.map PV.int)), a, b] = pure (.lst (l.map fun i => .bl (decide (0 ≤ i) && decide (i ≤ 31)))) := by
  refine comp_m (src := .seq (.tup (l.map PV.int))) ?_ rfl hl fun x hx => ?_
  · simp [evSs, evS, evE, evEs, evC, evCA, evCO, evAnd, evOr, evI, evO, evJs, retOf, asgn, asgns, wipe, J.ba]
  · simp [evSs, evS, evE, evEs, evC, evCA, evCO, evAnd, evOr, evI, evO, evJs, retOf, asgn, asgns, wipe, J.ba, is_register_i H]
def regsB (l : List Int) (most : Int) : Bool := decide ((l.length : Int) ≤ most) && l.all fun i => decide (0 ≤ i) && decide (i ≤ 31)
theorem is_registers_i {l : List Int} (most : Int) (hl : l.length ≤ sizeL) : callAt T fuel (k + 4) 8 [.tup (l.map PV.int), .int most] = pure (.bl (regsB l most)) := by
  have a0 : ∀ m, evBi .all m [.lst (l.map fun i => .bl (decide (0 ≤ i) && decide (i ≤ 31)))] = pure (.bl (l.all fun i => decide (0 ≤ i) && decide (i ≤ 31))) := fun m => bi_all_m m l _
  have r0 := is_row_t (fuel := fuel) (k := k + 2) H.t2 (l.map PV.int) 0 most
  rw [List.length_map] at r0
  have z : (0 : Int) ≤ (l.length : Int) := by omega
  refine call_pure H.t8 rfl ?_
  by_cases hm : (l.length : Int) ≤ most
  · simp [evSs, evS, evE, evEs, evC, evCA, evCO, evAnd, evOr, evI, evO, evJs, retOf, asgn, asgns, wipe, J.ba, -List.all_eq_true, -Bool.decide_and, -List.any_eq_true, G.d8_is_registers, r0, c8 H hl, a0, hm, z, regsB]
  · simp [evSs, evS, evE, evEs, evC, evCA, evCO, evAnd, evOr, evI, evO, evJs, retOf, asgn, asgns, wipe, J.ba, G.d8_is_registers, r0, hm, regsB]
/-! ### kinds -/
omit H in
def numL : List Nat := [110, 117, 109, 98, 101, 114]
omit H in
theorem s_num : Str.ofString "number" = st numL := rfl
omit H in
def wordB (l : List Nat) : Bool := decide (l = numL) || highB l
theorem is_word_ok {l : List Nat} (h : wordB l = true) : callAt T fuel (k + 3) 9 [.str (st l)] = pure (.bl true) := by
  refine call_pure H.t9 rfl ?_
  by_cases e : l = numL
  · simp [evSs, evS, evE, evEs, evC, evCA, evCO, evAnd, evOr, evI, evO, evJs, retOf, asgn, asgns, wipe, J.ba, G.d9_is_word, s_num, e]
  · have h : highB l = true := by simpa [wordB, e] using h
    simp [evSs, evS, evE, evEs, evC, evCA, evCO, evAnd, evOr, evI, evO, evJs, retOf, asgn, asgns, wipe, J.ba, G.d9_is_word, s_num, e, is_high_ok H h]
abbrev Mk := List Nat × List (List Nat)
abbrev Kd := List Nat × List Mk
def encM (m : Mk) : PV := .tup [.str (st m.1), .tup (m.2.map fun f => .str (st f))]
def encK (q : Kd) : PV := .tup [.str (st q.1), .tup (q.2.map encM)]
structure MkOk (m : Mk) : Prop where
  t : highB m.1 = true
  l : m.2.length ≤ 4
  w : ∀ f ∈ m.2, wordB f = true
structure KdOk (q : Kd) : Prop where
  t : highB q.1 = true
  l1 : 1 ≤ q.2.length
  l : q.2.length ≤ 6
  w : ∀ f ∈ q.2, MkOk f
theorem c10 {m : Mk} (h : MkOk m) {a : Option PV} : evE ⟨callAt T fuel (k + 3), fuel⟩ G.d10_c0 [some (encM m), a] = pure (.lst (m.2.map fun _ => .bl true)) := by
  refine comp_m (src := .seq (.tup (m.2.map fun f => .str (st f)))) ?_ rfl (sizeL_10 (by have := h.l; omega)) fun x hx => ?_
  · simp [evSs, evS, evE, evEs, evC, evCA, evCO, evAnd, evOr, evI, evO, evJs, retOf, asgn, asgns, wipe, J.ba, encM, rd_ixt]
  · simp [evSs, evS, evE, evEs, evC, evCA, evCO, evAnd, evOr, evI, evO, evJs, retOf, asgn, asgns, wipe, J.ba, is_word_ok H (h.w x hx)]
theorem is_maker_ok {m : Mk} (h : MkOk m) : callAt T fuel (k + 4) 10 [encM m] = pure (.bl true) := by
  have r0 := is_row_t (fuel := fuel) (k := k + 2) H.t2 [.str (st m.1), .tup (m.2.map fun f => .str (st f))] 2 2
  have r1 := is_row_t (fuel := fuel) (k := k + 2) H.t2 (m.2.map fun f => .str (st f)) 0 4
  have l4 : (m.2.length : Int) ≤ 4 := by have := h.l; omega
  have l0 : (0 : Int) ≤ (m.2.length : Int) := by omega
  have c0 := fun a => c10 H (fuel := fuel) (k := k) h (a := a)
  refine call_pure H.t10 rfl ?_
  simp only [encM] at c0 ⊢
  simp [evSs, evS, evE, evEs, evC, evCA, evCO, evAnd, evOr, evI, evO, evJs, retOf, asgn, asgns, wipe, J.ba, G.d10_is_maker, r0, r1, rd_ixt, is_high_ok H h.t, l4, l0, c0, bi_all_true]
theorem c11 {q : Kd} (h : KdOk q) {a : Option PV} : evE ⟨callAt T fuel (k + 4), fuel⟩ G.d11_c0 [some (encK q), a] = pure (.lst (q.2.map fun _ => .bl true)) := by
  refine comp_m (src := .seq (.tup (q.2.map encM))) ?_ rfl (sizeL_10 (by have := h.l; omega)) fun x hx => ?_
  · simp [evSs, evS, evE, evEs, evC, evCA, evCO, evAnd, evOr, evI, evO, evJs, retOf, asgn, asgns, wipe, J.ba, encK, rd_ixt]
  · simp [evSs, evS, evE, evEs, evC, evCA, evCO, evAnd, evOr, evI, evO, evJs, retOf, asgn, asgns, wipe, J.ba, is_maker_ok H (h.w x hx)]
theorem is_one_kind_ok {q : Kd} (h : KdOk q) : callAt T fuel (k + 5) 11 [encK q] = pure (.bl true) := by
  have r0 := is_row_t (fuel := fuel) (k := k + 3) H.t2 [.str (st q.1), .tup (q.2.map encM)] 2 2
  have r1 := is_row_t (fuel := fuel) (k := k + 3) H.t2 (q.2.map encM) 1 6
  have l6 : (q.2.length : Int) ≤ 6 := by have := h.l; omega
  have l0 : (1 : Int) ≤ (q.2.length : Int) := by have := h.l1; omega
  have c0 := fun a => c11 H (fuel := fuel) (k := k) h (a := a)
  refine call_pure H.t11 rfl ?_
  simp only [encK] at c0 ⊢
  simp [evSs, evS, evE, evEs, evC, evCA, evCO, evAnd, evOr, evI, evO, evJs, retOf, asgn, asgns, wipe, J.ba, G.d11_is_one_kind, r0, r1, rd_ixt, is_high_ok H h.t, l6, l0, c0, bi_all_true]
omit H in
def namesK (q : List Kd) : List (List Nat) := q.map (·.1)
omit H in
def titlesK (q : List Kd) : List (List Nat) := q.flatMap fun k => k.2.map (·.1)
omit H in
def wordsK (q : List Kd) : List (List Nat) := q.flatMap fun k => k.2.flatMap (·.2)
structure KsOk (q : List Kd) : Prop where
  l1 : 1 ≤ q.length
  l : q.length ≤ 6
  w : ∀ f ∈ q, KdOk f
  n : (namesK q).Nodup
  t : (titlesK q).Nodup
  d : ∀ x ∈ wordsK q, x = numL ∨ x ∈ namesK q
omit H in
theorem flat_le {α β : Type} {l : List α} {f : α → List β} {n : Nat} (h : ∀ a ∈ l, (f a).length ≤ n) : (l.flatMap f).length ≤ l.length * n := by
  induction l with
  | nil => simp
  | cons a l ih =>
    have h1 := h a (by simp)
    have h2 := ih fun x hx => h x (by simp [hx])
    simp only [List.flatMap_cons, List.length_append, List.length_cons, Nat.succ_mul]
    omega
omit H in
theorem titles_le {q : List Kd} (h : KsOk q) : (titlesK q).length ≤ 36 := by
  have := flat_le (l := q) (f := fun k : Kd => k.2.map (·.1)) (n := 6) fun a ha => by rw [List.length_map]; exact (h.w a ha).l
  have := h.l
  show (q.flatMap fun k => k.2.map (·.1)).length ≤ 36
  omega
omit H in
theorem words_le {q : List Kd} (h : KsOk q) : (wordsK q).length ≤ 144 := by
  have h1 := flat_le (l := q) (f := fun k : Kd => k.2.flatMap (·.2)) (n := 24) fun a ha => by
    have h2 := flat_le (l := a.2) (f := fun m : Mk => m.2) (n := 4) fun m hm => ((h.w a ha).w m hm).l
    have := (h.w a ha).l
    omega
  have := h.l
  show (q.flatMap fun k => k.2.flatMap (·.2)).length ≤ 144
  omega
abbrev sv (l : List Nat) : PV := .str (st l)
theorem c12_0 {q : List Kd} (h : KsOk q) {r : List (Option PV)} : evE ⟨callAt T fuel (k + 5), fuel⟩ G.d12_c0 (some (.tup (q.map encK)) :: none :: none :: none :: none :: r) = pure (.lst (q.map fun _ => .bl true)) := by
  refine comp_m (src := .seq (.tup (q.map encK))) ?_ rfl (sizeL_10 (by have := h.l; omega)) fun x hx => ?_
  · simp [evSs, evS, evE, evEs, evC, evCA, evCO, evAnd, evOr, evI, evO, evJs, retOf, asgn, asgns, wipe, J.ba]
  · simp [evSs, evS, evE, evEs, evC, evCA, evCO, evAnd, evOr, evI, evO, evJs, retOf, asgn, asgns, wipe, J.ba, is_one_kind_ok H (h.w x hx)]
omit H in
theorem c12_1 {c : Ctx} {q : List Kd} (h : KsOk q) {a b d e : Option PV} {r : List (Option PV)} : evE c G.d12_c1 (some (.tup (q.map encK)) :: a :: b :: d :: e :: none :: none :: r) = pure (.lst ((namesK q).map sv)) := by
  have := comp_m (c := c) (env := some (.tup (q.map encK)) :: a :: b :: d :: e :: none :: none :: r) (own := [5, 6]) (t := .cons (.name 5) (.cons (.name 6) .nil)) (it := .val (.var 0)) (elt := .var 5) (src := .seq (.tup (q.map encK))) (enc := encK) (l := q) (f := fun k => .str (st k.1)) ?_ rfl (sizeL_10 (by have := h.l; omega)) fun x hx => ?_
  · rw [show (namesK q).map sv = q.map fun k => .str (st k.1) by simp [namesK]]
    exact this
  · simp [evSs, evS, evE, evEs, evC, evCA, evCO, evAnd, evOr, evI, evO, evJs, retOf, asgn, asgns, wipe, J.ba]
  · simp [evSs, evS, evE, evEs, evC, evCA, evCO, evAnd, evOr, evI, evO, evJs, retOf, asgn, asgns, wipe, J.ba, encK]
omit H in
theorem c12_2 {c : Ctx} {q : List Kd} (h : KsOk q) {a b d e : Option PV} {r : List (Option PV)} : evE c G.d12_c2 (some (.tup (q.map encK)) :: a :: b :: d :: e :: none :: none :: none :: none :: r) = pure (.lst ((titlesK q).map sv)) := by
  refine comp_of (ys := (titlesK q).map sv) ?_ (by rw [List.length_map]; have := titles_le h; exact Nat.le_trans this (by decide))
  rw [show (titlesK q).map sv = q.flatMap fun k => k.2.flatMap fun m => [.str (st m.1)] by simp [titlesK, List.map_flatMap]; congr 1; funext k; induction k.2 <;> simp_all]
  refine evG_cons_m (src := .seq (.tup (q.map encK))) (enc := encK) ?_ rfl fun x hx => ?_
  · simp [evSs, evS, evE, evEs, evC, evCA, evCO, evAnd, evOr, evI, evO, evJs, retOf, asgn, asgns, wipe, J.ba]
  · have := fun e => evG_last_m (c := c) (l := x.2) (enc := encM) (g := fun m => [.str (st m.1)]) (src := .seq (.tup (x.2.map encM))) (el := fun env' => evE c (.var 7) env') (t := .cons (.name 7) (.cons (.name 8) .nil)) (it := .val (.var 6)) (cs := .nil) (env := some (.tup (q.map encK)) :: a :: b :: d :: e :: some (.str (st x.1)) :: some (.tup (x.2.map encM)) :: none :: none :: r) (by simp [evSs, evS, evE, evEs, evC, evCA, evCO, evAnd, evOr, evI, evO, evJs, retOf, asgn, asgns, wipe, J.ba]) rfl fun m hm => by simp [evSs, evS, evE, evEs, evC, evCA, evCO, evAnd, evOr, evI, evO, evJs, retOf, asgn, asgns, wipe, J.ba, encM]
    simp [evSs, evS, evE, evEs, evC, evCA, evCO, evAnd, evOr, evI, evO, evJs, retOf, asgn, asgns, wipe, J.ba, encK]
    exact this e
omit H in
theorem c12_3 {c : Ctx} {q : List Kd} (h : KsOk q) {a b d e : Option PV} {r : List (Option PV)} : evE c G.d12_c3 (some (.tup (q.map encK)) :: a :: b :: d :: e :: none :: none :: none :: none :: none :: r) = pure (.lst ((wordsK q).map sv)) := by
  refine comp_of (ys := (wordsK q).map sv) ?_ (by rw [List.length_map]; have := words_le h; exact Nat.le_trans this (by decide))
  have eq : (wordsK q).map sv = q.flatMap fun k => k.2.flatMap fun m => m.2.flatMap fun f => [.str (st f)] := by
    simp only [wordsK, List.map_flatMap]
    congr 1; funext k; congr 1; funext m
    induction m.2 <;> simp_all
  rw [eq]
  refine evG_cons_m (src := .seq (.tup (q.map encK))) (enc := encK) ?_ rfl fun x hx => ?_
  · simp [evSs, evS, evE, evEs, evC, evCA, evCO, evAnd, evOr, evI, evO, evJs, retOf, asgn, asgns, wipe, J.ba]
  · have t2 := fun (m : Mk) => evG_last_m (c := c) (l := m.2) (enc := fun f => .str (st f)) (g := fun f => [.str (st f)]) (src := .seq (.tup (m.2.map fun f => .str (st f)))) (el := fun env' => evE c (.var 9) env') (t := .name 9) (it := .val (.var 8)) (cs := .nil)
      (env := some (.tup (q.map encK)) :: a :: b :: d :: e :: some (.str (st x.1)) :: some (.tup (x.2.map encM)) :: some (.str (st m.1)) :: some (.tup (m.2.map fun f => .str (st f))) :: none :: r) (by simp [evSs, evS, evE, evEs, evC, evCA, evCO, evAnd, evOr, evI, evO, evJs, retOf, asgn, asgns, wipe, J.ba]) rfl fun f hf => by simp [evSs, evS, evE, evEs, evC, evCA, evCO, evAnd, evOr, evI, evO, evJs, retOf, asgn, asgns, wipe, J.ba]
    have t1 := evG_cons_m (c := c) (l := x.2) (enc := encM) (g := fun m => m.2.flatMap fun f => [.str (st f)]) (src := .seq (.tup (x.2.map encM))) (el := fun env' => evE c (.var 9) env') (gs := .last (.name 9) (.val (.var 8)) .nil) (t := .cons (.name 7) (.cons (.name 8) .nil)) (it := .val (.var 6)) (cs := .nil)
      (env := some (.tup (q.map encK)) :: a :: b :: d :: e :: some (.str (st x.1)) :: some (.tup (x.2.map encM)) :: none :: none :: none :: r) (by simp [evSs, evS, evE, evEs, evC, evCA, evCO, evAnd, evOr, evI, evO, evJs, retOf, asgn, asgns, wipe, J.ba]) rfl fun m hm => by
        simp [evSs, evS, evE, evEs, evC, evCA, evCO, evAnd, evOr, evI, evO, evJs, retOf, asgn, asgns, wipe, J.ba, encM]
        exact t2 m
    simp [evSs, evS, evE, evEs, evC, evCA, evCO, evAnd, evOr, evI, evO, evJs, retOf, asgn, asgns, wipe, J.ba, encK]
    exact t1
omit H in
theorem nodup_st {l : List (List Nat)} (h : l.Nodup) : (l.map st).Nodup := by
  induction l with
  | nil => simp
  | cons a l ih =>
    simp only [List.nodup_cons] at h
    simp only [List.map_cons, List.nodup_cons, List.mem_map, st_inj, exists_eq_right]
    exact ⟨h.1, ih h.2⟩
omit H in
theorem in_words {x : List Nat} {l : List (List Nat)} (h : x ∈ l) : rd (evCmp .isin (.str (st x)) (.lst (l.map sv))) = pure true := by
  rw [rd_inl _ rfl (by simp [sv, flatP])]
  congr 1
  rw [List.any_eq_true]
  exact ⟨_, List.mem_map.mpr ⟨x, h, rfl⟩, by show (st x == st x) = true; simp⟩
omit H in
theorem c12_4 {c : Ctx} {q : List Kd} (h : KsOk q) {a b : Option PV} {x1 x2 x3 x4 x5 x6 : Option PV} : evE c G.d12_c4 [a, some (.lst ((namesK q).map sv)), b, some (.lst ((wordsK q).map sv)), x1, x2, x3, x4, x5, x6, none] = pure (.lst ((wordsK q).map fun _ => .bl true)) := by
  refine comp_m (src := .seq (.lst ((wordsK q).map sv))) ?_ rfl (Nat.le_trans (words_le h) (by decide)) fun x hx => ?_
  · simp [evSs, evS, evE, evEs, evC, evCA, evCO, evAnd, evOr, evI, evO, evJs, retOf, asgn, asgns, wipe, J.ba]
  · rcases h.d x hx with rfl | hm
    · simp [evSs, evS, evE, evEs, evC, evCA, evCO, evAnd, evOr, evI, evO, evJs, retOf, asgn, asgns, wipe, J.ba, s_num]
    · by_cases e : x = numL
      · subst e; simp [evSs, evS, evE, evEs, evC, evCA, evCO, evAnd, evOr, evI, evO, evJs, retOf, asgn, asgns, wipe, J.ba, s_num]
      · simp [evSs, evS, evE, evEs, evC, evCA, evCO, evAnd, evOr, evI, evO, evJs, retOf, asgn, asgns, wipe, J.ba, s_num, e, in_words hm]
theorem is_kinds_ok {q : List Kd} (h : KsOk q) : callAt T fuel (k + 6) 12 [.tup (q.map encK)] = pure (.bl true) := by
  have r0 := is_row_t (fuel := fuel) (k := k + 4) H.t2 (q.map encK) 1 6
  have l6 : (q.length : Int) ≤ 6 := by have := h.l; omega
  have l0 : (1 : Int) ≤ (q.length : Int) := by have := h.l1; omega
  have n0 : ∀ m, evBi .lenset m [.lst ((namesK q).map sv)] = pure (.int (namesK q).length) := fun m => by
    have := bi_lenset m (nodup_st h.n) (by rw [List.length_map]; have : (namesK q).length = q.length := by simp [namesK]
                                           have := h.l; omega)
    rw [List.map_map, List.length_map] at this
    exact this
  have n1 : ∀ m, evBi .lenset m [.lst ((titlesK q).map sv)] = pure (.int (titlesK q).length) := fun m => by
    have := bi_lenset m (nodup_st h.t) (by rw [List.length_map]; have := titles_le h; omega)
    rw [List.map_map, List.length_map] at this
    exact this
  refine call_pure H.t12 rfl ?_
  simp [evSs, evS, evE, evEs, evC, evCA, evCO, evAnd, evOr, evI, evO, evJs, retOf, asgn, asgns, wipe, J.ba, G.d12_is_kinds, r0, l6, l0, c12_0 H h, c12_1 h, c12_2 h, c12_3 h, c12_4 h, bi_all_true, n0, n1]
end
end J

set_option autoImplicit false
set_option linter.all false
set_option maxRecDepth 100000
set_option maxHeartbeats 1000000
namespace J
open PySem
inductive Rw where
  | number (r n f : Int) | arith (sub : Bool) (r a b f : Int) | less (r a f g : Int) | make (r : Int) (x : List Nat) (regs : List Int) (f : Int) | call (r : Int) (x : List Nat) (regs : List Int) (f : Int) | give (r : Int) | mtch (r : Int) (lots : List (List Int × Int))
def ivs (l : List Int) : PV := .tup (l.map PV.int)
def encL (q : List Int × Int) : PV := .tup [ivs q.1, .int q.2]
def encR : Rw → PV
  | .number r n f => .tup [.str (Str.ofString "number"), .int r, .int n, .int f]
  | .arith sub r a b f => .tup [.str (if sub then Str.ofString "sub" else Str.ofString "add"), .int r, .int a, .int b, .int f]
  | .less r a f g => .tup [.str (Str.ofString "less"), .int r, .int a, .int f, .int g]
  | .make r x l f => .tup [.str (Str.ofString "make"), .int r, .str (st x), ivs l, .int f]
  | .call r x l f => .tup [.str (Str.ofString "call"), .int r, .str (st x), ivs l, .int f]
  | .give r => .tup [.str (Str.ofString "give"), .int r]
  | .mtch r lots => .tup [.str (Str.ofString "match"), .int r, .tup (lots.map encL)]
def Reg (r : Int) : Prop := 0 ≤ r ∧ r ≤ 31
def Nxt (r : Int) : Prop := 0 ≤ r ∧ r ≤ 59
def Tok' (r : Int) : Prop := 0 ≤ r ∧ r ≤ 15
def Regs (l : List Int) (n : Nat) : Prop := l.length ≤ n ∧ ∀ i ∈ l, Reg i
def RwOk : Rw → Prop
  | .number r n f => Reg r ∧ (-1000000000000 ≤ n ∧ n ≤ 1000000000000) ∧ Nxt f
  | .arith _ r a b f => Reg r ∧ Reg a ∧ Reg b ∧ Nxt f
  | .less r a f g => Reg r ∧ Reg a ∧ Nxt f ∧ Nxt g
  | .make r x l f => Reg r ∧ highB x = true ∧ Regs l 4 ∧ Nxt f
  | .call r x l f => Reg r ∧ lowB x = true ∧ Regs l 8 ∧ Nxt f
  | .give r => Reg r
  | .mtch r lots => Reg r ∧ 1 ≤ lots.length ∧ lots.length ≤ 6 ∧ ∀ q ∈ lots, Regs q.1 4 ∧ Nxt q.2
@[simp] theorem at_m2 {α : Type} (a b : α) : L2.atI [a, b] (-1) = some b := by simp [L2.atI, L2.ixN]
@[simp] theorem at_m4 {α : Type} (a b c d : α) : L2.atI [a, b, c, d] (-1) = some d := by simp [L2.atI, L2.ixN]
@[simp] theorem at_m5 {α : Type} (a b c d e : α) : L2.atI [a, b, c, d, e] (-1) = some e := by simp [L2.atI, L2.ixN]
section
variable {T : Nat → Option Fd} {fuel k : Nat} (H : Hs T)
include H
theorem reg_ok {r : Int} (h : Reg r) : callAt T fuel (k + 3) 7 [.int r] = pure (.bl true) := by rw [is_register_i H]; simp [h.1, h.2]
theorem nxt_ok {r : Int} (h : Nxt r) : callAt T fuel (k + 3) 13 [.int r] = pure (.bl true) := by rw [is_next_i H]; simp [h.1, h.2]
theorem tok_ok {r : Int} (h : Tok' r) : callAt T fuel (k + 3) 20 [.int r] = pure (.bl true) := by rw [is_token_i H]; simp [h.1, h.2]
theorem regs_ok {l : List Int} {n : Nat} (h : Regs l n) (hn : n ≤ 100) : callAt T fuel (k + 4) 8 [ivs l, .int (n : Nat)] = pure (.bl true) := by
  unfold ivs
  rw [is_registers_i H (n : Int) (sizeL_10 (by have := h.1; omega))]
  have : regsB l (n : Int) = true := by
    unfold regsB
    rw [Bool.and_eq_true, List.all_eq_true]
    refine ⟨by simpa using h.1, fun i hi => ?_⟩
    obtain ⟨h1, h2⟩ := h.2 i hi
    simp [h1, h2]
  rw [this]
theorem is_branch_ok {q : List Int × Int} (h : Regs q.1 4) (h2 : Nxt q.2) : callAt T fuel (k + 5) 14 [encL q] = pure (.bl true) := by
  have r0 := is_row_t (fuel := fuel) (k := k + 3) H.t2 [ivs q.1, .int q.2] 2 2
  have r1 : callAt T fuel (k + 4) 8 [ivs q.1, .int 4] = pure (.bl true) := regs_ok H (fuel := fuel) (k := k) h (by decide)
  have r2 := nxt_ok H (fuel := fuel) (k := k + 1) h2
  refine call_pure H.t14 rfl ?_
  simp only [encL]
  simp [evSs, evS, evE, evEs, evC, evCA, evCO, evAnd, evOr, evI, evO, evJs, retOf, asgn, asgns, wipe, J.ba, G.d14_is_branch, r0, rd_ixt, r1, r2]
theorem c15 {r : Int} {lots : List (List Int × Int)} (h : ∀ q ∈ lots, Regs q.1 4 ∧ Nxt q.2) (hl : lots.length ≤ 6) {a b : PV} {x : Option PV} : evE ⟨callAt T fuel (k + 5), fuel⟩ G.d15_c0 [some (.tup [a, b, .tup (lots.map encL)]), x, none] = pure (.lst (lots.map fun _ => .bl true)) := by
  refine comp_m (src := .seq (.tup (lots.map encL))) ?_ rfl (sizeL_10 (by omega)) fun q hq => ?_
  · simp [evSs, evS, evE, evEs, evC, evCA, evCO, evAnd, evOr, evI, evO, evJs, retOf, asgn, asgns, wipe, J.ba, rd_ixt]
  · simp [evSs, evS, evE, evEs, evC, evCA, evCO, evAnd, evOr, evI, evO, evJs, retOf, asgn, asgns, wipe, J.ba, is_branch_ok H (h q hq).1 (h q hq).2]
theorem is_program_row_ok {q : Rw} (h : RwOk q) : callAt T fuel (k + 6) 15 [encR q] = pure (.bl true) := by
  have rr := fun xs lo hi => is_row_t (fuel := fuel) (k := k + 4) H.t2 xs lo hi
  have gg : ∀ {r : Int}, Reg r → callAt T fuel (k + 5) 7 [.int r] = pure (.bl true) := fun h => reg_ok H (k := k + 2) h
  have nn : ∀ {r : Int}, Nxt r → callAt T fuel (k + 5) 13 [.int r] = pure (.bl true) := fun h => nxt_ok H (k := k + 2) h
  refine call_pure H.t15 rfl ?_
  cases q with
  | number r n f =>
    obtain ⟨h1, h2, h3⟩ := h
    have n0 := is_number_i H (fuel := fuel) (k := k + 2) n
    simp only [encR]
    simp [evSs, evS, evE, evEs, evC, evCA, evCO, evAnd, evOr, evI, evO, evJs, retOf, asgn, asgns, wipe, J.ba, G.d15_is_program_row, rr, rd_ixt, gg h1, nn h3, n0, h2.1, h2.2, (by decide : ¬ Str.ofString "number" = Str.ofString "give"), (by decide : ¬ Str.ofString "number" = Str.ofString "match")]
  | arith sub r a b f =>
    obtain ⟨h1, h2, h3, h4⟩ := h
    have i1 : rd (evCmp .isin (.str (Str.ofString "add")) (.tup [.str (Str.ofString "add"), .str (Str.ofString "sub")])) = pure true := rd_int _ rfl rfl
    have i2 : rd (evCmp .isin (.str (Str.ofString "sub")) (.tup [.str (Str.ofString "add"), .str (Str.ofString "sub")])) = pure true := rd_int _ rfl rfl
    have mt : mkT [.str (Str.ofString "add"), .str (Str.ofString "sub")] = pure (.tup [.str (Str.ofString "add"), .str (Str.ofString "sub")]) := mk_t _ (by decide)
    simp only [encR]
    cases sub with
    | false => simp [evSs, evS, evE, evEs, evC, evCA, evCO, evAnd, evOr, evI, evO, evJs, retOf, asgn, asgns, wipe, J.ba, G.d15_is_program_row, rr, rd_ixt, gg h1, gg h2, gg h3, nn h4, mt, i1, (by decide : ¬ Str.ofString "add" = Str.ofString "give"), (by decide : ¬ Str.ofString "add" = Str.ofString "match"), (by decide : ¬ Str.ofString "add" = Str.ofString "number"), (by decide : ¬ Str.ofString "add" = Str.ofString "make"), (by decide : ¬ Str.ofString "add" = Str.ofString "call"), (by decide : ¬ Str.ofString "add" = Str.ofString "less")]
    | true => simp [evSs, evS, evE, evEs, evC, evCA, evCO, evAnd, evOr, evI, evO, evJs, retOf, asgn, asgns, wipe, J.ba, G.d15_is_program_row, rr, rd_ixt, gg h1, gg h2, gg h3, nn h4, mt, i2, (by decide : ¬ Str.ofString "sub" = Str.ofString "give"), (by decide : ¬ Str.ofString "sub" = Str.ofString "match"), (by decide : ¬ Str.ofString "sub" = Str.ofString "number"), (by decide : ¬ Str.ofString "sub" = Str.ofString "make"), (by decide : ¬ Str.ofString "sub" = Str.ofString "call"), (by decide : ¬ Str.ofString "sub" = Str.ofString "less")]
  | less r a f g =>
    obtain ⟨h1, h2, h3, h4⟩ := h
    simp only [encR]
    simp [evSs, evS, evE, evEs, evC, evCA, evCO, evAnd, evOr, evI, evO, evJs, retOf, asgn, asgns, wipe, J.ba, G.d15_is_program_row, rr, rd_ixt, gg h1, gg h2, nn h3, nn h4, (by decide : ¬ Str.ofString "less" = Str.ofString "give"), (by decide : ¬ Str.ofString "less" = Str.ofString "match"), (by decide : ¬ Str.ofString "less" = Str.ofString "number"), (by decide : ¬ Str.ofString "less" = Str.ofString "make"), (by decide : ¬ Str.ofString "less" = Str.ofString "call")]
  | make r x l f =>
    obtain ⟨h1, h2, h3, h4⟩ := h
    have r1 : callAt T fuel (k + 5) 8 [ivs l, .int 4] = pure (.bl true) := regs_ok H (fuel := fuel) (k := k + 1) h3 (by decide)
    have r2 := is_high_ok H (fuel := fuel) (k := k + 3) h2
    simp only [encR]
    simp [evSs, evS, evE, evEs, evC, evCA, evCO, evAnd, evOr, evI, evO, evJs, retOf, asgn, asgns, wipe, J.ba, G.d15_is_program_row, rr, rd_ixt, gg h1, nn h4, r1, r2, (by decide : ¬ Str.ofString "make" = Str.ofString "give"), (by decide : ¬ Str.ofString "make" = Str.ofString "match"), (by decide : ¬ Str.ofString "make" = Str.ofString "number")]
  | call r x l f =>
    obtain ⟨h1, h2, h3, h4⟩ := h
    have r1 : callAt T fuel (k + 5) 8 [ivs l, .int 8] = pure (.bl true) := regs_ok H (fuel := fuel) (k := k + 1) h3 (by decide)
    have r2 := is_low_ok H (fuel := fuel) (k := k + 3) h2
    simp only [encR]
    simp [evSs, evS, evE, evEs, evC, evCA, evCO, evAnd, evOr, evI, evO, evJs, retOf, asgn, asgns, wipe, J.ba, G.d15_is_program_row, rr, rd_ixt, gg h1, nn h4, r1, r2, (by decide : ¬ Str.ofString "call" = Str.ofString "give"), (by decide : ¬ Str.ofString "call" = Str.ofString "match"), (by decide : ¬ Str.ofString "call" = Str.ofString "number"), (by decide : ¬ Str.ofString "call" = Str.ofString "make")]
  | give r =>
    simp only [encR]
    simp [evSs, evS, evE, evEs, evC, evCA, evCO, evAnd, evOr, evI, evO, evJs, retOf, asgn, asgns, wipe, J.ba, G.d15_is_program_row, rr, rd_ixt, gg h]
  | mtch r lots =>
    obtain ⟨h1, h2, h3, h4⟩ := h
    have c0 := fun a b x => c15 H (fuel := fuel) (k := k) (r := r) h4 h3 (a := a) (b := b) (x := x)
    have l1 : (1 : Int) ≤ lots.length := by omega
    have l6 : (lots.length : Int) ≤ 6 := by omega
    simp only [encR]
    simp [evSs, evS, evE, evEs, evC, evCA, evCO, evAnd, evOr, evI, evO, evJs, retOf, asgn, asgns, wipe, J.ba, G.d15_is_program_row, rr, rd_ixt, gg h1, c0, l1, l6, bi_all_true, (by decide : ¬ Str.ofString "match" = Str.ofString "give")]
/-! ### functions, programs -/
structure Fn where
  name : List Nat
  params : List (List Nat)
  result : List Nat
  rows : List Rw
omit H in
def encF (f : Fn) : PV := .tup [.str (st f.name), .tup (f.params.map sv), .str (st f.result), .tup (f.rows.map encR)]
structure FnOk' (f : Fn) : Prop where
  n : lowB f.name = true
  l : f.params.length ≤ 8
  p : ∀ x ∈ f.params, wordB x = true
  r : wordB f.result = true
  r1 : 1 ≤ f.rows.length
  r60 : f.rows.length ≤ 60
  w : ∀ q ∈ f.rows, RwOk q
theorem c16_0 {f : Fn} (h : FnOk' f) {a b : Option PV} : evE ⟨callAt T fuel (k + 6), fuel⟩ G.d16_c0 [some (encF f), none, b] = pure (.lst (f.params.map fun _ => .bl true)) := by
  refine comp_m (src := .seq (.tup (f.params.map sv))) ?_ rfl (sizeL_10 (by have := h.l; omega)) fun x hx => ?_
  · simp [evSs, evS, evE, evEs, evC, evCA, evCO, evAnd, evOr, evI, evO, evJs, retOf, asgn, asgns, wipe, J.ba, encF, rd_ixt]
  · simp [evSs, evS, evE, evEs, evC, evCA, evCO, evAnd, evOr, evI, evO, evJs, retOf, asgn, asgns, wipe, J.ba, is_word_ok H (k := k + 3) (h.p x hx)]
theorem c16_1 {f : Fn} (h : FnOk' f) {a b : Option PV} : evE ⟨callAt T fuel (k + 6), fuel⟩ G.d16_c1 [some (encF f), a, none] = pure (.lst (f.rows.map fun _ => .bl true)) := by
  refine comp_m (src := .seq (.tup (f.rows.map encR))) ?_ rfl (sizeL_10 (by have := h.r60; omega)) fun x hx => ?_
  · simp [evSs, evS, evE, evEs, evC, evCA, evCO, evAnd, evOr, evI, evO, evJs, retOf, asgn, asgns, wipe, J.ba, encF, rd_ixt]
  · simp [evSs, evS, evE, evEs, evC, evCA, evCO, evAnd, evOr, evI, evO, evJs, retOf, asgn, asgns, wipe, J.ba, is_program_row_ok H (h.w x hx)]
theorem is_function_ok {f : Fn} (h : FnOk' f) : callAt T fuel (k + 7) 16 [encF f] = pure (.bl true) := by
  have rr := fun xs lo hi => is_row_t (fuel := fuel) (k := k + 5) H.t2 xs lo hi
  have c0 := c16_0 H (fuel := fuel) (k := k) h (a := none) (b := none)
  have c1 := c16_1 H (fuel := fuel) (k := k) h (a := none) (b := none)
  have l8 : (f.params.length : Int) ≤ 8 := by have := h.l; omega
  have l0 : (0 : Int) ≤ f.params.length := by omega
  have m1 : (1 : Int) ≤ f.rows.length := by have := h.r1; omega
  have m60 : (f.rows.length : Int) ≤ 60 := by have := h.r60; omega
  refine call_pure H.t16 rfl ?_
  simp only [encF] at c0 c1 ⊢
  simp [evSs, evS, evE, evEs, evC, evCA, evCO, evAnd, evOr, evI, evO, evJs, retOf, asgn, asgns, wipe, J.ba, G.d16_is_function, rr, rd_ixt, is_low_ok H (fuel := fuel) (k := k + 4) h.n, l8, l0, m1, m60, c0, c1, bi_all_true, is_word_ok H (fuel := fuel) (k := k + 3) h.r]
structure Pr where
  kinds : List Kd
  fns : List Fn
omit H in
def encP (p : Pr) : PV := .tup [.tup (p.kinds.map encK), .tup (p.fns.map encF)]
structure PrOk (p : Pr) : Prop where
  k : KsOk p.kinds
  l1 : 1 ≤ p.fns.length
  l12 : p.fns.length ≤ 12
  w : ∀ f ∈ p.fns, FnOk' f
theorem c17 {p : Pr} (h : PrOk p) : evE ⟨callAt T fuel (k + 7), fuel⟩ G.d17_c0 [some (encP p), none] = pure (.lst (p.fns.map fun _ => .bl true)) := by
  refine comp_m (src := .seq (.tup (p.fns.map encF))) ?_ rfl (sizeL_10 (by have := h.l12; omega)) fun x hx => ?_
  · simp [evSs, evS, evE, evEs, evC, evCA, evCO, evAnd, evOr, evI, evO, evJs, retOf, asgn, asgns, wipe, J.ba, encP, rd_ixt]
  · simp [evSs, evS, evE, evEs, evC, evCA, evCO, evAnd, evOr, evI, evO, evJs, retOf, asgn, asgns, wipe, J.ba, is_function_ok H (h.w x hx)]
theorem is_program_ok {p : Pr} (h : PrOk p) : callAt T fuel (k + 8) 17 [encP p] = pure (.bl true) := by
  have rr := fun xs lo hi => is_row_t (fuel := fuel) (k := k + 6) H.t2 xs lo hi
  have c0 := c17 H (fuel := fuel) (k := k) h
  have l1 : (1 : Int) ≤ p.fns.length := by have := h.l1; omega
  have l12 : (p.fns.length : Int) ≤ 12 := by have := h.l12; omega
  refine call_pure H.t17 rfl ?_
  simp only [encP] at c0 ⊢
  simp [evSs, evS, evE, evEs, evC, evCA, evCO, evAnd, evOr, evI, evO, evJs, retOf, asgn, asgns, wipe, J.ba, G.d17_is_program, rr, rd_ixt, is_kinds_ok H (fuel := fuel) (k := k + 1) h.k, l1, l12, c0, bi_all_true]
theorem need_program_ok {p : Pr} (h : PrOk p) : callAt T fuel (k + 9) 18 [encP p] = pure .non := by
  refine call_pure H.t18 rfl ?_
  simp [evSs, evS, evE, evEs, evC, evCA, evCO, evAnd, evOr, evI, evO, evJs, retOf, asgn, asgns, wipe, J.ba, G.d18_need_program, is_program_ok H (fuel := fuel) (k := k) h]
/-! ### placings -/
inductive Dd where
  | hold (r : Int) | drop (r : Int) | free (t f : Int)
omit H in
def encD : Dd → PV
  | .hold r => .tup [.str (Str.ofString "hold"), .int r]
  | .drop r => .tup [.str (Str.ofString "drop"), .int r]
  | .free t f => .tup [.str (Str.ofString "free"), .int t, .int f]
omit H in
def encDs (l : List Dd) : PV := .tup (l.map encD)
omit H in
def DdOk : Dd → Prop
  | .hold r => Reg r
  | .drop r => Reg r
  | .free t f => Tok' t ∧ 0 ≤ f ∧ f ≤ 4
omit H in
def DsOk (l : List Dd) : Prop := l.length ≤ 60 ∧ ∀ d ∈ l, DdOk d
theorem is_deed_ok {d : Dd} (h : DdOk d) : callAt T fuel (k + 4) 21 [encD d] = pure (.bl true) := by
  have rr := fun xs lo hi => is_row_t (fuel := fuel) (k := k + 2) H.t2 xs lo hi
  have i1 : rd (evCmp .isin (.str (Str.ofString "hold")) (.tup [.str (Str.ofString "hold"), .str (Str.ofString "drop")])) = pure true := rd_int _ rfl rfl
  have i2 : rd (evCmp .isin (.str (Str.ofString "drop")) (.tup [.str (Str.ofString "hold"), .str (Str.ofString "drop")])) = pure true := rd_int _ rfl rfl
  have mt : mkT [.str (Str.ofString "hold"), .str (Str.ofString "drop")] = pure (.tup [.str (Str.ofString "hold"), .str (Str.ofString "drop")]) := mk_t _ (by decide)
  refine call_pure H.t21 rfl ?_
  cases d with
  | hold r =>
    simp only [encD]
    simp [evSs, evS, evE, evEs, evC, evCA, evCO, evAnd, evOr, evI, evO, evJs, retOf, asgn, asgns, wipe, J.ba, G.d21_is_deed, rr, rd_ixt, mt, i1, reg_ok H h, (by decide : ¬ Str.ofString "hold" = Str.ofString "free")]
  | drop r =>
    simp only [encD]
    simp [evSs, evS, evE, evEs, evC, evCA, evCO, evAnd, evOr, evI, evO, evJs, retOf, asgn, asgns, wipe, J.ba, G.d21_is_deed, rr, rd_ixt, mt, i2, reg_ok H h, (by decide : ¬ Str.ofString "drop" = Str.ofString "free")]
  | free t f =>
    have w0 := within_i H.t0 H.t1 (fuel := fuel) (k := k + 1) f 0 4
    simp only [encD]
    simp [evSs, evS, evE, evEs, evC, evCA, evCO, evAnd, evOr, evI, evO, evJs, retOf, asgn, asgns, wipe, J.ba, G.d21_is_deed, rr, rd_ixt, tok_ok H h.1, w0, h.2.1, h.2.2]
theorem c22 {l : List Dd} (h : DsOk l) : evE ⟨callAt T fuel (k + 4), fuel⟩ G.d22_c0 [some (encDs l), none] = pure (.lst (l.map fun _ => .bl true)) := by
  refine comp_m (src := .seq (.tup (l.map encD))) ?_ rfl (sizeL_10 (by have := h.1; omega)) fun x hx => ?_
  · simp [evSs, evS, evE, evEs, evC, evCA, evCO, evAnd, evOr, evI, evO, evJs, retOf, asgn, asgns, wipe, J.ba, encDs]
  · simp [evSs, evS, evE, evEs, evC, evCA, evCO, evAnd, evOr, evI, evO, evJs, retOf, asgn, asgns, wipe, J.ba, is_deed_ok H (h.2 x hx)]
theorem is_deeds_ok {l : List Dd} (h : DsOk l) : callAt T fuel (k + 5) 22 [encDs l] = pure (.bl true) := by
  have rr := fun xs lo hi => is_row_t (fuel := fuel) (k := k + 3) H.t2 xs lo hi
  have c0 := c22 H (fuel := fuel) (k := k) h
  have l0 : (0 : Int) ≤ l.length := by omega
  have l60 : (l.length : Int) ≤ 60 := by have := h.1; omega
  refine call_pure H.t22 rfl ?_
  simp only [encDs] at c0 ⊢
  simp [evSs, evS, evE, evEs, evC, evCA, evCO, evAnd, evOr, evI, evO, evJs, retOf, asgn, asgns, wipe, J.ba, G.d22_is_deeds, rr, c0, l0, l60, bi_all_true]
end
end J

set_option autoImplicit false
set_option linter.all false
set_option maxRecDepth 100000
set_option maxHeartbeats 1000000
namespace J
open PySem
def nexts : Rw → List Int
  | .number _ _ f => [f]
  | .arith _ _ _ _ f => [f]
  | .less _ _ f g => [f, g]
  | .make _ _ _ f => [f]
  | .call _ _ _ f => [f]
  | .give _ => []
  | .mtch _ lots => lots.map (·.2)
structure Pl where
  before : List Dd
  token : Option Int
  edges : List (List Dd)
def tokV : Option Int → PV
  | none => .non
  | some t => .int t
def encPl (p : Pl) : PV := .tup [encDs p.before, tokV p.token, .tup (p.edges.map encDs)]
def hasTok : Rw → Bool
  | .make _ _ _ _ => true
  | .mtch _ _ => true
  | _ => false
structure PlOk (q : Rw) (p : Pl) : Prop where
  b : DsOk p.before
  t : ∀ t, p.token = some t → hasTok q = true ∧ Tok' t
  n : p.edges.length = (nexts q).length
  e : ∀ e ∈ p.edges, DsOk e
structure FPl where
  entry : List Dd
  places : List Pl
def encFP (p : FPl) : PV := .tup [encDs p.entry, .tup (p.places.map encPl)]
structure FPlOk (f : List Rw) (p : FPl) : Prop where
  e : DsOk p.entry
  n : p.places.length = f.length
  w : ∀ x ∈ f.zip p.places, PlOk x.1 x.2
def encPP (p : List FPl) : PV := .tup (p.map encFP)
structure PPOk (p : Pr) (q : List FPl) : Prop where
  n : q.length = p.fns.length
  w : ∀ x ∈ p.fns.zip q, FPlOk x.1.rows x.2
theorem cut_m1_2 {α : Type} (a b : α) : cut [a, b] (some (-1)) none = [b] := by simp [cut, HT.sIx]
theorem cut_m1_4 {α : Type} (a b c d : α) : cut [a, b, c, d] (some (-1)) none = [d] := by simp [cut, HT.sIx]
theorem cut_m1_5 {α : Type} (a b c d e : α) : cut [a, b, c, d, e] (some (-1)) none = [e] := by simp [cut, HT.sIx]
theorem cut_3_5 {α : Type} (a b c d e : α) : cut [a, b, c, d, e] (some 3) none = [d, e] := by simp [cut, HT.sIx]
theorem zip_items {α β : Type} (xs : List α) (ys : List β) (f : α → PV) (g : β → PV) : itemsOf (.zip (.tup (xs.map f)) (.tup (ys.map g))) = some ((xs.zip ys).map fun q => .tup [f q.1, g q.2]) := by
  show some (List.zipWith (fun x y => PV.tup [x, y]) (xs.map f) (ys.map g)) = _
  congr 1
  rw [List.zipWith_map]
  induction xs generalizing ys with
  | nil => simp
  | cons x xs ih => cases ys <;> simp_all
theorem evSlice_t (m : Bool) (xs : List PV) (lo hi : Option Int) : evSlice m (.tup xs) lo hi = pure (.tup (cut xs lo hi)) := rfl
theorem bi_tup (m : Bool) (xs : List PV) (h : xs.length ≤ sizeL) : evBi .tuple m [.lst xs] = pure (.tup xs) := by
  show (rd (getS · (.lst xs)) >>= fun xs => mkT xs) = _
  show mkT xs = _
  exact mk_t _ h
theorem zipOk_t (xs ys : List PV) : rd (zipOk (.tup xs) (.tup ys)) = pure () := rfl
section
variable {T : Nat → Option Fd} {fuel k : Nat} (H : Hs T)
include H
omit H in
theorem c19 {c : Ctx} {r : PV} {a : PV} {lots : List (List Int × Int)} (hl : lots.length ≤ 6) : evE c G.d19_c0 [some (.tup [r, a, .tup (lots.map encL)]), none, none] = pure (.lst (lots.map fun q => .int q.2)) := by
  refine comp_m (src := .seq (.tup (lots.map encL))) ?_ rfl (sizeL_10 (by omega)) fun q hq => ?_
  · simp [evSs, evS, evE, evEs, evC, evCA, evCO, evAnd, evOr, evI, evO, evJs, retOf, asgn, asgns, wipe, J.ba, rd_ixt]
  · simp [evSs, evS, evE, evEs, evC, evCA, evCO, evAnd, evOr, evI, evO, evJs, retOf, asgn, asgns, wipe, J.ba, encL]
theorem nexts_of_ok {q : Rw} (h : RwOk q) : callAt T fuel (k + 1) 19 [encR q] = pure (ivs (nexts q)) := by
  refine call_pure H.t19 rfl ?_
  have ne : ∀ {a b : Str}, decide (a = b) = false → ¬ a = b := fun h => of_decide_eq_false h
  cases q with
  | number r n f =>
    simp only [encR]
    simp [evSs, evS, evE, evEs, evC, evCA, evCO, evAnd, evOr, evI, evO, evJs, retOf, asgn, asgns, wipe, J.ba, G.d19_nexts_of, rd_ixt, evSlice_t, cut_m1_4, nexts, ivs, (by decide : ¬ Str.ofString "number" = Str.ofString "give"), (by decide : ¬ Str.ofString "number" = Str.ofString "match"), (by decide : ¬ Str.ofString "number" = Str.ofString "less")]
  | arith sub r a b f =>
    simp only [encR]
    cases sub with
    | false => simp [evSs, evS, evE, evEs, evC, evCA, evCO, evAnd, evOr, evI, evO, evJs, retOf, asgn, asgns, wipe, J.ba, G.d19_nexts_of, rd_ixt, evSlice_t, cut_m1_5, nexts, ivs, (by decide : ¬ Str.ofString "add" = Str.ofString "give"), (by decide : ¬ Str.ofString "add" = Str.ofString "match"), (by decide : ¬ Str.ofString "add" = Str.ofString "less")]
    | true => simp [evSs, evS, evE, evEs, evC, evCA, evCO, evAnd, evOr, evI, evO, evJs, retOf, asgn, asgns, wipe, J.ba, G.d19_nexts_of, rd_ixt, evSlice_t, cut_m1_5, nexts, ivs, (by decide : ¬ Str.ofString "sub" = Str.ofString "give"), (by decide : ¬ Str.ofString "sub" = Str.ofString "match"), (by decide : ¬ Str.ofString "sub" = Str.ofString "less")]
  | less r a f g =>
    simp only [encR]
    simp [evSs, evS, evE, evEs, evC, evCA, evCO, evAnd, evOr, evI, evO, evJs, retOf, asgn, asgns, wipe, J.ba, G.d19_nexts_of, rd_ixt, evSlice_t, cut_3_5, nexts, ivs, (by decide : ¬ Str.ofString "less" = Str.ofString "give"), (by decide : ¬ Str.ofString "less" = Str.ofString "match")]
  | make r x l f =>
    simp only [encR]
    simp [evSs, evS, evE, evEs, evC, evCA, evCO, evAnd, evOr, evI, evO, evJs, retOf, asgn, asgns, wipe, J.ba, G.d19_nexts_of, rd_ixt, evSlice_t, cut_m1_5, nexts, ivs, (by decide : ¬ Str.ofString "make" = Str.ofString "give"), (by decide : ¬ Str.ofString "make" = Str.ofString "match"), (by decide : ¬ Str.ofString "make" = Str.ofString "less")]
  | call r x l f =>
    simp only [encR]
    simp [evSs, evS, evE, evEs, evC, evCA, evCO, evAnd, evOr, evI, evO, evJs, retOf, asgn, asgns, wipe, J.ba, G.d19_nexts_of, rd_ixt, evSlice_t, cut_m1_5, nexts, ivs, (by decide : ¬ Str.ofString "call" = Str.ofString "give"), (by decide : ¬ Str.ofString "call" = Str.ofString "match"), (by decide : ¬ Str.ofString "call" = Str.ofString "less")]
  | give r =>
    have m0 : mkT [] = pure (.tup []) := mk_t _ (by decide)
    simp only [encR]
    simp [evSs, evS, evE, evEs, evC, evCA, evCO, evAnd, evOr, evI, evO, evJs, retOf, asgn, asgns, wipe, J.ba, G.d19_nexts_of, rd_ixt, nexts, ivs, m0]
  | mtch r lots =>
    obtain ⟨h1, h2, h3, h4⟩ := h
    have bt : ∀ m, evBi .tuple m [.lst (lots.map fun q => PV.int q.2)] = pure (.tup (lots.map fun q => PV.int q.2)) := fun m => bi_tup m _ (by rw [List.length_map]; exact sizeL_10 (by omega))
    simp only [encR]
    simp [evSs, evS, evE, evEs, evC, evCA, evCO, evAnd, evOr, evI, evO, evJs, retOf, asgn, asgns, wipe, J.ba, G.d19_nexts_of, rd_ixt, nexts, ivs, c19 h3, bt, (by decide : ¬ Str.ofString "match" = Str.ofString "give")]
    rfl
theorem c23 {p : Pl} (h : ∀ e ∈ p.edges, DsOk e) (hl : p.edges.length ≤ 100) {a b : Option PV} : evE ⟨callAt T fuel (k + 5), fuel⟩ G.d23_c0 [a, some (encPl p), b, none] = pure (.lst (p.edges.map fun _ => .bl true)) := by
  refine comp_m (src := .seq (.tup (p.edges.map encDs))) ?_ rfl (sizeL_10 hl) fun x hx => ?_
  · simp [evSs, evS, evE, evEs, evC, evCA, evCO, evAnd, evOr, evI, evO, evJs, retOf, asgn, asgns, wipe, J.ba, encPl, rd_ixt]
  · simp [evSs, evS, evE, evEs, evC, evCA, evCO, evAnd, evOr, evI, evO, evJs, retOf, asgn, asgns, wipe, J.ba, is_deeds_ok H (h x hx)]
omit H in
theorem nexts_le {q : Rw} (h : RwOk q) : (nexts q).length ≤ 6 := by
  cases q with
  | mtch r lots => obtain ⟨h1, h2, h3, h4⟩ := h; simpa [nexts] using h3
  | _ => simp [nexts]
def headW : Rw → Str
  | .number _ _ _ => "number" | .arith s _ _ _ _ => if s then "sub" else "add" | .less _ _ _ _ => "less" | .make _ _ _ _ => "make" | .call _ _ _ _ => "call" | .give _ => "give" | .mtch _ _ => "match"
omit H in
theorem head_ix (q : Rw) : rd (evIdx · (encR q) (.int 0)) = pure (.str (headW q)) := by
  cases q <;> exact rd_ixt _ _ (by simp [headW])
omit H in
theorem head_in {q : Rw} (h : hasTok q = true) : rd (evCmp .notin (.str (headW q)) (.tup [.str (Str.ofString "make"), .str (Str.ofString "match")])) = pure false := by
  cases q <;> first | (simp [hasTok] at h; done) | rfl
theorem fits_row_ok {q : Rw} {p : Pl} (hq : RwOk q) (h : PlOk q p) : callAt T fuel (k + 6) 23 [encR q, encPl p] = pure (.bl true) := by
  have rr := fun xs lo hi => is_row_t (fuel := fuel) (k := k + 4) H.t2 xs lo hi
  have nx : callAt T fuel (k + 5) 19 [encR q] = pure (ivs (nexts q)) := nexts_of_ok H hq
  have hl := nexts_le hq
  have c0 := fun a b => c23 H (fuel := fuel) (k := k) h.e (by rw [h.n]; omega) (a := a) (b := b)
  have d0 := is_deeds_ok H (fuel := fuel) (k := k) h.b
  have mt : mkT [.str (Str.ofString "make"), .str (Str.ofString "match")] = pure (.tup [.str (Str.ofString "make"), .str (Str.ofString "match")]) := mk_t _ (by decide)
  have ln : ∀ m, evBi .len m [ivs (nexts q)] = pure (.int p.edges.length) := fun m => by
    unfold ivs
    rw [bi_lent, List.length_map, h.n]
  refine call_pure H.t23 rfl ?_
  cases ht : p.token with
  | none =>
    simp only [encPl, ht, tokV] at c0 ⊢
    simp [evSs, evS, evE, evEs, evC, evCA, evCO, evAnd, evOr, evI, evO, evJs, retOf, asgn, asgns, wipe, J.ba, G.d23_fits_row, rr, rd_ixt, d0, nx, ln, c0, bi_all_true]
  | some t =>
    obtain ⟨h1, h2⟩ := h.t t ht
    have t0 := tok_ok H (fuel := fuel) (k := k + 2) h2
    simp only [encPl, ht, tokV] at c0 ⊢
    simp [evSs, evS, evE, evEs, evC, evCA, evCO, evAnd, evOr, evI, evO, evJs, retOf, asgn, asgns, wipe, J.ba, G.d23_fits_row, rr, rd_ixt, d0, nx, ln, c0, bi_all_true, head_ix, mt, head_in h1, t0]
theorem c24 {rows : List Rw} {p : FPl} (hr : ∀ q ∈ rows, RwOk q) (h : FPlOk rows p) (hl : rows.length ≤ 60) : evE ⟨callAt T fuel (k + 6), fuel⟩ G.d24_c0 [some (.tup (rows.map encR)), some (encFP p), none, none] = pure (.lst ((rows.zip p.places).map fun _ => .bl true)) := by
  refine comp_m (src := .zip (.tup (rows.map encR)) (.tup (p.places.map encPl))) ?_ (zip_items _ _ _ _) (sizeL_10 (by rw [List.length_zip]; omega)) fun x hx => ?_
  · simp [evSs, evS, evE, evEs, evC, evCA, evCO, evAnd, evOr, evI, evO, evJs, retOf, asgn, asgns, wipe, J.ba, encFP, rd_ixt, zipOk_t]
  · simp [evSs, evS, evE, evEs, evC, evCA, evCO, evAnd, evOr, evI, evO, evJs, retOf, asgn, asgns, wipe, J.ba, fits_row_ok H (hr x.1 (List.of_mem_zip hx).1) (h.w x hx)]
theorem fits_function_ok {rows : List Rw} {p : FPl} (hr : ∀ q ∈ rows, RwOk q) (h : FPlOk rows p) (hl : rows.length ≤ 60) : callAt T fuel (k + 7) 24 [.tup (rows.map encR), encFP p] = pure (.bl true) := by
  have rr := fun xs lo hi => is_row_t (fuel := fuel) (k := k + 5) H.t2 xs lo hi
  have d0 := is_deeds_ok H (fuel := fuel) (k := k + 1) h.e
  have c0 := c24 H (fuel := fuel) (k := k) hr h hl
  have n := h.n
  refine call_pure H.t24 rfl ?_
  simp only [encFP] at c0 ⊢
  simp [evSs, evS, evE, evEs, evC, evCA, evCO, evAnd, evOr, evI, evO, evJs, retOf, asgn, asgns, wipe, J.ba, G.d24_fits_function, rr, rd_ixt, d0, c0, n, bi_all_true]
theorem c25 {p : Pr} {q : List FPl} (hp : PrOk p) (h : PPOk p q) : evE ⟨callAt T fuel (k + 7), fuel⟩ G.d25_c0 [some (encP p), some (encPP q), none, none] = pure (.lst ((p.fns.zip q).map fun _ => .bl true)) := by
  refine comp_m (src := .zip (.tup (p.fns.map encF)) (.tup (q.map encFP))) ?_ (zip_items _ _ _ _) (sizeL_10 (by rw [List.length_zip]; have := hp.l12; omega)) fun x hx => ?_
  · simp [evSs, evS, evE, evEs, evC, evCA, evCO, evAnd, evOr, evI, evO, evJs, retOf, asgn, asgns, wipe, J.ba, encP, encPP, rd_ixt, zipOk_t]
  · have f0 := hp.w x.1 (List.of_mem_zip hx).1
    have := fits_function_ok H (fuel := fuel) (k := k) f0.w (h.w x hx) f0.r60
    simp [evSs, evS, evE, evEs, evC, evCA, evCO, evAnd, evOr, evI, evO, evJs, retOf, asgn, asgns, wipe, J.ba, encF, rd_ixt, this]
theorem fits_ok {p : Pr} {q : List FPl} (hp : PrOk p) (h : PPOk p q) : callAt T fuel (k + 8) 25 [encP p, encPP q] = pure (.bl true) := by
  have rr := fun xs lo hi => is_row_t (fuel := fuel) (k := k + 6) H.t2 xs lo hi
  have c0 := c25 H (fuel := fuel) (k := k) hp h
  have n := h.n
  refine call_pure H.t25 rfl ?_
  simp only [encP, encPP] at c0 ⊢
  simp [evSs, evS, evE, evEs, evC, evCA, evCO, evAnd, evOr, evI, evO, evJs, retOf, asgn, asgns, wipe, J.ba, G.d25_fits, rr, rd_ixt, c0, n, bi_all_true]
theorem need_placing_ok {p : Pr} {q : List FPl} (hp : PrOk p) (h : PPOk p q) : callAt T fuel (k + 9) 26 [encP p, encPP q] = pure .non := by
  refine call_pure H.t26 rfl ?_
  simp [evSs, evS, evE, evEs, evC, evCA, evCO, evAnd, evOr, evI, evO, evJs, retOf, asgn, asgns, wipe, J.ba, G.d26_need_placing, fits_ok H (fuel := fuel) (k := k) hp h]
end
end J

set_option autoImplicit false
set_option linter.all false
set_option maxRecDepth 100000
/-! MP: runs that change cells. -/
namespace J
open PySem
section
variable {α β : Type}
theorem bat (m : M α) (k : α → M β) (h : Hh) : (m >>= k) h = (match m h with | .ok a h' => k a h' | .exc c v h' => .exc c v h' | .bad => .bad) := rfl
@[simp] theorem pat (a : α) (h : Hh) : (pure a : M α) h = .ok a h := rfl
theorem tat (m : M α) (env : En) (k : α → M (Fl × En)) (h : Hh) : tryE m env k h = (match m h with | .ok a h' => k a h' | .exc c v h' => .ok (.exc c v, env) h' | .bad => .bad) := rfl
end
@[simp] theorem hx0 (h : Hh) (c : Cell) (t : Hh) : (h ++ c :: t)[h.length]? = some c := by simp
@[simp] theorem hx1 (h : Hh) (c d : Cell) (t : Hh) : (h ++ c :: d :: t)[h.length + 1]? = some d := by simp
@[simp] theorem hg0 (h : Hh) (c : Cell) (t : Hh) (p : h.length < (h ++ c :: t).length) : (h ++ c :: t)[h.length]'p = c := by simp
@[simp] theorem hs0 (h : Hh) (c d : Cell) (t : Hh) : (h ++ c :: t).set h.length d = h ++ d :: t := by simp
@[simp] theorem hs1 (h : Hh) (c d e : Cell) (t : Hh) : (h ++ c :: d :: t).set (h.length + 1) e = h ++ c :: e :: t := by simp
theorem mk_true {xs : List PV} (hz : xs.length ≤ sizeL) (h : Hh) : mkL true xs h = .ok (.loc h.length) (h ++ [.lst xs]) := by
  simp [mkL, hz]
theorem me_app {h : Hh} {n : Nat} {xs : List PV} (v : PV) (e : h[n]? = some (.lst xs)) (hz : xs.length + 1 ≤ sizeL) : evMe .append (.loc n) [v] h = .ok .non (h.set n (.lst (xs ++ [v]))) := by
  show wrL (.loc n) (fun xs => some (.non, xs ++ [v])) h = _
  simp [wrL, getL, e, hz, setL]
theorem me_ext {h : Hh} {n : Nat} {xs ys : List PV} {v : PV} (e : h[n]? = some (.lst xs)) (ev : getL h v = some ys) (hz : xs.length + ys.length ≤ sizeL) : evMe .extend (.loc n) [v] h = .ok .non (h.set n (.lst (xs ++ ys))) := by
  show (rd (getL · v) >>= fun ys => wrL (.loc n) fun xs => some (.non, xs ++ ys)) h = _
  have r : rd (getL · v) h = .ok ys h := by show opt (getL h v) h = _; rw [ev]; rfl
  rw [bat, r]
  show wrL (.loc n) (fun xs => some (.non, xs ++ ys)) h = _
  simp [wrL, getL, e, hz, setL]
theorem rv_loc {h : Hh} {n : Nat} {xs : List PV} {k : Me} (e : h[n]? = some (.lst xs)) (hk : k ≠ .join) : rd (recvB k (.loc n)) h = .ok () h := by
  show opt (recvB k (.loc n) h) h = _
  cases k <;> first | exact absurd rfl hk | simp [recvB, getL, e, opt]
/-- a for, turn by turn -/
theorem for_run {α : Type} {src : Src} {body : PV → En → M (Fl × En)} {l : List α} {enc : α → PV} {P : Nat → En → Hh → Prop} (hx : itemsOf src = some (l.map enc))
    (step : ∀ i a env h, l[i]? = some a → P i env h → ∃ env' h', body (enc a) env h = .ok (.next, env') h' ∧ P (i + 1) env' h') {env : En} {h : Hh} (h0 : P 0 env h) :
    ∃ env' h', forGo src body (turns h src) 0 env h = .ok (.next, env') h' ∧ P l.length env' h' := by
  have go : ∀ n i env h, l.length + 1 ≤ n + i → i ≤ l.length → P i env h → ∃ env' h', forGo src body n i env h = .ok (.next, env') h' ∧ P l.length env' h' := by
    intro n
    induction n with
    | zero => intro i env h hi hi' _; omega
    | succ n ih =>
      intro i env h hi hi' p
      have it := (items_ok hx h).1 i
      simp only [forGo, it, List.getElem?_map]
      cases q : l[i]? with
      | none =>
        have : l.length ≤ i := by simpa using q
        have : i = l.length := by omega
        subst this
        exact ⟨env, h, rfl, p⟩
      | some a =>
        obtain ⟨env', h', e, p'⟩ := step i a env h q p
        have hi2 : i < l.length := (List.getElem?_eq_some_iff.mp q).1
        simp only [Option.map_some, e]
        exact ih (i + 1) env' h' (by omega) hi2 p'
  have h2 := (items_ok hx h).2
  rw [List.length_map] at h2
  exact go _ 0 env h (by omega) (Nat.zero_le _) h0
mutual
theorem beqP_refl : ∀ x : PV, beqP x x = true
  | .non => rfl
  | .bl b => by simp [beqP]
  | .int i => by simp [beqP]
  | .str i => by simp [beqP]
  | .tup xs => by simp only [beqP]; exact beqPs_refl xs
  | .lst xs => by simp only [beqP]; exact beqPs_refl xs
  | .scr xs => by simp only [beqP]; exact beqPs_refl xs
  | .loc n => by simp [beqP]
  | .dct k xs => by simp [beqP, beqPs_refl xs]
theorem beqPs_refl : ∀ x : List PV, beqPs x x = true
  | [] => rfl
  | x :: xs => by simp [beqPs, beqP_refl x, beqPs_refl xs]
end
theorem beqC_refl (c : Cell) : beqC c c = true := by
  cases c with
  | dead => rfl
  | lst xs => exact beqPs_refl xs
  | dct k xs => simp [beqC, beqPs_refl xs]
theorem old_self (n : Nat) : ∀ (h t : Hh), oldOk n h (h ++ t) = true
  | [], _ => rfl
  | c :: h, t => by simp [oldOk, beqC_refl, old_self n h t]
mutual
theorem clo_free (n : Nat) : ∀ (x : PV), clo 0 x = true → clo n x = true
  | .non, _ => rfl
  | .bl _, _ => rfl
  | .int _, _ => rfl
  | .str _, _ => rfl
  | .tup xs, h => by simp only [clo] at h ⊢; exact clos_free n xs h
  | .lst xs, h => by simp only [clo] at h ⊢; exact clos_free n xs h
  | .scr xs, h => by simp only [clo] at h ⊢; exact clos_free n xs h
  | .dct _ xs, h => by simp only [clo] at h ⊢; exact clos_free n xs h
  | .loc m, h => by simp [clo] at h
theorem clos_free (n : Nat) : ∀ (x : List PV), clos 0 x = true → clos n x = true
  | [], _ => rfl
  | x :: xs, h => by
    simp only [clos, Bool.and_eq_true] at h ⊢
    exact ⟨clo_free n x h.1, clos_free n xs h.2⟩
end
@[simp] theorem clos_strs (n : Nat) {α : Type} (l : List α) (f : α → Str) : clos n (l.map fun a => PV.str (f a)) = true := by
  induction l with
  | nil => rfl
  | cons a l ih => simp [clos, clo, ih]
/-- a call whose new cells nobody keeps -/
theorem call_tidy {T : Nat → Option Fd} {fuel k i : Nat} {d : Fd} {xs : List PV} {v : PV} {h t : Hh} (hT : T i = some d) (hl : xs.length = d.ps) (hv : clo h.length v = true)
    (hb : (evSs ⟨callAt T fuel k, fuel⟩ d.body (xs.map some ++ List.replicate (d.slots - xs.length) none) >>= retOf) h = .ok v (h ++ t)) : callAt T fuel (k + 1) i xs h = .ok v h := by
  have e : callAt T fuel (k + 1) i xs = evDef ⟨callAt T fuel k, fuel⟩ d xs := by simp only [callAt, hT]
  rw [e]
  unfold evDef
  rw [if_pos hl]
  unfold tidy
  change (match (evSs ⟨callAt T fuel k, fuel⟩ d.body (xs.map some ++ List.replicate (d.slots - xs.length) none) >>= retOf) h with
    | .ok v h' => if clo h.length v && oldOk h.length h h' then Out.ok v (h'.take h.length) else .ok v h'
    | r => r) = _
  rw [hb]
  simp [hv, old_self]
/-- a call whose new cells live on -/
theorem call_keep {T : Nat → Option Fd} {fuel k i : Nat} {d : Fd} {xs : List PV} {n : Nat} {h h' : Hh} (hT : T i = some d) (hl : xs.length = d.ps) (hv : h.length ≤ n)
    (hb : (evSs ⟨callAt T fuel k, fuel⟩ d.body (xs.map some ++ List.replicate (d.slots - xs.length) none) >>= retOf) h = .ok (.loc n) h') : callAt T fuel (k + 1) i xs h = .ok (.loc n) h' := by
  have e : callAt T fuel (k + 1) i xs = evDef ⟨callAt T fuel k, fuel⟩ d xs := by simp only [callAt, hT]
  rw [e]
  unfold evDef
  rw [if_pos hl]
  unfold tidy
  change (match (evSs ⟨callAt T fuel k, fuel⟩ d.body (xs.map some ++ List.replicate (d.slots - xs.length) none) >>= retOf) h with
    | .ok v h' => if clo h.length v && oldOk h.length h h' then Out.ok v (h'.take h.length) else .ok v h'
    | r => r) = _
  rw [hb]
  have : clo h.length (.loc n) = false := by simp [clo]; omega
  simp [this]
theorem me_app0 (h : Hh) (xs : List PV) (v : PV) (hz : xs.length + 1 ≤ 16777216) : evMe .append (.loc h.length) [v] (h ++ [.lst xs]) = .ok .non (h ++ [.lst (xs ++ [v])]) := by
  rw [me_app v (hx0 h (.lst xs) []) hz, hs0]
theorem me_ext0 (h : Hh) (xs ys : List PV) (hz : xs.length + ys.length ≤ 16777216) : evMe .extend (.loc h.length) [.lst ys] (h ++ [.lst xs]) = .ok .non (h ++ [.lst (xs ++ ys)]) := by
  rw [me_ext (ys := ys) (hx0 h (.lst xs) []) rfl hz, hs0]
@[simp] theorem rv_a0 (h : Hh) (xs : List PV) : rd (recvB .append (.loc h.length)) (h ++ [.lst xs]) = .ok () (h ++ [.lst xs]) := rv_loc (hx0 h (.lst xs) []) (by decide)
@[simp] theorem rv_e0 (h : Hh) (xs : List PV) : rd (recvB .extend (.loc h.length)) (h ++ [.lst xs]) = .ok () (h ++ [.lst xs]) := rv_loc (hx0 h (.lst xs) []) (by decide)
theorem mk_t0 (h : Hh) (xs : List PV) (hz : xs.length ≤ 16777216) : mkL true xs h = .ok (.loc h.length) (h ++ [.lst xs]) := mk_true hz h
theorem mk_f0 (xs : List PV) (hz : xs.length ≤ 16777216) : mkL false xs = pure (.lst xs) := mk_l xs hz
theorem ev_cat (m : Bool) (xs ys : List PV) : evBin .add m (.lst xs) (.lst ys) = mkL m (xs ++ ys) := rfl
@[simp] theorem ix0 (x : PV) (t : List PV) : rd (evIdx · (.tup (x :: t)) (.int 0)) = pure x := rd_ixt _ _ (by simp)
@[simp] theorem ix1 (x y : PV) (t : List PV) : rd (evIdx · (.tup (x :: y :: t)) (.int 1)) = pure y := rd_ixt _ _ (by simp)
@[simp] theorem ix2 (x y z : PV) (t : List PV) : rd (evIdx · (.tup (x :: y :: z :: t)) (.int 2)) = pure z := rd_ixt _ _ (by simp)
@[simp] theorem ix3 (x y z u : PV) (t : List PV) : rd (evIdx · (.tup (x :: y :: z :: u :: t)) (.int 3)) = pure u := rd_ixt _ _ (by simp)
@[simp] theorem ix4 (x y z u v : PV) (t : List PV) : rd (evIdx · (.tup (x :: y :: z :: u :: v :: t)) (.int 4)) = pure v := rd_ixt _ _ (by simp)
@[simp] theorem ixm2 (x y : PV) : rd (evIdx · (.tup [x, y]) (.int (-1))) = pure y := rd_ixt _ _ (by simp [L2.atI, L2.ixN])
@[simp] theorem ixm4 (x y z u : PV) : rd (evIdx · (.tup [x, y, z, u]) (.int (-1))) = pure u := rd_ixt _ _ (by simp [L2.atI, L2.ixN])
@[simp] theorem ixm5 (x y z u v : PV) : rd (evIdx · (.tup [x, y, z, u, v]) (.int (-1))) = pure v := rd_ixt _ _ (by simp [L2.atI, L2.ixN])
/-- a loop that only adds to the last list -/
theorem acc_loop {α : Type} {c : Ctx} {t : Tg} {it : It} {body : Ss} {src : Src} {l : List α} {enc : α → PV} {P : En → Prop} {g : α → List PV} {h : Hh} {acc : List PV} {env : En} {B : Nat} (hi : ∀ z, evI c it env z = .ok src z) (hx : itemsOf src = some (l.map enc))
    (hB : acc.length + (l.flatMap g).length ≤ B)
    (step : ∀ a env acc, a ∈ l → P env → acc.length + (g a).length ≤ B → ∃ env', P env' ∧ (opt (asgn t (enc a) env) >>= fun env' => evSs c body env') (h ++ [.lst acc]) = .ok (.next, env') (h ++ [.lst (acc ++ g a)])) (h0 : P env) :
    ∃ env', P env' ∧ evS c (.for t it body) env (h ++ [.lst acc]) = .ok (.next, env') (h ++ [.lst (acc ++ l.flatMap g)]) := by
  obtain ⟨env', h', e, p, eh⟩ := for_run (src := src) (body := fun x env => opt (asgn t x env) >>= fun env' => evSs c body env') (P := fun i env z => P env ∧ z = h ++ [.lst (acc ++ (l.take i).flatMap g)]) hx
    (fun i a env z ha ⟨p, hz⟩ => by
      subst hz
      have hi : i < l.length := (List.getElem?_eq_some_iff.mp ha).1
      have tk : l.take (i + 1) = l.take i ++ [a] := by rw [List.take_add_one, ha]; rfl
      have le : ((l.take (i + 1)).flatMap g).length ≤ (l.flatMap g).length := by
        have : l.flatMap g = (l.take (i + 1)).flatMap g ++ (l.drop (i + 1)).flatMap g := by rw [← List.flatMap_append, List.take_append_drop]
        rw [this, List.length_append]; omega
      have e1 : (l.take (i + 1)).flatMap g = (l.take i).flatMap g ++ g a := by rw [tk, List.flatMap_append]; simp
      rw [e1, List.length_append] at le
      obtain ⟨env', p', e⟩ := step a env (acc ++ (l.take i).flatMap g) (List.mem_of_getElem? ha) p (by rw [List.length_append]; omega)
      exact ⟨env', _, e, p', by rw [e1, List.append_assoc]⟩)
    (env := env) (h := h ++ [.lst acc]) ⟨h0, by simp⟩
  refine ⟨env', p, ?_⟩
  show tryE (evI c it env) env (fun src => fun z => forGo src (fun x env => opt (asgn t x env) >>= fun env' => evSs c body env') (turns z src) 0 env z) (h ++ [.lst acc]) = _
  rw [tat, hi]
  rw [List.take_length] at eh
  rw [← eh]
  exact e
end J

set_option autoImplicit false
set_option linter.all false
set_option maxRecDepth 100000
set_option maxHeartbeats 1000000
namespace J
open PySem
/-! ### lists with commas -/
abbrev W := List Nat
def sepW : List W → List W
  | [] => []
  | [x] => [x]
  | x :: y :: r => x :: [44] :: sepW (y :: r)
def brk (l : List W) : List W := [40] :: (sepW l ++ [[41]])
theorem sepW_snoc : ∀ (l : List W) (x : W), sepW (l ++ [x]) = sepW l ++ (if l = [] then [] else [[44]]) ++ [x]
  | [], x => rfl
  | [y], x => rfl
  | y :: z :: r, x => by
    have ih := sepW_snoc (z :: r) x
    simp only [List.cons_append, sepW] at ih ⊢
    rw [ih]
    simp
theorem sepW_le (l : List W) : (sepW l).length ≤ 2 * l.length := by
  induction l with
  | nil => simp [sepW]
  | cons x r ih => cases r with
    | nil => simp [sepW]
    | cons y r => simp only [sepW, List.length_cons] at ih ⊢; omega
structure Hw (T : Nat → Option Fd) : Prop extends Hs T where
  t27 : T 27 = some G.d27_bracket_words
  t28 : T 28 = some G.d28_register_words
  t29 : T 29 = some G.d29_deed_words
  t30 : T 30 = some G.d30_next_words
  t31 : T 31 = some G.d31_case_words
  t32 : T 32 = some G.d32_setting_words
  t33 : T 33 = some G.d33_row_words
  t34 : T 34 = some G.d34_write_text
theorem enum_items (ws : List PV) (v : PV) (hv : v = .lst ws ∨ v = .tup ws) : itemsOf (.enum v) = some (ws.zipIdx.map fun p => .tup [.int (p.2 : Nat), p.1]) := by
  rcases hv with rfl | rfl
  · show some (ws.mapIdx fun i x => PV.tup [.int i, x]) = _
    rw [List.mapIdx_eq_zipIdx_map]
  · show some (ws.mapIdx fun i x => PV.tup [.int i, x]) = _
    rw [List.mapIdx_eq_zipIdx_map]
theorem zipIdx_at {α : Type} {l : List α} {i : Nat} {a : α × Nat} (h : l.zipIdx[i]? = some a) : l[i]? = some a.1 ∧ a.2 = i := by
  rw [List.getElem?_zipIdx] at h
  rw [Option.map_eq_some_iff] at h
  obtain ⟨x, e, rfl⟩ := h
  exact ⟨e, by simp⟩
theorem rd_ie {ws : List PV} {v : PV} (hv : v = .lst ws ∨ v = .tup ws) : rd (item · (.enum v) 0) = pure ((ws.zipIdx.map fun p => PV.tup [.int (p.2 : Nat), p.1])[0]?) := rd_item (enum_items ws v hv)
section
variable {T : Nat → Option Fd} {fuel k : Nat} (H : Hw T)
include H
theorem bracket_ok {ws : List W} {v : PV} (hv : v = .lst (ws.map sv) ∨ v = .tup (ws.map sv)) (hl : ws.length ≤ 1000) (h : Hh) : callAt T fuel (k + 1) 27 [v] h = .ok (.lst ((brk ws).map sv)) h := by
  have loop : ∃ env', evS ⟨callAt T fuel k, fuel⟩ G.d27_l1 [some v, some (.loc h.length), none, none] (h ++ [.lst [sv [40]]]) = .ok (.next, env') (h ++ [.lst (([40] :: sepW ws).map sv)]) ∧ ∃ a b, env' = [some v, some (.loc h.length), a, b] := by
    have e0 : ∀ g, evI ⟨callAt T fuel k, fuel⟩ (.enum (.var 0)) [some v, some (.loc h.length), none, none] g = .ok (.enum v) g := fun g => by simp [evSs, evS, evE, evEs, evC, evCA, evCO, evAnd, evOr, evI, evO, evJs, retOf, asgn, asgns, wipe, J.ba, rd_ie hv]
    have run := for_run (src := .enum v) (body := fun x env => opt (asgn (.cons (.name 2) (.cons (.name 3) .nil)) x env) >>= fun env' => evSs ⟨callAt T fuel k, fuel⟩ G.d27_b0 env') (l := (ws.map sv).zipIdx)
      (P := fun i env g => (∃ a b, env = [some v, some (.loc h.length), a, b]) ∧ g = h ++ [.lst (([40] :: sepW (ws.take i)).map sv)]) (enum_items _ _ hv)
      (fun i a env g ha ⟨⟨x, y, hx⟩, hg⟩ => by
        obtain ⟨e1, e2⟩ := zipIdx_at ha
        rw [List.getElem?_map, Option.map_eq_some_iff] at e1
        obtain ⟨w, e1, e3⟩ := e1
        subst hx hg
        have hi : i < ws.length := (List.getElem?_eq_some_iff.mp e1).1
        have tk : ws.take (i + 1) = ws.take i ++ [w] := by rw [List.take_add_one, e1]; rfl
        have le := sepW_le (ws.take i)
        have lt : (ws.take i).length = i := by simp; omega
        refine ⟨[some v, some (.loc h.length), some (.int (i : Nat)), some (sv w)], _, ?_, ⟨_, _, rfl⟩, rfl⟩
        rw [tk, sepW_snoc]
        have sz : ∀ n, n ≤ 10 → ((sepW (ws.take i)).map sv).length + n ≤ sizeL := fun n hn => by
          rw [List.length_map]; rw [lt] at le; exact Nat.le_trans (by omega : _ ≤ 3000) (by decide)
        have e44 : (Str.ofString ",") = st [44] := rfl
        by_cases h0 : i = 0
        · subst h0
          simp (disch := first | (simp only [List.length_append, List.length_map, List.length_cons, List.length_nil]; omega) | omega) [evSs, evS, evE, evEs, evC, evCA, evCO, evAnd, evOr, evI, evO, evJs, retOf, asgn, asgns, wipe, bat, tat, me_app0, me_ext0, mk_t0, mk_f0, ev_cat, ← e3, e2, G.d27_b0, sepW]
        · have hp : 0 < i := by omega
          have ne : ¬ ws.take i = [] := fun z => by rw [z] at lt; simp at lt; omega
          have nw : ¬ ws = [] := fun z => by subst z; simp at hi
          simp (disch := first | (simp only [List.length_append, List.length_map, List.length_cons, List.length_nil]; omega) | omega) [evSs, evS, evE, evEs, evC, evCA, evCO, evAnd, evOr, evI, evO, evJs, retOf, asgn, asgns, wipe, bat, tat, me_app0, me_ext0, mk_t0, mk_f0, ev_cat, ← e3, e2, G.d27_b0, hp, e44, h0, nw])
      (env := [some v, some (.loc h.length), none, none]) (h := h ++ [.lst [sv [40]]]) ⟨⟨_, _, rfl⟩, rfl⟩
    obtain ⟨env', h', r1, ⟨x, y, hx⟩, hg⟩ := run
    subst hx hg
    refine ⟨[some v, some (.loc h.length), x, y], ?_, x, y, rfl⟩
    have tl : ws.take (ws.map sv).zipIdx.length = ws := by simp
    rw [tl] at r1
    show tryE (evI ⟨callAt T fuel k, fuel⟩ (.enum (.var 0)) [some v, some (.loc h.length), none, none]) _ _ _ = _
    rw [tat, e0]
    exact r1
  obtain ⟨env', e1, a, b, rfl⟩ := loop
  have le := sepW_le ws
  refine call_tidy (t := [.dead]) H.t27 rfl (by simp [clo]) ?_
  have e40 : (Str.ofString "(") = st [40] := rfl
  have e41 : (Str.ofString ")") = st [41] := rfl
  simp (disch := first | (simp only [List.length_append, List.length_map, List.length_cons, List.length_nil]; omega) | omega) [evSs, evS, evE, evEs, evC, evCA, evCO, evAnd, evOr, evI, evO, evJs, retOf, asgn, asgns, wipe, bat, tat, me_app0, me_ext0, mk_t0, mk_f0, ev_cat, G.d27_bracket_words, e40, e41]
  simp only [sv] at e1
  simp (disch := first | (simp only [List.length_append, List.length_map, List.length_cons, List.length_nil]; omega) | omega) [evSs, evS, evE, evEs, evC, evCA, evCO, evAnd, evOr, evI, evO, evJs, retOf, asgn, asgns, wipe, bat, tat, me_app0, me_ext0, mk_t0, mk_f0, ev_cat, e1, brk]
omit H in
/-- a number's text -/
def numT (i : Int) : W := (Str.ofString (toString i)).cps.toList
omit H in
theorem num_st (i : Int) : Str.ofString (toString i) = st (numT i) := st_of _
omit H in
theorem num_rp (i : Int) : Str.ofString i.repr = st (numT i) := num_st i
omit H in
def NumOk (i : Int) : Prop := (numT i).length ≤ 20 ∧ i.natAbs.log2 < 1920
omit H in
theorem fmt_i {i : Int} (h : NumOk i) : (if i.natAbs.log2 < 1920 then pure (.str (toString i)) else bad : M PV) = pure (.str (st (numT i))) := by
  rw [if_pos h.2]
  show pure (PV.str (Str.ofString (toString i))) = _
  rw [num_st]
omit H in
theorem bi_str_i (m : Bool) {i : Int} (h : NumOk i) : evBi .str m [.int i] = pure (.str (st (numT i))) := fmt_i h
def rW (i : Int) : W := 114 :: numT i
def tW (i : Int) : W := 116 :: numT i
omit H in
/-- f'r{i}' -/
theorem fst2 {c : Ctx} {e : E} {env : En} {x : Nat} {i : Int} {w : String} (hw : Str.ofString w = st [x]) (he : evE c e env = pure (.int i)) (h : NumOk i) : evE c (.fstr (.cons (.str (Str.ofString w)) (.cons (.fmt e) .nil))) env = pure (.str (st (x :: numT i))) := by
  have e0 : Str.empty = st [] := rfl
  have l1 : 1 ≤ sizeL := by decide
  have l2 : 1 + (numT i).length ≤ sizeL := by have := h.1; exact Nat.le_trans (by omega : _ ≤ 100) (by decide)
  have f1 := fmt_i h
  have f2 : i.natAbs.log2 < 1920 := h.2
  rw [if_pos f2] at f1
  have f3 : PV.str (Str.ofString (toString i)) = PV.str (st (numT i)) := by rw [num_st]
  simp [evSs, evS, evE, evEs, evC, evCA, evCO, evAnd, evOr, evI, evO, evJs, retOf, asgn, asgns, wipe, J.ba, he, hw, e0, l1, l2, f2, num_rp]
/-! ### deeds -/
omit H in
def dW : Dd → List W
  | .hold r => [[104, 111, 108, 100], rW r]
  | .drop r => [[100, 114, 111, 112], rW r]
  | .free t f => [[102, 114, 101, 101], tW t, [58], numT f]
omit H in
def deedsW (l : List Dd) : List W := [123] :: (l.flatMap dW ++ [[125]])
omit H in
theorem num_small {i : Int} (h : i.natAbs < 10 ^ 15) : NumOk i := by
  refine ⟨?_, ?_⟩
  · have key : ∀ n : Nat, n < 10 ^ 15 → (Nat.toDigits 10 n).length ≤ 15 := fun n hn => by
      have e := (Nat.length_repr_le_iff (n := n) (by decide : 0 < 15)).mpr hn
      rwa [← String.length_toList, Nat.toList_repr] at e
    cases i with
    | ofNat n =>
      have e : numT (Int.ofNat n) = (Nat.toDigits 10 n).map Char.toNat := PySem.W.KIN.signs_num n
      rw [e, List.length_map]
      exact Nat.le_trans (key n (by simpa using h)) (by decide)
    | negSucc n =>
      have e : (numT (Int.negSucc n)).length = (Nat.toDigits 10 (n + 1)).length + 1 := by
        show ((Str.ofString (toString (Int.negSucc n))).cps.toList).length = _
        have : toString (Int.negSucc n) = "-" ++ Nat.repr (n + 1) := rfl
        rw [this, PySem.Str.ofString_eq_toList]
        simp [String.toList_append, Nat.toList_repr, Nat.add_comm]
      rw [e]
      have := key (n + 1) (by simpa using h)
      omega
  · rcases Nat.eq_zero_or_pos i.natAbs with z | z
    · rw [z]; decide
    · exact (Nat.log2_lt (by omega)).mpr (Nat.lt_trans h (by
        have : (2 : Nat) ^ 1920 = 2 ^ 50 * 2 ^ 1870 := by rw [← Nat.pow_add]
        rw [this]
        have : 0 < (2 : Nat) ^ 1870 := Nat.pow_pos (by decide)
        calc 10 ^ 15 < 2 ^ 50 := by decide
          _ ≤ 2 ^ 50 * 2 ^ 1870 := Nat.le_mul_of_pos_right _ this))
omit H in
theorem n1 {i : Int} (h : NumOk i) : i.natAbs.log2 < 1920 := h.2
omit H in
theorem n2 {i : Int} (h : NumOk i) : 1 + (numT i).length ≤ sizeL := by have := h.1; exact Nat.le_trans (by omega : _ ≤ 100) (by decide)
omit H in
theorem e0S : Str.empty = st [] := rfl
omit H in
theorem l1S : 1 ≤ sizeL := by decide
theorem deed_words_ok {l : List Dd} (hd : DsOk l) (h : Hh) : callAt T fuel (k + 1) 29 [encDs l] h = .ok (.loc (h.length + 1)) (h ++ [.dead, .lst ((deedsW l).map sv)]) := by
  have hn : ∀ {i : Int}, 0 ≤ i → i ≤ 100 → NumOk i := fun h0 h1 => num_small (by omega)
  have hB : ([123] :: ([] : List W)).length + (l.flatMap dW).length ≤ 1000 := by
    have := flat_le (l := l) (f := dW) (n := 4) fun d _ => by cases d <;> simp [dW]
    have := hd.1
    simp only [List.length_cons, List.length_nil]; omega
  have e123 : Str.ofString "{" = st [123] := rfl
  have e125 : Str.ofString "}" = st [125] := rfl
  obtain ⟨env', ⟨x, hx⟩, e1⟩ := acc_loop (c := ⟨callAt T fuel k, fuel⟩) (t := .name 2) (it := .val (.var 0)) (body := G.d29_b0) (src := .seq (encDs l)) (l := l) (enc := encD) (g := fun d => (dW d).map sv) (h := h) (acc := [sv [123]]) (env := [some (encDs l), some (.loc h.length), none]) (B := 1000)
    (P := fun env => ∃ x, env = [some (encDs l), some (.loc h.length), x]) (fun z => by simp [evSs, evS, evE, evEs, evC, evCA, evCO, evAnd, evOr, evI, evO, evJs, retOf, asgn, asgns, wipe, J.ba, encDs]) rfl (by
      have e : (l.flatMap fun d => (dW d).map sv) = (l.flatMap dW).map sv := by rw [List.map_flatMap]
      rw [e, List.length_map]; simpa using hB)
    (fun d env acc hm ⟨x, hx⟩ hb => by
      subst hx
      refine ⟨[some (encDs l), some (.loc h.length), some (encD d)], ⟨_, rfl⟩, ?_⟩
      have dk := hd.2 d hm
      cases d with
      | hold r =>
        have nr := hn dk.1 (by have := dk.2; omega : r ≤ 100)
        have z1 : Str.ofString "r" = st [114] := rfl
        have z2 : Str.ofString "hold" = st [104, 111, 108, 100] := rfl
        have z3 : Str.ofString "free" = st [102, 114, 101, 101] := rfl
        simp (disch := first | (simp only [List.length_append, List.length_map, List.length_cons, List.length_nil]; omega) | omega) [evSs, evS, evE, evEs, evC, evCA, evCO, evAnd, evOr, evI, evO, evJs, retOf, asgn, asgns, wipe, bat, tat, me_app0, me_ext0, mk_t0, mk_f0, ev_cat, encD, dW, rW, G.d29_b0, z1, z2, z3, num_rp, n1 nr, n2 nr, e0S, l1S]
      | drop r =>
        have nr := hn dk.1 (by have := dk.2; omega : r ≤ 100)
        have z1 : Str.ofString "r" = st [114] := rfl
        have z2 : Str.ofString "drop" = st [100, 114, 111, 112] := rfl
        have z3 : Str.ofString "free" = st [102, 114, 101, 101] := rfl
        simp (disch := first | (simp only [List.length_append, List.length_map, List.length_cons, List.length_nil]; omega) | omega) [evSs, evS, evE, evEs, evC, evCA, evCO, evAnd, evOr, evI, evO, evJs, retOf, asgn, asgns, wipe, bat, tat, me_app0, me_ext0, mk_t0, mk_f0, ev_cat, encD, dW, rW, G.d29_b0, z1, z2, z3, num_rp, n1 nr, n2 nr, e0S, l1S]
      | free t f =>
        have nt := hn dk.1.1 (by have := dk.1.2; omega : t ≤ 100)
        have nf := hn dk.2.1 (by have := dk.2.2; omega : f ≤ 100)
        have z1 : Str.ofString "t" = st [116] := rfl
        have z2 : Str.ofString ":" = st [58] := rfl
        have z3 : Str.ofString "free" = st [102, 114, 101, 101] := rfl
        have b0 := fun m => bi_str_i m nf
        simp only [dW, List.length_map, List.length_cons, List.length_nil] at hb
        simp (disch := first | (simp only [List.length_append, List.length_map, List.length_cons, List.length_nil]; omega) | omega) [evSs, evS, evE, evEs, evC, evCA, evCO, evAnd, evOr, evI, evO, evJs, retOf, asgn, asgns, wipe, bat, tat, me_app0, me_ext0, mk_t0, mk_f0, ev_cat, encD, dW, tW, G.d29_b0, z1, z2, z3, num_rp, n1 nt, n2 nt, e0S, l1S, b0]) ⟨_, rfl⟩
  subst hx
  have e2 : (l.flatMap fun d => (dW d).map sv) = (l.flatMap dW).map sv := by rw [List.map_flatMap]
  rw [e2] at e1
  simp only [List.length_cons, List.length_nil] at hB
  refine call_keep H.t29 rfl (by omega) ?_
  have e3 : evS ⟨callAt T fuel k, fuel⟩ G.d29_l1 [some (encDs l), some (.loc h.length), none] (h ++ [.lst [.str (st [123])]]) = _ := e1
  simp (disch := first | (simp only [List.length_append, List.length_map, List.length_cons, List.length_nil]; omega) | omega) [evSs, evS, evE, evEs, evC, evCA, evCO, evAnd, evOr, evI, evO, evJs, retOf, asgn, asgns, wipe, bat, tat, me_app0, me_ext0, mk_t0, mk_f0, ev_cat, G.d29_deed_words, e123, e125, e3]
  simp [deedsW]
omit H in
def dD : Dd → PyData
  | .hold r => .tuple [.str (Str.ofString "hold"), .int r]
  | .drop r => .tuple [.str (Str.ofString "drop"), .int r]
  | .free t f => .tuple [.str (Str.ofString "free"), .int t, .int f]
omit H in
theorem dOf_d (d : Dd) : dOf (encD d) = some (dD d) := by cases d <;> rfl
omit H in
theorem dsOf_d (l : List Dd) : dsOf (l.map encD) = some (l.map dD) := by
  induction l with
  | nil => rfl
  | cons d l ih => simp [dsOf, dOf_d, ih]
omit H in
theorem canLay_d (l : List Dd) : PyData.canLayAll0 (l.map dD) = true := by
  induction l with
  | nil => rfl
  | cons d l ih =>
    simp only [List.map_cons, PyData.canLayAll0, Bool.and_eq_true]
    refine ⟨?_, ih⟩
    cases d <;> simp [dD, PyData.canLay0, PyData.canLayAll0] <;> decide +kernel
omit H in
theorem depth_d (l : List Dd) : PyData.depthAll (l.map dD) ≤ 1 := by
  induction l with
  | nil => decide
  | cons d l ih =>
    simp only [List.map_cons, PyData.depthAll]
    have : (dD d).depth ≤ 1 := by cases d <;> simp [dD, PyData.depth, PyData.depthAll]
    omega
omit H in
theorem ne_unit (l : List Dd) : rd (evCmp .ne (encDs l) (.tup [])) = pure (!decide (l = [])) := by
  refine rd_of fun h => ?_
  have s1 : SeqAt.shaped (PyData.tuple (l.map dD)) = true := by
    have := depth_d l
    unfold SeqAt.shaped
    rw [Bool.and_eq_true, decide_eq_true_eq]
    refine ⟨canLay_d l, ?_⟩
    show PyData.depthAll (l.map dD) + 1 ≤ 64
    omega
  have s2 : SeqAt.shaped (PyData.tuple []) = true := by decide
  show (evEq h (encDs l) (.tup [])).map (!·) = _
  have e : evEq h (encDs l) (.tup []) = (if SeqAt.shaped (PyData.tuple (l.map dD)) && SeqAt.shaped (PyData.tuple []) then some (PyData.eqv (.tuple (l.map dD)) (.tuple [])) else none) := by
    show (match dTop h (encDs l), dTop h (.tup []) with | some d, some e => if SeqAt.shaped d && SeqAt.shaped e then some (PyData.eqv d e) else none | _, _ => none) = _
    have d1 : dTop h (encDs l) = some (.tuple (l.map dD)) := by
      show (dsOf (l.map encD)).map PyData.tuple = _
      rw [dsOf_d]; rfl
    have d2 : dTop h (.tup []) = some (.tuple []) := rfl
    rw [d1, d2]
  rw [e, s1, s2]
  cases l <;> simp [PyData.eqv, PyData.eqvAll]
omit H in
theorem mk_t_nil : mkT [] = pure (.tup []) := mk_t _ (by decide)
omit H in
def nextW (f : Int) (ds : List Dd) : List W := [45, 62] :: ((if ds = [] then [] else deedsW ds) ++ [numT f])
omit H in
theorem dW_le (l : List Dd) : (l.flatMap dW).length ≤ l.length * 4 := flat_le fun d _ => by cases d <;> simp [dW]
omit H in
theorem deedsW_le {l : List Dd} (h : DsOk l) : (deedsW l).length ≤ 242 := by
  have := dW_le l
  have := h.1
  simp only [deedsW, List.length_cons, List.length_append, List.length_nil]
  omega
omit H in
theorem cat_loc (m : Bool) (h : Hh) (xs ys : List PV) (c : Cell) : evBin .add m (.lst xs) (.loc (h.length + 1)) (h ++ [c, .lst ys]) = mkL m (xs ++ ys) (h ++ [c, .lst ys]) := by
  show (rd (getL · (.lst xs)) >>= fun xs => rd (getL · (.loc (h.length + 1))) >>= fun ys => mkL m (xs ++ ys)) (h ++ [c, .lst ys]) = _
  have r : rd (getL · (.loc (h.length + 1))) (h ++ [c, .lst ys]) = .ok ys (h ++ [c, .lst ys]) := by
    show opt (getL (h ++ [c, .lst ys]) (.loc (h.length + 1))) _ = _
    simp only [getL, hx1]; rfl
  show (rd (getL · (.loc (h.length + 1))) >>= fun ys => mkL m (xs ++ ys)) (h ++ [c, .lst ys]) = _
  rw [bat, r]
theorem next_words_ok {f : Int} {ds : List Dd} (hd : DsOk ds) (hf : Nxt f) (h : Hh) : callAt T fuel (k + 2) 30 [.int f, encDs ds] h = .ok (.lst ((nextW f ds).map sv)) h := by
  have nf : NumOk f := num_small (by have := hf.1; have := hf.2; omega)
  have b0 := fun m => bi_str_i m nf
  have z1 : Str.ofString "->" = st [45, 62] := rfl
  by_cases e : ds = []
  · subst e
    have u := ne_unit []
    refine call_tidy (t := []) H.t30 rfl (by simp [clo]) ?_
    simp (disch := first | (simp only [List.length_append, List.length_map, List.length_cons, List.length_nil]; omega) | omega) [evSs, evS, evE, evEs, evC, evCA, evCO, evAnd, evOr, evI, evO, evJs, retOf, asgn, asgns, wipe, bat, tat, me_app0, me_ext0, mk_t0, mk_f0, ev_cat, G.d30_next_words, mk_t_nil, u, z1, b0, nextW]
  · have u := ne_unit ds
    have c0 := deed_words_ok H (fuel := fuel) (k := k) hd h
    have le := deedsW_le hd
    refine call_tidy (t := [.dead, .lst ((deedsW ds).map sv)]) H.t30 rfl (by simp [clo]) ?_
    simp (disch := first | (simp only [List.length_append, List.length_map, List.length_cons, List.length_nil]; omega) | omega) [evSs, evS, evE, evEs, evC, evCA, evCO, evAnd, evOr, evI, evO, evJs, retOf, asgn, asgns, wipe, bat, tat, me_app0, me_ext0, mk_t0, mk_f0, ev_cat, G.d30_next_words, mk_t_nil, u, e, c0, z1, b0, nextW, cat_loc]
end
end J

set_option autoImplicit false
set_option linter.all false
set_option maxRecDepth 100000
set_option maxHeartbeats 2000000
namespace J
open PySem
theorem reg_num {r : Int} (h : Reg r) : NumOk r := num_small (by have := h.1; have := h.2; omega)
theorem tok_num {r : Int} (h : Tok' r) : NumOk r := num_small (by have := h.1; have := h.2; omega)
theorem nxt_num {r : Int} (h : Nxt r) : NumOk r := num_small (by have := h.1; have := h.2; omega)
theorem brk_len (l : List W) : (brk l).length ≤ 2 * l.length + 2 := by
  have := sepW_le l
  simp only [brk, List.length_cons, List.length_append, List.length_nil]; omega
def caseW (r : Int) (t : Option Int) (lots : List ((List Int × Int) × List Dd)) : List W :=
  [[99, 97, 115, 101], rW r] ++ (match t with | none => [] | some t => [[105, 110, 116, 111], tW t]) ++ lots.zipIdx.flatMap fun q => (if 0 < q.2 then [[44]] else []) ++ (brk (q.1.1.1.map rW) ++ nextW q.1.1.2 q.1.2)
section
variable {T : Nat → Option Fd} {fuel k : Nat} (H : Hw T)
include H
omit H in
theorem c28 {c : Ctx} {l : List Int} (h : ∀ i ∈ l, Reg i) (hl : l.length ≤ 100) : evE c G.d28_c0 [some (ivs l), none] = pure (.lst ((l.map rW).map sv)) := by
  have z1 : Str.ofString "r" = st [114] := rfl
  have := comp_m (c := c) (env := [some (ivs l), none]) (own := [1]) (t := .name 1) (it := .val (.var 0)) (elt := .fstr (.cons (.str "r") (.cons (.fmt (.var 1)) .nil))) (src := .seq (ivs l)) (enc := PV.int) (l := l) (f := fun i => .str (st (rW i))) (by simp [evSs, evS, evE, evEs, evC, evCA, evCO, evAnd, evOr, evI, evO, evJs, retOf, asgn, asgns, wipe, J.ba, ivs]) rfl (sizeL_10 hl) fun x hx => by
    have nr := reg_num (h x hx)
    simp [evSs, evS, evE, evEs, evC, evCA, evCO, evAnd, evOr, evI, evO, evJs, retOf, asgn, asgns, wipe, J.ba, rW, z1, num_rp, n1 nr, n2 nr, e0S, l1S]
  rw [List.map_map]
  exact this
theorem register_words_ok {l : List Int} (h : ∀ i ∈ l, Reg i) (hl : l.length ≤ 100) (g : Hh) : callAt T fuel (k + 2) 28 [ivs l] g = .ok (.lst ((brk (l.map rW)).map sv)) g := by
  have c0 := fun c => c28 (c := c) h hl
  have b0 := bracket_ok H (fuel := fuel) (k := k) (ws := l.map rW) (.inl rfl) (by rw [List.length_map]; omega) g
  generalize l.map rW = ws at c0 b0 ⊢
  refine call_tidy (t := []) H.t28 rfl (by simp [clo]) ?_
  simp (disch := first | (simp only [List.length_append, List.length_map, List.length_cons, List.length_nil]; omega) | omega) [evSs, evS, evE, evEs, evC, evCA, evCO, evAnd, evOr, evI, evO, evJs, retOf, asgn, asgns, wipe, bat, tat, me_app0, me_ext0, mk_t0, mk_f0, ev_cat, G.d28_register_words, c0, b0]
omit H in
theorem cat_loc0 (m : Bool) (h : Hh) (xs ys : List PV) : evBin .add m (.loc h.length) (.lst ys) (h ++ [.lst xs]) = mkL m (xs ++ ys) (h ++ [.lst xs]) := by
  show (rd (getL · (.loc h.length)) >>= fun xs => rd (getL · (.lst ys)) >>= fun ys => mkL m (xs ++ ys)) (h ++ [.lst xs]) = _
  have r : rd (getL · (.loc h.length)) (h ++ [.lst xs]) = .ok xs (h ++ [.lst xs]) := by
    show opt (getL (h ++ [.lst xs]) (.loc h.length)) _ = _
    simp only [getL, hx0]; rfl
  rw [bat, r]
  rfl
omit H in
theorem z_r : Str.ofString "r" = st [114] := rfl
omit H in
theorem z_eq : Str.ofString "=" = st [61] := rfl
omit H in
theorem z_pl : Str.ofString "+" = st [43] := rfl
omit H in
theorem z_mi : Str.ofString "-" = st [45] := rfl
omit H in
theorem z_in : Str.ofString "in" = st [105, 110] := rfl
omit H in
theorem z_t : Str.ofString "t" = st [116] := rfl
omit H in
theorem mt_as : mkT [.str (Str.ofString "add"), .str (Str.ofString "sub")] = pure (.tup [.str (Str.ofString "add"), .str (Str.ofString "sub")]) := mk_t _ (by decide)
omit H in
theorem in_as (x : Str) : rd (evCmp .isin (.str x) (.tup [.str (Str.ofString "add"), .str (Str.ofString "sub")])) = pure (Str.ofString "add" == x || Str.ofString "sub" == x) := by
  rw [rd_int _ rfl rfl]
  simp [eqP]
theorem set_number {r n f : Int} {t : PV} (h1 : Reg r) (h2 : -1000000000000 ≤ n ∧ n ≤ 1000000000000) (g : Hh) : callAt T fuel (k + 1) 32 [encR (.number r n f), t] g = .ok (.lst ([rW r, [61], numT n].map sv)) g := by
  have nr := reg_num h1
  have nn : NumOk n := num_small (by omega)
  have b0 := fun m => bi_str_i m nn
  refine call_tidy (t := [.lst [sv (rW r), sv [61]]]) H.t32 rfl (by simp [clo, clos]) ?_
  simp (disch := first | (simp only [List.length_append, List.length_map, List.length_cons, List.length_nil]; omega) | omega) [evSs, evS, evE, evEs, evC, evCA, evCO, evAnd, evOr, evI, evO, evJs, retOf, asgn, asgns, wipe, bat, tat, me_app0, me_ext0, mk_t0, mk_f0, ev_cat, encR, G.d32_setting_words, z_r, z_eq, num_rp, n1 nr, n2 nr, e0S, l1S, b0, rW, cat_loc0]
theorem set_arith {s : Bool} {r a b f : Int} {t : PV} (h1 : Reg r) (h2 : Reg a) (h3 : Reg b) (g : Hh) : callAt T fuel (k + 1) 32 [encR (.arith s r a b f), t] g = .ok (.lst ([rW r, [61], rW a, if s then [45] else [43], rW b].map sv)) g := by
  have nr := reg_num h1
  have na := reg_num h2
  have nb := reg_num h3
  refine call_tidy (t := [.lst [sv (rW r), sv [61]]]) H.t32 rfl (by simp [clo, clos]) ?_
  cases s with
  | false => simp (disch := first | (simp only [List.length_append, List.length_map, List.length_cons, List.length_nil]; omega) | omega) [evSs, evS, evE, evEs, evC, evCA, evCO, evAnd, evOr, evI, evO, evJs, retOf, asgn, asgns, wipe, bat, tat, me_app0, me_ext0, mk_t0, mk_f0, ev_cat, encR, G.d32_setting_words, z_r, z_eq, z_pl, z_mi, num_rp, n1 nr, n2 nr, n1 na, n2 na, n1 nb, n2 nb, e0S, l1S, rW, mt_as, in_as, cat_loc0, (by decide : ¬ Str.ofString "add" = Str.ofString "number")]
  | true => simp (disch := first | (simp only [List.length_append, List.length_map, List.length_cons, List.length_nil]; omega) | omega) [evSs, evS, evE, evEs, evC, evCA, evCO, evAnd, evOr, evI, evO, evJs, retOf, asgn, asgns, wipe, bat, tat, me_app0, me_ext0, mk_t0, mk_f0, ev_cat, encR, G.d32_setting_words, z_r, z_eq, z_pl, z_mi, num_rp, n1 nr, n2 nr, n1 na, n2 na, n1 nb, n2 nb, e0S, l1S, rW, mt_as, in_as, cat_loc0, (by decide : ¬ Str.ofString "sub" = Str.ofString "number"), (by decide : ¬ Str.ofString "sub" = Str.ofString "add")]
omit H in
def tokW : Option Int → List W
  | none => []
  | some t => [[105, 110], tW t]
theorem set_name {w : Str} {r f : Int} {x : W} {l : List Int} {t : Option Int} (hw : w = "make" ∨ w = "call") (h1 : Reg r) (hl : l.length ≤ 8) (hr : ∀ i ∈ l, Reg i) (ht : ∀ i, t = some i → Tok' i) (g : Hh) :
    callAt T fuel (k + 3) 32 [.tup [.str w, .int r, .str (st x), ivs l, .int f], tokV t] g = .ok (.lst (([rW r, [61], x] ++ brk (l.map rW) ++ tokW t).map sv)) g := by
  have nr := reg_num h1
  have b0 := fun z => register_words_ok H (fuel := fuel) (k := k) hr (by omega) z
  have le := brk_len (l.map rW)
  rw [List.length_map] at le
  have q1 : ¬ w = Str.ofString "number" := by rcases hw with rfl | rfl <;> decide
  have q2 : (Str.ofString "add" == w || Str.ofString "sub" == w) = false := by rcases hw with rfl | rfl <;> decide
  have i2 := in_as w
  rw [q2] at i2
  generalize brk (l.map rW) = ws at b0 le ⊢
  refine call_tidy (t := [.dead]) H.t32 rfl (by simp only [clo]; exact clos_strs _ _ _) ?_
  cases t with
  | none => simp (disch := first | (simp only [List.length_append, List.length_map, List.length_cons, List.length_nil]; omega) | omega) [evSs, evS, evE, evEs, evC, evCA, evCO, evAnd, evOr, evI, evO, evJs, retOf, asgn, asgns, wipe, bat, tat, me_app0, me_ext0, mk_t0, mk_f0, ev_cat, G.d32_setting_words, tokV, z_r, z_eq, num_rp, n1 nr, n2 nr, e0S, l1S, rW, mt_as, i2, q1, b0, cat_loc0, tokW]
  | some t =>
    have nt := tok_num (ht t rfl)
    simp (disch := first | (simp only [List.length_append, List.length_map, List.length_cons, List.length_nil]; omega) | omega) [evSs, evS, evE, evEs, evC, evCA, evCO, evAnd, evOr, evI, evO, evJs, retOf, asgn, asgns, wipe, bat, tat, me_app0, me_ext0, mk_t0, mk_f0, ev_cat, G.d32_setting_words, tokV, z_r, z_eq, z_in, z_t, num_rp, n1 nr, n2 nr, n1 nt, n2 nt, e0S, l1S, rW, mt_as, i2, q1, b0, cat_loc0, tokW, tW]
end
end J

set_option autoImplicit false
set_option linter.all false
set_option maxRecDepth 100000
set_option maxHeartbeats 2000000
namespace J
open PySem
abbrev Lot := ((List Int × Int) × List Dd) × Nat
def lotW (q : Lot) : List W := (if 0 < q.2 then [[44]] else []) ++ (brk (q.1.1.1.map rW) ++ nextW q.1.1.2 q.1.2)
theorem nextW_le {f : Int} {ds : List Dd} (h : DsOk ds) : (nextW f ds).length ≤ 244 := by
  have := deedsW_le h
  unfold nextW
  split <;> simp only [List.length_cons, List.length_append, List.length_nil] <;> omega
theorem lotW_le {q : Lot} (h1 : q.1.1.1.length ≤ 4) (h2 : DsOk q.1.2) : (lotW q).length ≤ 260 := by
  have := nextW_le (f := q.1.1.2) h2
  have := brk_len (q.1.1.1.map rW)
  rw [List.length_map] at this
  unfold lotW
  split <;> simp only [List.length_cons, List.length_append, List.length_nil] <;> omega
theorem rd_at {ys : List PV} {n : Nat} {y : PV} (e : ys[n]? = some y) : rd (evIdx · (.tup ys) (.int (n : Nat))) = pure y := rd_ixt _ _ (by
  have : n < ys.length := (List.getElem?_eq_some_iff.mp e).1
  have e2 : ys[n] = y := (List.getElem?_eq_some_iff.mp e).2
  simp [L2.atI, L2.ixN, this, e2])
theorem z_cm : Str.ofString "," = st [44] := rfl
theorem z_case : Str.ofString "case" = st [99, 97, 115, 101] := rfl
theorem z_into : Str.ofString "into" = st [105, 110, 116, 111] := rfl
theorem lots_items {lots : List (List Int × Int)} {es : List (List Dd)} (hn : es.length = lots.length) : itemsOf (.enum (.tup (lots.map encL))) = some (((lots.zip es).zipIdx).map fun q => PV.tup [.int (q.2 : Nat), encL q.1.1]) := by
  rw [enum_items _ _ (.inr rfl)]
  have e : lots.map encL = (lots.zip es).map fun q => encL q.1 := by
    have : lots = (lots.zip es).map Prod.fst := by rw [List.map_fst_zip (by omega)]
    conv => lhs; rw [this]
    rw [List.map_map]; rfl
  rw [e, List.zipIdx_map, List.map_map]
  rfl
section
variable {T : Nat → Option Fd} {fuel k : Nat} (H : Hw T)
include H
theorem case_loop {a0 a1 : PV} {tk : PV} {lots : List (List Int × Int)} {es : List (List Dd)} (hn : es.length = lots.length) (hl : lots.length ≤ 6) (hq : ∀ q ∈ lots, Regs q.1 4 ∧ Nxt q.2) (he : ∀ e ∈ es, DsOk e) (h : Hh) (acc : List PV) (hacc : acc.length ≤ 10) :
    ∃ x y z, evS ⟨callAt T fuel (k + 3), fuel⟩ G.d31_l1 [some (.tup [a0, a1, .tup (lots.map encL)]), some tk, some (.tup (es.map encDs)), some (.loc h.length), none, none, none] (h ++ [.lst acc]) = .ok (.next, [some (.tup [a0, a1, .tup (lots.map encL)]), some tk, some (.tup (es.map encDs)), some (.loc h.length), x, y, z]) (h ++ [.lst (acc ++ (((lots.zip es).zipIdx).flatMap lotW).map sv)]) := by
  have fact : ∀ q ∈ (lots.zip es).zipIdx, q.1.1 ∈ lots ∧ q.1.2 ∈ es ∧ es[q.2]? = some q.1.2 := fun q hq => by
    obtain ⟨i, hi⟩ := List.getElem?_of_mem hq
    obtain ⟨e1, e2⟩ := zipIdx_at hi
    subst e2
    have e3 := List.getElem?_zip_eq_some.mp e1
    exact ⟨List.mem_of_getElem? e3.1, List.mem_of_getElem? e3.2, e3.2⟩
  have e2 : (((lots.zip es).zipIdx).flatMap fun d => (lotW d).map sv) = (((lots.zip es).zipIdx).flatMap lotW).map sv := by rw [List.map_flatMap]
  have le : (((lots.zip es).zipIdx).flatMap lotW).length ≤ ((lots.zip es).zipIdx).length * 260 := flat_le fun q hm => lotW_le (hq _ (fact q hm).1).1.1 (he _ (fact q hm).2.1)
  obtain ⟨env', ⟨x, y, z, hx⟩, e1⟩ := acc_loop (c := ⟨callAt T fuel (k + 3), fuel⟩) (t := .cons (.name 4) (.cons (.cons (.name 5) (.cons (.name 6) .nil)) .nil)) (it := .enum (.idx (.var 0) (.int 2))) (body := G.d31_b0) (src := .enum (.tup (lots.map encL))) (l := (lots.zip es).zipIdx) (enc := fun q => PV.tup [.int (q.2 : Nat), encL q.1.1]) (g := fun q => (lotW q).map sv) (h := h) (acc := acc) (env := [some (.tup [a0, a1, .tup (lots.map encL)]), some tk, some (.tup (es.map encDs)), some (.loc h.length), none, none, none]) (B := 10000)
    (P := fun env => ∃ x y z, env = [some (.tup [a0, a1, .tup (lots.map encL)]), some tk, some (.tup (es.map encDs)), some (.loc h.length), x, y, z])
    (fun z => by simp [evSs, evS, evE, evEs, evC, evCA, evCO, evAnd, evOr, evI, evO, evJs, retOf, asgn, asgns, wipe, J.ba, rd_ie (v := PV.tup (lots.map encL)) (.inr rfl)]) (lots_items hn) (by
      rw [e2, List.length_map]
      simp only [List.length_zipIdx, List.length_zip] at le
      omega)
    (fun q env acc hm ⟨x, y, z, hx⟩ hb => by
      subst hx
      obtain ⟨f1, f2, f3⟩ := fact q hm
      obtain ⟨⟨⟨regs, nx⟩, ds⟩, i⟩ := q
      simp only at f1 f2 f3 hb
      have g1 := (hq _ f1).1
      have g2 := (hq _ f1).2
      simp only at g1 g2
      refine ⟨[some (.tup [a0, a1, .tup (lots.map encL)]), some tk, some (.tup (es.map encDs)), some (.loc h.length), some (.int (i : Nat)), some (ivs regs), some (.int nx)], ⟨_, _, _, rfl⟩, ?_⟩
      have c1 := fun z => register_words_ok H (fuel := fuel) (k := k + 1) (l := regs) g1.2 (by have := g1.1; omega) z
      have c2 := fun z => next_words_ok H (fuel := fuel) (k := k + 1) (he _ f2) g2 z
      have r1 := rd_at (ys := es.map encDs) (n := i) (y := encDs ds) (by rw [List.getElem?_map, f3]; rfl)
      have l1 := brk_len (regs.map rW)
      have l2 := nextW_le (f := nx) (he _ f2)
      rw [List.length_map] at l1
      have l3 := g1.1
      simp only [lotW, List.length_map] at hb ⊢
      generalize brk (regs.map rW) = w1 at *
      generalize nextW nx ds = w2 at *
      by_cases h0 : i = 0
      · subst h0
        simp only [Nat.lt_irrefl, if_false, List.nil_append, List.length_append] at hb ⊢
        have r2 : rd (evIdx · (.tup (es.map encDs)) (.int 0)) = pure (encDs ds) := r1
        simp (disch := first | (simp only [List.length_append, List.length_map, List.length_cons, List.length_nil]; omega) | omega) [evSs, evS, evE, evEs, evC, evCA, evCO, evAnd, evOr, evI, evO, evJs, retOf, asgn, asgns, wipe, bat, tat, me_app0, me_ext0, mk_t0, mk_f0, ev_cat, encL, G.d31_b0, c1, c2, r2]
      · have hp : 0 < i := by omega
        simp only [hp, if_true, List.length_append, List.length_cons, List.length_nil] at hb ⊢
        simp (disch := first | (simp only [List.length_append, List.length_map, List.length_cons, List.length_nil]; omega) | omega) [evSs, evS, evE, evEs, evC, evCA, evCO, evAnd, evOr, evI, evO, evJs, retOf, asgn, asgns, wipe, bat, tat, me_app0, me_ext0, mk_t0, mk_f0, ev_cat, encL, G.d31_b0, c1, c2, r1, hp, z_cm]) ⟨_, _, _, rfl⟩
  subst hx
  rw [e2] at e1
  exact ⟨x, y, z, e1⟩
theorem case_words_ok {r : Int} {s : Str} {t : Option Int} {lots : List (List Int × Int)} {es : List (List Dd)} (hr : Reg r) (ht : ∀ i, t = some i → Tok' i) (hn : es.length = lots.length) (hl : lots.length ≤ 6) (hq : ∀ q ∈ lots, Regs q.1 4 ∧ Nxt q.2) (he : ∀ e ∈ es, DsOk e) (h : Hh) :
    callAt T fuel (k + 4) 31 [.tup [.str s, .int r, .tup (lots.map encL)], tokV t, .tup (es.map encDs)] h = .ok (.lst ((caseW r t (lots.zip es)).map sv)) h := by
  have nr := reg_num hr
  refine call_tidy (t := [.dead]) H.t31 rfl (by simp only [clo]; exact clos_strs _ _ _) ?_
  cases t with
  | none =>
    obtain ⟨x, y, z, e⟩ := case_loop H (fuel := fuel) (k := k) (a0 := .str s) (a1 := .int r) (tk := .non) hn hl hq he h [sv [99, 97, 115, 101], sv (rW r)] (by simp)
    simp only [sv, rW] at e
    simp (disch := first | (simp only [List.length_append, List.length_map, List.length_cons, List.length_nil]; omega) | omega) [evSs, evS, evE, evEs, evC, evCA, evCO, evAnd, evOr, evI, evO, evJs, retOf, asgn, asgns, wipe, bat, tat, me_app0, me_ext0, mk_t0, mk_f0, ev_cat, G.d31_case_words, tokV, z_case, z_r, num_rp, n1 nr, n2 nr, e0S, l1S, e]
    simp [caseW, lotW, rW]
    rfl
  | some t =>
    have nt := tok_num (ht t rfl)
    obtain ⟨x, y, z, e⟩ := case_loop H (fuel := fuel) (k := k) (a0 := .str s) (a1 := .int r) (tk := .int t) hn hl hq he h [sv [99, 97, 115, 101], sv (rW r), sv [105, 110, 116, 111], sv (tW t)] (by simp)
    simp only [sv, rW, tW] at e
    simp (disch := first | (simp only [List.length_append, List.length_map, List.length_cons, List.length_nil]; omega) | omega) [evSs, evS, evE, evEs, evC, evCA, evCO, evAnd, evOr, evI, evO, evJs, retOf, asgn, asgns, wipe, bat, tat, me_app0, me_ext0, mk_t0, mk_f0, ev_cat, G.d31_case_words, tokV, z_case, z_r, z_into, z_t, num_rp, n1 nr, n2 nr, n1 nt, n2 nt, e0S, l1S, e]
    simp [caseW, lotW, rW, tW]
    rfl
end
end J

set_option autoImplicit false
set_option linter.all false
set_option maxRecDepth 100000
set_option maxHeartbeats 2000000
namespace J
open PySem
def setW : Rw → Option Int → List W
  | .number r n _, _ => [rW r, [61], numT n]
  | .arith s r a b _, _ => [rW r, [61], rW a, if s then [45] else [43], rW b]
  | .make r x l _, t => [rW r, [61], x] ++ brk (l.map rW) ++ tokW t
  | .call r x l _, t => [rW r, [61], x] ++ brk (l.map rW) ++ tokW t
  | _, _ => []
def midW : Rw → Option Int → List (List Dd) → List W
  | .give r, _, _ => [[103, 105, 118, 101], rW r]
  | .mtch r lots, t, es => caseW r t (lots.zip es)
  | .less r a f g, _, es => [rW r, [60], rW a] ++ (nextW f (es.headD []) ++ [[44]] ++ nextW g (es.tail.headD []))
  | q, t, es => setW q t ++ nextW ((nexts q).headD 0) (es.headD [])
def rowW (q : Rw) (p : Pl) : List W := (if p.before = [] then [] else deedsW p.before) ++ (midW q p.token p.edges ++ [[59]])
theorem tokW_le (t : Option Int) : (tokW t).length ≤ 2 := by cases t <;> simp [tokW]
theorem setW_le {q : Rw} {t : Option Int} (h : RwOk q) : (setW q t).length ≤ 24 := by
  have := tokW_le t
  cases q with
  | make r x l f =>
    have := brk_len (l.map rW)
    have := h.2.2.1.1
    simp only [setW, List.length_append, List.length_cons, List.length_nil, List.length_map] at *; omega
  | call r x l f =>
    have := brk_len (l.map rW)
    have := h.2.2.1.1
    simp only [setW, List.length_append, List.length_cons, List.length_nil, List.length_map] at *; omega
  | _ => simp [setW]
theorem caseW_le {r : Int} {t : Option Int} {lots : List (List Int × Int)} {es : List (List Dd)} (hl : lots.length ≤ 6) (hq : ∀ q ∈ lots, Regs q.1 4 ∧ Nxt q.2) (he : ∀ e ∈ es, DsOk e) : (caseW r t (lots.zip es)).length ≤ 1600 := by
  have le : (((lots.zip es).zipIdx).flatMap lotW).length ≤ ((lots.zip es).zipIdx).length * 260 := flat_le fun q hm => by
    obtain ⟨i, hi⟩ := List.getElem?_of_mem hm
    have e3 := List.getElem?_zip_eq_some.mp (zipIdx_at hi).1
    exact lotW_le (hq _ (List.mem_of_getElem? e3.1)).1.1 (he _ (List.mem_of_getElem? e3.2))
  simp only [List.length_zipIdx, List.length_zip] at le
  have e : caseW r t (lots.zip es) = [[99, 97, 115, 101], rW r] ++ (match t with | none => [] | some t => [[105, 110, 116, 111], tW t]) ++ ((lots.zip es).zipIdx).flatMap lotW := rfl
  rw [e]
  cases t <;> simp only [List.length_append, List.length_cons, List.length_nil] <;> omega
def rest33 : Ss := match G.d33_row_words.body with | .cons _ (.cons _ r) => r | _ => .nil
theorem hs33 : G.d33_row_words.slots = 6 := rfl
theorem z_gv : Str.ofString "give" = st [103, 105, 118, 101] := rfl
theorem z_lt : Str.ofString "<" = st [60] := rfl
theorem z_sc : Str.ofString ";" = st [59] := rfl
section
variable {T : Nat → Option Fd} {fuel k : Nat} (H : Hw T)
include H
theorem set_ok {q : Rw} {t : Option Int} (h : RwOk q) (hq : setW q t ≠ []) (ht : ∀ i, t = some i → Tok' i) (g : Hh) : callAt T fuel (k + 3) 32 [encR q, tokV t] g = .ok (.lst ((setW q t).map sv)) g := by
  cases q with
  | number r n f => exact set_number H h.1 h.2.1 g
  | arith s r a b f => exact set_arith H h.1 h.2.1 h.2.2.1 g
  | less => exact absurd rfl hq
  | give => exact absurd rfl hq
  | mtch => exact absurd rfl hq
  | make r x l f => exact set_name H (.inl rfl) h.1 (by have := h.2.2.1.1; omega) h.2.2.1.2 ht g
  | call r x l f => exact set_name H (.inr rfl) h.1 (by have := h.2.2.1.1; omega) h.2.2.1.2 ht g
omit H in
theorem one_of {α : Type} {l : List α} (h : l.length = 1) : ∃ x, l = [x] := List.length_eq_one_iff.mp h
theorem rest33_ok {q : Rw} {p : Pl} (h : RwOk q) (hp : PlOk q p) (z : Hh) (acc : List PV) (ha : acc.length ≤ 300) {x1 : PV} :
    (evSs ⟨callAt T fuel (k + 4), fuel⟩ rest33 [some (encR q), some x1, some (encDs p.before), some (tokV p.token), some (.tup (p.edges.map encDs)), some (.loc z.length)] >>= retOf) (z ++ [.lst acc]) = .ok (.lst (acc ++ (midW q p.token p.edges ++ [[59]]).map sv)) (z ++ [.dead]) := by
  have s0 := fun y g => set_ok H (fuel := fuel) (k := k + 1) (q := q) (t := p.token) h y (fun i hi => (hp.t i hi).2) g
  have sl := setW_le (t := p.token) h
  obtain ⟨be, tk, es⟩ := p
  have pn := hp.n
  have pe := hp.e
  simp only at pn pe s0 sl ⊢
  cases q with
  | give r =>
    have nr := reg_num (show Reg r from h)
    simp (disch := first | (simp only [List.length_append, List.length_map, List.length_cons, List.length_nil]; omega) | omega) [evSs, evS, evE, evEs, evC, evCA, evCO, evAnd, evOr, evI, evO, evJs, retOf, asgn, asgns, wipe, bat, tat, me_app0, me_ext0, mk_t0, mk_f0, ev_cat, rest33, G.d33_row_words, encR, z_r, num_rp, n1 nr, n2 nr, e0S, l1S, midW, rW, (by decide : ¬ Str.ofString "give" = Str.ofString "match"), (by decide : ¬ Str.ofString "give" = Str.ofString "less")]
    exact ⟨rfl, rfl⟩
  | number r n f =>
    obtain ⟨e, rfl⟩ := one_of pn
    have c1 := fun z => next_words_ok H (fuel := fuel) (k := k + 2) (pe e (by simp)) (show Nxt f from h.2.2) z
    have l2 := nextW_le (f := f) (pe e (by simp))
    have s1 := s0 (by simp [setW])
    simp only [midW, nexts, List.headD] at *
    generalize setW (.number r n f) tk = w1 at *
    generalize nextW f e = w2 at *
    simp only [encR] at s1 ⊢
    simp (disch := first | (simp only [List.length_append, List.length_map, List.length_cons, List.length_nil]; omega) | omega) [evSs, evS, evE, evEs, evC, evCA, evCO, evAnd, evOr, evI, evO, evJs, retOf, asgn, asgns, wipe, bat, tat, me_app0, me_ext0, mk_t0, mk_f0, ev_cat, rest33, G.d33_row_words, s1, c1, z_sc, (by decide : ¬ Str.ofString "number" = Str.ofString "give"), (by decide : ¬ Str.ofString "number" = Str.ofString "match"), (by decide : ¬ Str.ofString "number" = Str.ofString "less")]
  | arith s r a b f =>
    obtain ⟨e, rfl⟩ := one_of pn
    have c1 := fun z => next_words_ok H (fuel := fuel) (k := k + 2) (pe e (by simp)) (show Nxt f from h.2.2.2) z
    have l2 := nextW_le (f := f) (pe e (by simp))
    have s1 := s0 (by simp [setW])
    simp only [midW, nexts, List.headD] at *
    generalize setW (.arith s r a b f) tk = w1 at *
    generalize nextW f e = w2 at *
    simp only [encR] at s1 ⊢
    cases s with
    | false => 
      simp only [if_false, Bool.false_eq_true] at s1 ⊢
      simp (disch := first | (simp only [List.length_append, List.length_map, List.length_cons, List.length_nil]; omega) | omega) [evSs, evS, evE, evEs, evC, evCA, evCO, evAnd, evOr, evI, evO, evJs, retOf, asgn, asgns, wipe, bat, tat, me_app0, me_ext0, mk_t0, mk_f0, ev_cat, rest33, G.d33_row_words, s1, c1, z_sc, (by decide : ¬ Str.ofString "add" = Str.ofString "give"), (by decide : ¬ Str.ofString "add" = Str.ofString "match"), (by decide : ¬ Str.ofString "add" = Str.ofString "less")]
    | true =>
      simp only [if_true] at s1 ⊢
      simp (disch := first | (simp only [List.length_append, List.length_map, List.length_cons, List.length_nil]; omega) | omega) [evSs, evS, evE, evEs, evC, evCA, evCO, evAnd, evOr, evI, evO, evJs, retOf, asgn, asgns, wipe, bat, tat, me_app0, me_ext0, mk_t0, mk_f0, ev_cat, rest33, G.d33_row_words, s1, c1, z_sc, (by decide : ¬ Str.ofString "sub" = Str.ofString "give"), (by decide : ¬ Str.ofString "sub" = Str.ofString "match"), (by decide : ¬ Str.ofString "sub" = Str.ofString "less")]
  | make r x l f =>
    obtain ⟨e, rfl⟩ := one_of pn
    have c1 := fun z => next_words_ok H (fuel := fuel) (k := k + 2) (pe e (by simp)) (show Nxt f from h.2.2.2) z
    have l2 := nextW_le (f := f) (pe e (by simp))
    have s1 := s0 (by simp [setW])
    simp only [midW, nexts, List.headD] at *
    generalize setW (.make r x l f) tk = w1 at *
    generalize nextW f e = w2 at *
    simp only [encR] at s1 ⊢
    simp (disch := first | (simp only [List.length_append, List.length_map, List.length_cons, List.length_nil]; omega) | omega) [evSs, evS, evE, evEs, evC, evCA, evCO, evAnd, evOr, evI, evO, evJs, retOf, asgn, asgns, wipe, bat, tat, me_app0, me_ext0, mk_t0, mk_f0, ev_cat, rest33, G.d33_row_words, s1, c1, z_sc, (by decide : ¬ Str.ofString "make" = Str.ofString "give"), (by decide : ¬ Str.ofString "make" = Str.ofString "match"), (by decide : ¬ Str.ofString "make" = Str.ofString "less")]
  | call r x l f =>
    obtain ⟨e, rfl⟩ := one_of pn
    have c1 := fun z => next_words_ok H (fuel := fuel) (k := k + 2) (pe e (by simp)) (show Nxt f from h.2.2.2) z
    have l2 := nextW_le (f := f) (pe e (by simp))
    have s1 := s0 (by simp [setW])
    simp only [midW, nexts, List.headD] at *
    generalize setW (.call r x l f) tk = w1 at *
    generalize nextW f e = w2 at *
    simp only [encR] at s1 ⊢
    simp (disch := first | (simp only [List.length_append, List.length_map, List.length_cons, List.length_nil]; omega) | omega) [evSs, evS, evE, evEs, evC, evCA, evCO, evAnd, evOr, evI, evO, evJs, retOf, asgn, asgns, wipe, bat, tat, me_app0, me_ext0, mk_t0, mk_f0, ev_cat, rest33, G.d33_row_words, s1, c1, z_sc, (by decide : ¬ Str.ofString "call" = Str.ofString "give"), (by decide : ¬ Str.ofString "call" = Str.ofString "match"), (by decide : ¬ Str.ofString "call" = Str.ofString "less")]
  | mtch r lots =>
    obtain ⟨h1, h2, h3, h4⟩ := h
    have c1 := fun z => case_words_ok H (fuel := fuel) (k := k) (s := Str.ofString "match") (t := tk) (es := es) h1 (fun i hi => (hp.t i hi).2) (by rw [pn]; simp [nexts]) h3 h4 pe z
    have l1 := caseW_le (r := r) (t := tk) (es := es) h3 h4 pe
    simp only [midW] at *
    generalize caseW r tk (lots.zip es) = w1 at *
    simp (disch := first | (simp only [List.length_append, List.length_map, List.length_cons, List.length_nil]; omega) | omega) [evSs, evS, evE, evEs, evC, evCA, evCO, evAnd, evOr, evI, evO, evJs, retOf, asgn, asgns, wipe, bat, tat, me_app0, me_ext0, mk_t0, mk_f0, ev_cat, rest33, G.d33_row_words, encR, c1, z_sc, (by decide : ¬ Str.ofString "match" = Str.ofString "give"), (by decide : ¬ Str.ofString "match" = Str.ofString "less")]
  | less r a f g =>
    obtain ⟨e, e2, rfl⟩ : ∃ a b, es = [a, b] := by
      match es, pn with
      | [a, b], _ => exact ⟨a, b, rfl⟩
    have nr := reg_num h.1
    have na := reg_num h.2.1
    have c1 := fun z => next_words_ok H (fuel := fuel) (k := k + 2) (pe e (by simp)) h.2.2.1 z
    have c2 := fun z => next_words_ok H (fuel := fuel) (k := k + 2) (pe e2 (by simp)) h.2.2.2 z
    have l1 := nextW_le (f := f) (pe e (by simp))
    have l2 := nextW_le (f := g) (pe e2 (by simp))
    simp only [midW, List.headD, List.tail] at *
    generalize nextW f e = w1 at *
    generalize nextW g e2 = w2 at *
    simp (disch := first | (simp only [List.length_append, List.length_map, List.length_cons, List.length_nil]; omega) | omega) [evSs, evS, evE, evEs, evC, evCA, evCO, evAnd, evOr, evI, evO, evJs, retOf, asgn, asgns, wipe, bat, tat, me_app0, me_ext0, mk_t0, mk_f0, ev_cat, rest33, G.d33_row_words, encR, c1, c2, z_r, z_lt, z_cm, z_sc, rW, num_rp, n1 nr, n2 nr, n1 na, n2 na, e0S, l1S, (by decide : ¬ Str.ofString "less" = Str.ofString "give"), (by decide : ¬ Str.ofString "less" = Str.ofString "match")]
theorem row_words_ok {q : Rw} {p : Pl} (h : RwOk q) (hp : PlOk q p) (z : Hh) : callAt T fuel (k + 5) 33 [encR q, encPl p] z = .ok (.lst ((rowW q p).map sv)) z := by
  by_cases e : p.before = []
  · have u := ne_unit []
    have r := rest33_ok H (fuel := fuel) (k := k) h hp z [] (by simp) (x1 := encPl p)
    rw [e] at r
    refine call_tidy (t := [.dead]) H.t33 rfl (by simp only [clo]; exact clos_strs _ _ _) ?_
    have l2 : (rowW q p).map sv = (midW q p.token p.edges ++ [[59]]).map sv := by simp [rowW, e]
    rw [l2]
    show (evSs _ (.cons _ (.cons _ rest33)) _ >>= retOf) z = _
    generalize rest33 = rest at *
    simp only [encPl, e] at r ⊢
    simp (disch := first | (simp only [List.length_append, List.length_map, List.length_cons, List.length_nil]; omega) | omega) [evSs, evS, evE, evEs, evC, evCA, evCO, evAnd, evOr, evI, evO, evJs, retOf, asgn, asgns, wipe, bat, tat, me_app0, me_ext0, mk_t0, mk_f0, ev_cat, u, mk_t_nil, hs33]
    exact Eq.trans (Eq.trans rfl r) (by simp)
  · have u := ne_unit p.before
    have c0 := deed_words_ok H (fuel := fuel) (k := k + 3) hp.b z
    have le := deedsW_le hp.b
    have r := rest33_ok H (fuel := fuel) (k := k) h hp (z ++ [.dead]) ((deedsW p.before).map sv) (by rw [List.length_map]; omega) (x1 := encPl p)
    refine call_tidy (t := [.dead, .dead]) H.t33 rfl (by simp only [clo]; exact clos_strs _ _ _) ?_
    have l2 : (rowW q p).map sv = (deedsW p.before).map sv ++ (midW q p.token p.edges ++ [[59]]).map sv := by simp [rowW, e]
    rw [l2]
    show (evSs _ (.cons _ (.cons _ rest33)) _ >>= retOf) z = _
    generalize rest33 = rest at *
    simp only [List.length_append, List.length_cons, List.length_nil, List.append_assoc, List.cons_append, List.nil_append] at r
    simp only [encPl] at r ⊢
    simp (disch := first | (simp only [List.length_append, List.length_map, List.length_cons, List.length_nil]; omega) | omega) [evSs, evS, evE, evEs, evC, evCA, evCO, evAnd, evOr, evI, evO, evJs, retOf, asgn, asgns, wipe, bat, tat, me_app0, me_ext0, mk_t0, mk_f0, ev_cat, u, mk_t_nil, e, c0, hs33]
    exact Eq.trans (Eq.trans (by simp; rfl) r) (by simp)
end
end J

set_option autoImplicit false
set_option linter.all false
set_option maxRecDepth 100000
set_option maxHeartbeats 2000000
namespace J
open PySem
/-- words joined with blanks -/
def jn : List W → List Nat
  | [] => []
  | [x] => x
  | x :: y :: r => x ++ 32 :: jn (y :: r)
theorem jn_cons (x : W) {r : List W} (h : r ≠ []) : jn (x :: r) = x ++ 32 :: jn r := by
  cases r with
  | nil => exact absurd rfl h
  | cons y r => rfl
theorem jn_app : ∀ {a b : List W}, a ≠ [] → b ≠ [] → jn (a ++ b) = jn a ++ 32 :: jn b
  | [], _, h, _ => absurd rfl h
  | [x], b, _, hb => jn_cons x hb
  | x :: y :: r, b, _, hb => by
    have ih := jn_app (a := y :: r) (b := b) (by simp) hb
    rw [List.cons_append, jn_cons x (by simp), ih, jn_cons x (by simp)]
    simp
theorem jn_le {n : Nat} : ∀ {a : List W}, (∀ w ∈ a, w.length ≤ n) → (jn a).length ≤ a.length * (n + 1)
  | [], _ => by simp [jn]
  | [x], h => by have := h x (by simp); simp [jn]; omega
  | x :: y :: r, h => by
    have ih := jn_le (a := y :: r) fun w hw => h w (List.mem_cons_of_mem _ hw)
    have := h x (by simp)
    rw [jn_cons x (by simp), List.length_append, List.length_cons]
    have e : (x :: y :: r).length = (y :: r).length + 1 := rfl
    rw [e, Nat.add_mul]; omega
theorem sum_lens (ws : List W) : ((ws.map st).map (·.length)).sum + (ws.map st).length * (st [32]).length = (ws.map fun w => w.length + 1).sum := by
  induction ws with
  | nil => rfl
  | cons w ws ih =>
    simp only [List.map_cons, List.sum_cons, List.length_cons, st_len, List.length_nil] at ih ⊢
    omega
theorem jn_glue (x y : W) (ws : List W) : jn ((x ++ 32 :: y) :: ws) = jn (x :: y :: ws) := by
  cases ws with
  | nil => simp [jn]
  | cons z ws => simp [jn]
theorem fold_jn : ∀ (ws : List W) (x : W), (ws.map st).foldl (fun acc p => acc ++ (st [32]).cps ++ p.cps) (st x).cps = (st (jn (x :: ws))).cps
  | [], x => rfl
  | y :: ws, x => by
    have ih := fold_jn ws (x ++ 32 :: y)
    rw [jn_glue] at ih
    rw [List.map_cons, List.foldl_cons, ← ih]
    congr 1
    apply Array.ext'
    show ((x.toArray ++ [32].toArray) ++ y.toArray).toList = (x ++ 32 :: y).toArray.toList
    simp only [Array.toList_append, List.append_assoc, List.cons_append, List.nil_append]
theorem glued_jn (ws : List W) : Txt.join (st [32]) (ws.map st) = st (jn ws) := by
  cases ws with
  | nil => rfl
  | cons x ws =>
    have := fold_jn ws x
    show Str.mk _ = _
    exact congrArg Str.mk this
theorem me_joinN (ws : List W) (h : (ws.map fun w => w.length + 1).sum ≤ sizeL) : evMe .join (.str (st [32])) [.lst (ws.map sv)] = pure (.str (st (jn ws))) := by
  have e : ws.map sv = (ws.map st).map PV.str := by rw [List.map_map]; rfl
  rw [e]
  show (rd (getS · (.lst ((ws.map st).map PV.str))) >>= fun xs => opt (strsOf xs) >>= fun ys => if (ys.map (·.length)).sum + ys.length * (st [32]).length ≤ sizeL then pure (PV.str (Txt.join (st [32]) ys)) else bad) = _
  show (opt (strsOf ((ws.map st).map PV.str)) >>= fun ys => if (ys.map (·.length)).sum + ys.length * (st [32]).length ≤ sizeL then pure (PV.str (Txt.join (st [32]) ys)) else bad) = _
  rw [strs_map]
  show (if ((ws.map st).map (·.length)).sum + (ws.map st).length * (st [32]).length ≤ sizeL then pure (PV.str (Txt.join (st [32]) (ws.map st))) else bad) = _
  rw [sum_lens, if_pos h, glued_jn]
end J

set_option autoImplicit false
set_option linter.all false
set_option maxRecDepth 100000
set_option maxHeartbeats 2000000
namespace J
open PySem
/-! ### weights of words: their signs and a blank each -/
def wt (ws : List W) : Nat := (ws.map fun w => w.length + 1).sum
@[simp] theorem wt_nil : wt [] = 0 := rfl
@[simp] theorem wt_cons (w : W) (ws : List W) : wt (w :: ws) = w.length + 1 + wt ws := by simp [wt]
@[simp] theorem wt_app (a b : List W) : wt (a ++ b) = wt a + wt b := by simp [wt]
theorem len_wt : ∀ ws : List W, ws.length ≤ wt ws
  | [] => by simp
  | w :: ws => by have := len_wt ws; simp only [List.length_cons, wt_cons]; omega
theorem wt_flat {α : Type} {l : List α} {f : α → List W} {n : Nat} (h : ∀ a ∈ l, wt (f a) ≤ n) : wt (l.flatMap f) ≤ l.length * n := by
  induction l with
  | nil => simp
  | cons a l ih =>
    have h1 := h a (by simp)
    have h2 := ih fun x hx => h x (by simp [hx])
    simp only [List.flatMap_cons, wt_app, List.length_cons, Nat.succ_mul]
    omega
theorem wt_most {ws : List W} {n : Nat} (h : ∀ w ∈ ws, w.length ≤ n) : wt ws ≤ ws.length * (n + 1) := by
  induction ws with
  | nil => simp
  | cons a l ih =>
    have h1 := h a (by simp)
    have h2 := ih fun x hx => h x (by simp [hx])
    simp only [wt_cons, List.length_cons, Nat.succ_mul]
    omega
theorem wt_sep : ∀ l : List W, wt (sepW l) ≤ wt l + 2 * l.length
  | [] => by simp [sepW]
  | [x] => by simp [sepW]
  | x :: y :: r => by
    have := wt_sep (y :: r)
    simp only [sepW, wt_cons, List.length_cons, List.length_nil] at this ⊢
    omega
theorem wt_brk (l : List W) : wt (brk l) ≤ wt l + 2 * l.length + 4 := by
  have := wt_sep l
  simp only [brk, wt_cons, wt_app, wt_nil, List.length_cons, List.length_nil]
  omega
theorem num_len {i : Int} (h0 : 0 ≤ i) (h1 : i < 100) : (numT i).length ≤ 2 := by
  cases i with
  | ofNat n =>
    have hn : n < 10 ^ 2 := by
      have : (n : Int) < 100 := h1
      omega
    have e : numT (Int.ofNat n) = (Nat.toDigits 10 n).map Char.toNat := PySem.W.KIN.signs_num n
    rw [e, List.length_map]
    have e := (Nat.length_repr_le_iff (n := n) (by decide : 0 < 2)).mpr hn
    rwa [← String.length_toList, Nat.toList_repr] at e
  | negSucc n => exact absurd h0 (by omega)
theorem reg_len {r : Int} (h : Reg r) : (rW r).length ≤ 3 := by
  have := num_len h.1 (by have := h.2; omega)
  simp only [rW, List.length_cons]; omega
theorem tok_len {r : Int} (h : Tok' r) : (tW r).length ≤ 3 := by
  have := num_len h.1 (by have := h.2; omega)
  simp only [tW, List.length_cons]; omega
theorem nxt_len {r : Int} (h : Nxt r) : (numT r).length ≤ 2 := num_len h.1 (by have := h.2; omega)
theorem wt_dW {d : Dd} (h : DdOk d) : wt (dW d) ≤ 14 := by
  cases d with
  | hold r => have := reg_len (show Reg r from h); simp only [dW, wt_cons, wt_nil, List.length_cons, List.length_nil]; omega
  | drop r => have := reg_len (show Reg r from h); simp only [dW, wt_cons, wt_nil, List.length_cons, List.length_nil]; omega
  | free t f =>
    have := tok_len h.1
    have := num_len h.2.1 (by have := h.2.2; omega)
    simp only [dW, wt_cons, wt_nil, List.length_cons, List.length_nil]; omega
theorem wt_deeds {l : List Dd} (h : DsOk l) : wt (deedsW l) ≤ 850 := by
  have := wt_flat (l := l) (f := dW) (n := 14) fun d hd => wt_dW (h.2 d hd)
  have := h.1
  simp only [deedsW, wt_cons, wt_app, wt_nil, List.length_cons, List.length_nil]
  omega
theorem wt_next {f : Int} {ds : List Dd} (hd : DsOk ds) (hf : Nxt f) : wt (nextW f ds) ≤ 860 := by
  have := wt_deeds hd
  have := nxt_len hf
  unfold nextW
  split <;> simp only [wt_cons, wt_app, wt_nil, List.length_cons, List.length_nil] <;> omega
theorem wt_regs {l : List Int} (h : ∀ i ∈ l, Reg i) : wt (brk (l.map rW)) ≤ l.length * 6 + 4 := by
  have h1 := wt_brk (l.map rW)
  have h2 := wt_most (ws := l.map rW) (n := 3) fun w hw => by
    obtain ⟨i, hi, rfl⟩ := List.mem_map.mp hw
    exact reg_len (h i hi)
  rw [List.length_map] at h1 h2
  omega
theorem wt_lot {q : Lot} (h1 : Regs q.1.1.1 4) (h3 : Nxt q.1.1.2) (h2 : DsOk q.1.2) : wt (lotW q) ≤ 900 := by
  have := wt_next (f := q.1.1.2) h2 h3
  have := wt_regs h1.2
  have := h1.1
  unfold lotW
  split <;> simp only [wt_cons, wt_app, wt_nil, List.length_cons, List.length_nil] <;> omega
theorem wt_tok {t : Option Int} (h : ∀ i, t = some i → Tok' i) : wt (tokW t) ≤ 10 := by
  cases t with
  | none => simp [tokW]
  | some t =>
    have := tok_len (h t rfl)
    simp only [tokW, wt_cons, wt_nil, List.length_cons, List.length_nil]; omega
theorem caseW_eq (r : Int) (t : Option Int) (L : List ((List Int × Int) × List Dd)) : caseW r t L = [[99, 97, 115, 101], rW r] ++ (match t with | none => [] | some t => [[105, 110, 116, 111], tW t]) ++ (L.zipIdx).flatMap lotW := rfl
theorem wt_case {r : Int} {t : Option Int} {lots : List (List Int × Int)} {es : List (List Dd)} (hr : Reg r) (ht : ∀ i, t = some i → Tok' i) (hl : lots.length ≤ 6) (hq : ∀ q ∈ lots, Regs q.1 4 ∧ Nxt q.2) (he : ∀ e ∈ es, DsOk e) : wt (caseW r t (lots.zip es)) ≤ 5500 := by
  have le : wt (((lots.zip es).zipIdx).flatMap lotW) ≤ ((lots.zip es).zipIdx).length * 900 := wt_flat fun q hm => by
    obtain ⟨i, hi⟩ := List.getElem?_of_mem hm
    have e3 := List.getElem?_zip_eq_some.mp (zipIdx_at hi).1
    exact wt_lot (hq _ (List.mem_of_getElem? e3.1)).1 (hq _ (List.mem_of_getElem? e3.1)).2 (he _ (List.mem_of_getElem? e3.2))
  simp only [List.length_zipIdx, List.length_zip] at le
  have := reg_len hr
  rw [caseW_eq]
  cases t with
  | none => simp only [wt_cons, wt_app, wt_nil, List.length_cons, List.length_nil]; omega
  | some t =>
    have := tok_len (ht t rfl)
    simp only [wt_cons, wt_app, wt_nil, List.length_cons, List.length_nil]; omega
theorem high_len {l : List Nat} (h : highB l = true) : l.length ≤ 10 := name_len (by unfold highB at h; rw [Bool.and_eq_true] at h; exact h.1)
theorem low_len {l : List Nat} (h : lowB l = true) : l.length ≤ 10 := name_len (by unfold lowB at h; rw [Bool.and_eq_true] at h; exact h.1)
theorem word_len {l : List Nat} (h : wordB l = true) : l.length ≤ 10 := by
  unfold wordB at h
  rw [Bool.or_eq_true] at h
  rcases h with h | h
  · have : l = numL := by simpa using h
    subst this; decide
  · exact high_len h
theorem wt_set {q : Rw} {t : Option Int} (h : RwOk q) (ht : ∀ i, t = some i → Tok' i) : wt (setW q t) ≤ 200 := by
  have h0 := wt_tok ht
  cases q with
  | number r n f =>
    have h1 := reg_len h.1
    have h2 := (num_small (i := n) (by have := h.2.1; omega)).1
    simp only [setW, wt_cons, wt_nil, List.length_cons, List.length_nil]; omega
  | arith s r a b f =>
    have h1 := reg_len h.1
    have h2 := reg_len h.2.1
    have h3 := reg_len h.2.2.1
    cases s <;> simp only [setW, wt_cons, wt_nil, List.length_cons, List.length_nil, if_true, if_false, Bool.false_eq_true] <;> omega
  | less => simp [setW]
  | give => simp [setW]
  | mtch => simp [setW]
  | make r x l f =>
    have h1 := reg_len h.1
    have h2 := high_len h.2.1
    have h3 := wt_regs h.2.2.1.2
    have h4 := h.2.2.1.1
    simp only [setW, wt_app, wt_cons, wt_nil, List.length_cons, List.length_nil]; omega
  | call r x l f =>
    have h1 := reg_len h.1
    have h2 := low_len h.2.1
    have h3 := wt_regs h.2.2.1.2
    have h4 := h.2.2.1.1
    simp only [setW, wt_app, wt_cons, wt_nil, List.length_cons, List.length_nil]; omega
theorem nexts_ok {q : Rw} (h : RwOk q) : ∀ f ∈ nexts q, Nxt f := by
  cases q with
  | number r n f => intro g hg; simp [nexts] at hg; subst hg; exact h.2.2
  | arith s r a b f => intro g hg; simp [nexts] at hg; subst hg; exact h.2.2.2
  | less r a f g =>
    intro x hx
    simp [nexts] at hx
    rcases hx with rfl | rfl
    · exact h.2.2.1
    · exact h.2.2.2
  | make r x l f => intro g hg; simp [nexts] at hg; subst hg; exact h.2.2.2
  | call r x l f => intro g hg; simp [nexts] at hg; subst hg; exact h.2.2.2
  | give r => intro g hg; simp [nexts] at hg
  | mtch r lots =>
    intro g hg
    simp only [nexts, List.mem_map] at hg
    obtain ⟨q, hq, rfl⟩ := hg
    exact (h.2.2.2 q hq).2
theorem wt_one {q : Rw} {t : Option Int} {es : List (List Dd)} {f : Int} (h : RwOk q) (hf : nexts q = [f]) (ht : ∀ i, t = some i → Tok' i) (hn : es.length = (nexts q).length) (he : ∀ e ∈ es, DsOk e) : wt (setW q t ++ nextW ((nexts q).headD 0) (es.headD [])) ≤ 1100 := by
  have nf := nexts_ok h f (by rw [hf]; simp)
  rw [hf] at hn ⊢
  obtain ⟨e, rfl⟩ := List.length_eq_one_iff.mp hn
  have h1 := wt_set (t := t) h ht
  have h2 := wt_next (he e (by simp)) nf
  simp only [wt_app, List.headD]; omega
theorem wt_row {q : Rw} {p : Pl} (h : RwOk q) (hp : PlOk q p) : wt (rowW q p) ≤ 7000 := by
  have hb := wt_deeds hp.b
  have key : wt (midW q p.token p.edges) ≤ 5500 := by
    have ht : ∀ i, p.token = some i → Tok' i := fun i hi => (hp.t i hi).2
    have hn := hp.n
    have he := hp.e
    generalize p.token = tk at ht ⊢
    generalize p.edges = es at hn he ⊢
    cases q with
    | give r =>
      have h1 := reg_len (show Reg r from h)
      simp only [midW, wt_cons, wt_nil, List.length_cons, List.length_nil]; omega
    | mtch r lots =>
      obtain ⟨h1, h2, h3, h4⟩ := h
      exact wt_case h1 ht h3 h4 he
    | less r a f g =>
      obtain ⟨e, e2, rfl⟩ : ∃ a b, es = [a, b] := by
        match es, hn with
        | [a, b], _ => exact ⟨a, b, rfl⟩
      have h1 := reg_len h.1
      have h2 := reg_len h.2.1
      have h3 := wt_next (he e (by simp)) h.2.2.1
      have h4 := wt_next (he e2 (by simp)) h.2.2.2
      simp only [midW, List.headD, List.tail, wt_app, wt_cons, wt_nil, List.length_cons, List.length_nil]; omega
    | number r n f => exact Nat.le_trans (wt_one h rfl ht hn he) (by decide)
    | arith s r a b f => exact Nat.le_trans (wt_one h rfl ht hn he) (by decide)
    | make r x l f => exact Nat.le_trans (wt_one h rfl ht hn he) (by decide)
    | call r x l f => exact Nat.le_trans (wt_one h rfl ht hn he) (by decide)
  unfold rowW
  split <;> simp only [wt_app, wt_cons, wt_nil, List.length_cons, List.length_nil] <;> omega
/-! ### the whole text's words -/
def mkW (m : Mk) : List W := m.1 :: brk m.2
def kdW (q : Kd) : List W := [[107, 105, 110, 100], q.1, [123]] ++ (q.2.flatMap mkW ++ [[125]])
def entW (l : List Dd) : List W := if l = [] then [] else [101, 110, 116, 114, 121] :: (deedsW l ++ [[59]])
def rowsW (x : Fn × FPl) : List W := (x.1.rows.zip x.2.places).flatMap fun q => rowW q.1 q.2
def fnW (x : Fn × FPl) : List W := [[102, 117, 110], x.1.name] ++ (brk x.1.params ++ ([x.1.result, [123]] ++ (entW x.2.entry ++ (rowsW x ++ [[125]]))))
def allW (p : Pr) (q : List FPl) : List W := p.kinds.flatMap kdW ++ (p.fns.zip q).flatMap fnW
theorem wt_mk {m : Mk} (h : MkOk m) : wt (mkW m) ≤ 70 := by
  have h1 := wt_brk m.2
  have h2 := wt_most (ws := m.2) (n := 10) fun w hw => word_len (h.w w hw)
  have h3 := h.l
  have h4 := high_len h.t
  simp only [mkW, wt_cons]; omega
theorem wt_kd {q : Kd} (h : KdOk q) : wt (kdW q) ≤ 500 := by
  have h1 := wt_flat (l := q.2) (f := mkW) (n := 70) fun m hm => wt_mk (h.w m hm)
  have h2 := h.l
  have h3 := high_len h.t
  simp only [kdW, wt_app, wt_cons, wt_nil, List.length_cons, List.length_nil]; omega
theorem wt_ent {l : List Dd} (h : DsOk l) : wt (entW l) ≤ 900 := by
  have h1 := wt_deeds h
  unfold entW
  split <;> simp only [wt_app, wt_cons, wt_nil, List.length_cons, List.length_nil] <;> omega
theorem wt_fn {x : Fn × FPl} (h : FnOk' x.1) (hp : FPlOk x.1.rows x.2) : wt (fnW x) ≤ 430000 := by
  have h1 := wt_flat (l := x.1.rows.zip x.2.places) (f := fun q => rowW q.1 q.2) (n := 7000) fun q hq => wt_row (h.w _ (List.of_mem_zip hq).1) (hp.w q hq)
  rw [List.length_zip] at h1
  have h2 := h.r60
  have h3 := wt_ent hp.e
  have h4 := low_len h.n
  have h5 := word_len h.r
  have h6 := wt_brk x.1.params
  have h7 := wt_most (ws := x.1.params) (n := 10) fun w hw => word_len (h.p w hw)
  have h8 := h.l
  simp only [fnW, rowsW, wt_app, wt_cons, wt_nil, List.length_cons, List.length_nil]; omega
theorem wt_all {p : Pr} {q : List FPl} (hp : PrOk p) (h : PPOk p q) : wt (allW p q) ≤ 5200000 := by
  have h1 := wt_flat (l := p.kinds) (f := kdW) (n := 500) fun m hm => wt_kd (hp.k.w m hm)
  have h2 := wt_flat (l := p.fns.zip q) (f := fnW) (n := 430000) fun x hx => wt_fn (hp.w _ (List.of_mem_zip hx).1) (h.w x hx)
  rw [List.length_zip] at h2
  have h3 := hp.k.l
  have h4 := hp.l12
  simp only [allW, wt_app]; omega
end J

set_option autoImplicit false
set_option linter.all false
set_option maxRecDepth 100000
/-! MV: a run, statement by statement: what is not reached is not looked at. -/
namespace J
open PySem
def kon (c : Ctx) (ss : Ss) : Out (Fl × En) → Out (Fl × En)
  | .ok (.next, env) h => evSs c ss env h
  | r => r
def kit (c : Ctx) (a b : Ss) (env : En) : Out Bool → Out (Fl × En)
  | .ok r h => if r then evSs c a env h else evSs c b env h
  | .exc k v h => .ok (.exc k v, env) h
  | .bad => .bad
def kE (env : En) (k : PV → Hh → Out (Fl × En)) : Out PV → Out (Fl × En)
  | .ok v h => k v h
  | .exc c v h => .ok (.exc c v, env) h
  | .bad => .bad
@[simp] theorem kon_next (c : Ctx) (ss : Ss) (env : En) (h : Hh) : kon c ss (.ok (.next, env) h) = evSs c ss env h := rfl
@[simp] theorem kon_ret (c : Ctx) (ss : Ss) (v : PV) (env : En) (h : Hh) : kon c ss (.ok (.ret v, env) h) = .ok (.ret v, env) h := rfl
@[simp] theorem kit_t (c : Ctx) (a b : Ss) (env : En) (h : Hh) : kit c a b env (.ok true h) = evSs c a env h := rfl
@[simp] theorem kit_f (c : Ctx) (a b : Ss) (env : En) (h : Hh) : kit c a b env (.ok false h) = evSs c b env h := rfl
@[simp] theorem kE_ok (env : En) (k : PV → Hh → Out (Fl × En)) (v : PV) (h : Hh) : kE env k (.ok v h) = k v h := rfl
section
variable {c : Ctx} {env : En} {h : Hh}
theorem ss_nil : evSs c .nil env h = .ok (.next, env) h := rfl
theorem ss_cons (s : S) (ss : Ss) : evSs c (.cons s ss) env h = kon c ss (evS c s env h) := by
  show M.bind (evS c s env) _ h = _
  unfold M.bind
  cases evS c s env h with
  | ok a h' =>
    obtain ⟨f, e⟩ := a
    cases f <;> rfl
  | exc k v h' => rfl
  | bad => rfl
theorem s_ite (t : C) (a b : Ss) : evS c (.ite t a b) env h = kit c a b env (evC c t env h) := by
  show tryE (evC c t env) env (fun r => if r then evSs c a env else evSs c b env) h = _
  rw [tat]
  cases evC c t env h with
  | ok r h' => cases r <;> rfl
  | exc k v h' => rfl
  | bad => rfl
theorem s_expr (e : E) : evS c (.expr e) env h = kE env (fun _ h' => .ok (.next, env) h') (evE c e env h) := by
  show tryE (evE c e env) env (fun _ => pure (.next, env)) h = _
  rw [tat]
  cases evE c e env h <;> rfl
theorem s_set (i : Nat) (e : E) : evS c (.set i e) env h = kE env (fun v h' => if i < env.length then .ok (.next, env.set i (some v)) h' else .bad) (evE c e env h) := by
  show tryE (evE c e env) env (fun x => if i < env.length then pure (.next, env.set i (some x)) else bad) h = _
  rw [tat]
  cases evE c e env h with
  | ok v h' => show (if i < env.length then pure (Fl.next, env.set i (some v)) else bad : M (Fl × En)) h' = (if i < env.length then _ else _); split <;> rfl
  | exc k v h' => rfl
  | bad => rfl
theorem s_asg (t : Tg) (e : E) : evS c (.asg t e) env h = kE env (fun v h' => match asgn t v env with | some env' => .ok (.next, env') h' | none => .bad) (evE c e env h) := by
  show tryE (evE c e env) env (fun x => opt (asgn t x env) >>= fun env' => pure (.next, env')) h = _
  rw [tat]
  cases evE c e env h with
  | ok v h' =>
    show (opt (asgn t v env) >>= fun env' => pure (Fl.next, env')) h' = (match asgn t v env with | some env' => _ | none => _)
    cases asgn t v env <;> rfl
  | exc k v h' => rfl
  | bad => rfl
theorem s_ret (e : E) : evS c (.ret e) env h = kE env (fun v h' => .ok (.ret v, env) h') (evE c e env h) := by
  show tryE (evE c e env) env (fun x => pure (.ret x, env)) h = _
  rw [tat]
  cases evE c e env h <;> rfl
theorem s_frz (i : Nat) : evS c (.frz i) env h = (match env[i]? with
    | some (some (.loc n)) => match h[n]? with
      | some (.lst xs) => Out.ok (Fl.next, env.set i (some (.lst xs))) (h.set n .dead)
      | some (.dct ks vs) => .ok (.next, env.set i (some (.dct ks vs))) (h.set n .dead)
      | _ => .bad
    | _ => .bad) := rfl
end
@[simp] theorem ev_addi (m : Bool) (i j : Int) : evBin .add m (.int i) (.int j) = pure (.int (i + j)) := rfl
@[simp] theorem ev_subi (m : Bool) (i j : Int) : evBin .sub m (.int i) (.int j) = pure (.int (i - j)) := rfl
/-- a body's end -/
def kend : Out (Fl × En) → Out PV
  | .ok (.next, _) h => .ok .non h
  | .ok (.ret v, _) h => .ok v h
  | .ok (.exc c v, _) h => .exc c v h
  | .ok _ _ => .bad
  | .exc c v h => .exc c v h
  | .bad => .bad
@[simp] theorem kend_ret (v : PV) (env : En) (h : Hh) : kend (.ok (.ret v, env) h) = .ok v h := rfl
@[simp] theorem kend_next (env : En) (h : Hh) : kend (.ok (.next, env) h) = .ok .non h := rfl
theorem ss_end (c : Ctx) (ss : Ss) (env : En) (h : Hh) : (evSs c ss env >>= retOf) h = kend (evSs c ss env h) := by
  show M.bind (evSs c ss env) retOf h = _
  unfold M.bind
  cases evSs c ss env h with
  | ok a h' =>
    obtain ⟨f, e⟩ := a
    cases f <;> rfl
  | exc k v h' => rfl
  | bad => rfl
end J

set_option autoImplicit false
set_option linter.all false
set_option maxRecDepth 100000
set_option maxHeartbeats 2000000
namespace J
open PySem
/-! ### write_text -/
theorem me_app_t (h t : Hh) (xs : List PV) (v : PV) (hz : xs.length + 1 ≤ 16777216) : evMe .append (.loc h.length) [v] (h ++ .lst xs :: t) = .ok .non (h ++ .lst (xs ++ [v]) :: t) := by
  rw [me_app v (hx0 h (.lst xs) t) hz, hs0]
theorem me_ext_t (h t : Hh) (xs ys : List PV) (hz : xs.length + ys.length ≤ 16777216) : evMe .extend (.loc h.length) [.lst ys] (h ++ .lst xs :: t) = .ok .non (h ++ .lst (xs ++ ys) :: t) := by
  rw [me_ext (ys := ys) (hx0 h (.lst xs) t) rfl hz, hs0]
@[simp] theorem rv_a_t (h t : Hh) (xs : List PV) : rd (recvB .append (.loc h.length)) (h ++ .lst xs :: t) = .ok () (h ++ .lst xs :: t) := rv_loc (hx0 h (.lst xs) t) (by decide)
@[simp] theorem rv_e_t (h t : Hh) (xs : List PV) : rd (recvB .extend (.loc h.length)) (h ++ .lst xs :: t) = .ok () (h ++ .lst xs :: t) := rv_loc (hx0 h (.lst xs) t) (by decide)
/-- a loop that adds to a list and leaves other cells behind it -/
theorem acc_loop_t {α : Type} {c : Ctx} {t : Tg} {it : It} {body : Ss} {src : Src} {l : List α} {enc : α → PV} {P : En → Prop} {g : α → List PV} {h : Hh} {acc : List PV} {tl : Hh} {env : En} {B : Nat} (hi : ∀ z, evI c it env z = .ok src z) (hx : itemsOf src = some (l.map enc))
    (hB : acc.length + (l.flatMap g).length ≤ B)
    (step : ∀ a env acc tl, a ∈ l → P env → acc.length + (g a).length ≤ B → ∃ env' tl', P env' ∧ (opt (asgn t (enc a) env) >>= fun env' => evSs c body env') (h ++ .lst acc :: tl) = .ok (.next, env') (h ++ .lst (acc ++ g a) :: tl')) (h0 : P env) :
    ∃ env' tl', P env' ∧ evS c (.for t it body) env (h ++ .lst acc :: tl) = .ok (.next, env') (h ++ .lst (acc ++ l.flatMap g) :: tl') := by
  obtain ⟨env', h', e, p, tl', eh⟩ := for_run (src := src) (body := fun x env => opt (asgn t x env) >>= fun env' => evSs c body env') (P := fun i env z => P env ∧ ∃ tl', z = h ++ .lst (acc ++ (l.take i).flatMap g) :: tl') hx
    (fun i a env z ha ⟨p, tl', hz⟩ => by
      subst hz
      have hi : i < l.length := (List.getElem?_eq_some_iff.mp ha).1
      have tk : l.take (i + 1) = l.take i ++ [a] := by rw [List.take_add_one, ha]; rfl
      have le : ((l.take (i + 1)).flatMap g).length ≤ (l.flatMap g).length := by
        have : l.flatMap g = (l.take (i + 1)).flatMap g ++ (l.drop (i + 1)).flatMap g := by rw [← List.flatMap_append, List.take_append_drop]
        rw [this, List.length_append]; omega
      have e1 : (l.take (i + 1)).flatMap g = (l.take i).flatMap g ++ g a := by rw [tk, List.flatMap_append]; simp
      rw [e1, List.length_append] at le
      obtain ⟨env', tl2, p', e⟩ := step a env (acc ++ (l.take i).flatMap g) tl' (List.mem_of_getElem? ha) p (by rw [List.length_append]; omega)
      exact ⟨env', _, e, p', tl2, by rw [e1, List.append_assoc]⟩)
    (env := env) (h := h ++ .lst acc :: tl) ⟨h0, tl, by simp⟩
  refine ⟨env', tl', p, ?_⟩
  show tryE (evI c it env) env (fun src => fun z => forGo src (fun x env => opt (asgn t x env) >>= fun env' => evSs c body env') (turns z src) 0 env z) (h ++ .lst acc :: tl) = _
  rw [tat, hi]
  rw [List.take_length] at eh
  rw [← eh]
  exact e
theorem z_kind : Str.ofString "kind" = st [107, 105, 110, 100] := rfl
theorem z_fun : Str.ofString "fun" = st [102, 117, 110] := rfl
theorem z_entry : Str.ofString "entry" = st [101, 110, 116, 114, 121] := rfl
theorem z_lb : Str.ofString "{" = st [123] := rfl
theorem z_rb : Str.ofString "}" = st [125] := rfl
theorem z_sp : Str.ofString " " = st [32] := rfl
def ent34 : S := match G.d34_b6 with | .cons _ (.cons s _) => s | _ => .pass
def entE34 : E := match ent34 with | .ite _ (.cons (.expr (.me _ _ (.cons e _))) _) _ => e | _ => .non
theorem brk_len8 {l : List W} (h : l.length ≤ 8) : (brk l).length ≤ 18 := by have := brk_len l; omega
theorem mkW_len {m : Mk} (h : MkOk m) : (mkW m).length ≤ 20 := by
  have := brk_len m.2
  have := h.l
  simp only [mkW, List.length_cons]; omega
section
variable {T : Nat → Option Fd} {fuel k : Nat} (H : Hw T)
include H
theorem mk_loop {q : Kd} (hq : KdOk q) (h : Hh) (acc : List PV) (ha : acc.length ≤ 10000) {x0 x1 x3 x5 x6 x7 x8 x9 x10 x11 x12 x13 : Option PV} :
    ∃ x y, evS ⟨callAt T fuel (k + 1), fuel⟩ G.d34_l1 [x0, x1, some (.loc h.length), x3, some (.tup (q.2.map encM)), x5, x6, x7, x8, x9, x10, x11, x12, x13] (h ++ [.lst acc]) = .ok (.next, [x0, x1, some (.loc h.length), x3, some (.tup (q.2.map encM)), x, y, x7, x8, x9, x10, x11, x12, x13]) (h ++ [.lst (acc ++ (q.2.flatMap mkW).map sv)]) := by
  have e2 : (q.2.flatMap fun d => (mkW d).map sv) = (q.2.flatMap mkW).map sv := by rw [List.map_flatMap]
  have le : (q.2.flatMap mkW).length ≤ q.2.length * 20 := flat_le fun m hm => mkW_len (hq.w m hm)
  have l6 := hq.l
  obtain ⟨env', ⟨x, y, hx⟩, e1⟩ := acc_loop (c := ⟨callAt T fuel (k + 1), fuel⟩) (t := .cons (.name 5) (.cons (.name 6) .nil)) (it := .val (.var 4)) (body := G.d34_b0) (src := .seq (.tup (q.2.map encM))) (l := q.2) (enc := encM) (g := fun d => (mkW d).map sv) (h := h) (acc := acc) (env := [x0, x1, some (.loc h.length), x3, some (.tup (q.2.map encM)), x5, x6, x7, x8, x9, x10, x11, x12, x13]) (B := 20000)
    (P := fun env => ∃ x y, env = [x0, x1, some (.loc h.length), x3, some (.tup (q.2.map encM)), x, y, x7, x8, x9, x10, x11, x12, x13]) (fun z => by simp [evSs, evS, evE, evEs, evC, evCA, evCO, evAnd, evOr, evI, evO, evJs, retOf, asgn, asgns, wipe, J.ba]) rfl (by
      rw [e2, List.length_map]; omega)
    (fun m env acc hm ⟨x, y, hx⟩ hb => by
      subst hx
      refine ⟨[x0, x1, some (.loc h.length), x3, some (.tup (q.2.map encM)), some (sv m.1), some (.tup (m.2.map sv)), x7, x8, x9, x10, x11, x12, x13], ⟨_, _, rfl⟩, ?_⟩
      have c1 := fun z => bracket_ok H (fuel := fuel) (k := k) (ws := m.2) (.inr rfl) (by have := (hq.w m hm).l; omega) z
      have l1 := mkW_len (hq.w m hm)
      simp only [List.length_map] at hb
      simp only [mkW, List.length_cons] at hb l1 ⊢
      generalize brk m.2 = w1 at *
      simp (disch := first | (simp only [List.length_append, List.length_map, List.length_cons, List.length_nil]; omega) | omega) [evSs, evS, evE, evEs, evC, evCA, evCO, evAnd, evOr, evI, evO, evJs, retOf, asgn, asgns, wipe, bat, tat, me_app0, me_ext0, mk_t0, mk_f0, ev_cat, encM, G.d34_b0, c1]) ⟨_, _, rfl⟩
  subst hx
  rw [e2] at e1
  exact ⟨x, y, e1⟩
theorem kd_loop {p : Pr} (hp : PrOk p) (h : Hh) {x0 x1 x3 x4 x5 x6 x7 x8 x9 x10 x11 x12 x13 : Option PV} :
    ∃ x y z u, evS ⟨callAt T fuel (k + 1), fuel⟩ G.d34_l3 [some (encP p), x1, some (.loc h.length), x3, x4, x5, x6, x7, x8, x9, x10, x11, x12, x13] (h ++ [.lst []]) = .ok (.next, [some (encP p), x1, some (.loc h.length), x, y, z, u, x7, x8, x9, x10, x11, x12, x13]) (h ++ [.lst ((p.kinds.flatMap kdW).map sv)]) := by
  have kl : ∀ q ∈ p.kinds, (kdW q).length ≤ 200 := fun q hm => by
    have hq := hp.k.w q hm
    have le : (q.2.flatMap mkW).length ≤ q.2.length * 20 := flat_le fun m hm => mkW_len (hq.w m hm)
    have := hq.l
    simp only [kdW, List.length_append, List.length_cons, List.length_nil]; omega
  have e2 : (p.kinds.flatMap fun d => (kdW d).map sv) = (p.kinds.flatMap kdW).map sv := by rw [List.map_flatMap]
  have le : (p.kinds.flatMap kdW).length ≤ p.kinds.length * 200 := flat_le kl
  have l6 := hp.k.l
  obtain ⟨env', ⟨x, y, z, u, hx⟩, e1⟩ := acc_loop (c := ⟨callAt T fuel (k + 1), fuel⟩) (t := .cons (.name 3) (.cons (.name 4) .nil)) (it := .val (.idx (.var 0) (.int 0))) (body := G.d34_b2) (src := .seq (.tup (p.kinds.map encK))) (l := p.kinds) (enc := encK) (g := fun d => (kdW d).map sv) (h := h) (acc := []) (env := [some (encP p), x1, some (.loc h.length), x3, x4, x5, x6, x7, x8, x9, x10, x11, x12, x13]) (B := 2000)
    (P := fun env => ∃ x y z u, env = [some (encP p), x1, some (.loc h.length), x, y, z, u, x7, x8, x9, x10, x11, x12, x13]) (fun z => by simp [evSs, evS, evE, evEs, evC, evCA, evCO, evAnd, evOr, evI, evO, evJs, retOf, asgn, asgns, wipe, J.ba, encP]) rfl (by
      rw [e2, List.length_map, List.length_nil]; omega)
    (fun q env acc hm ⟨x, y, z, u, hx⟩ hb => by
      subst hx
      have hq := hp.k.w q hm
      have l1 := kl q hm
      simp only [List.length_map] at hb
      obtain ⟨a, b, e1⟩ := mk_loop H (fuel := fuel) (k := k) hq h (acc ++ [sv [107, 105, 110, 100], sv q.1, sv [123]]) (by simp only [List.length_append, List.length_cons, List.length_nil]; omega) (x0 := some (encP p)) (x1 := x1) (x3 := some (sv q.1)) (x5 := z) (x6 := u) (x7 := x7) (x8 := x8) (x9 := x9) (x10 := x10) (x11 := x11) (x12 := x12) (x13 := x13)
      refine ⟨[some (encP p), x1, some (.loc h.length), some (sv q.1), some (.tup (q.2.map encM)), a, b, x7, x8, x9, x10, x11, x12, x13], ⟨_, _, _, _, rfl⟩, ?_⟩
      simp only [kdW, List.length_append, List.length_cons, List.length_nil] at hb l1 ⊢
      generalize q.2.flatMap mkW = w1 at *
      generalize encP p = ep at *
      simp only [sv, List.append_assoc] at e1
      simp (disch := first | (simp only [List.length_append, List.length_map, List.length_cons, List.length_nil]; omega) | omega) [evSs, evS, evE, evEs, evC, evCA, evCO, evAnd, evOr, evI, evO, evJs, retOf, asgn, asgns, wipe, bat, tat, me_app0, me_ext0, mk_t0, mk_f0, ev_cat, encK, G.d34_b2, z_kind, z_lb, z_rb, e1]) ⟨_, _, _, _, rfl⟩
  subst hx
  rw [e2, List.nil_append] at e1
  exact ⟨x, y, z, u, e1⟩
theorem rw_len {q : Rw} {p : Pl} (h : RwOk q) (hp : PlOk q p) : (rowW q p).length ≤ 7000 := Nat.le_trans (len_wt _) (wt_row h hp)
theorem row_loop {x : Fn × FPl} (hf : FnOk' x.1) (hp : FPlOk x.1.rows x.2) (h tl : Hh) (acc : List PV) (ha : acc.length ≤ 10000000) {x0 x1 x3 x4 x5 x6 x7 x8 x10 x12 x13 : Option PV} :
    ∃ tl' a b, evS ⟨callAt T fuel (k + 5), fuel⟩ G.d34_l5 [x0, x1, some (.loc h.length), x3, x4, x5, x6, x7, x8, some (.tup (x.1.rows.map encR)), x10, some (.tup (x.2.places.map encPl)), x12, x13] (h ++ .lst acc :: tl) = .ok (.next, [x0, x1, some (.loc h.length), x3, x4, x5, x6, x7, x8, some (.tup (x.1.rows.map encR)), x10, some (.tup (x.2.places.map encPl)), a, b]) (h ++ .lst (acc ++ (rowsW x).map sv) :: tl') := by
  have rl : ∀ q ∈ x.1.rows.zip x.2.places, (rowW q.1 q.2).length ≤ 7000 := fun q hq => rw_len H (hf.w _ (List.of_mem_zip hq).1) (hp.w q hq)
  have e2 : ((x.1.rows.zip x.2.places).flatMap fun d => (rowW d.1 d.2).map sv) = (rowsW x).map sv := by unfold rowsW; rw [List.map_flatMap]
  have le : (rowsW x).length ≤ (x.1.rows.zip x.2.places).length * 7000 := flat_le rl
  rw [List.length_zip] at le
  have l6 := hf.r60
  obtain ⟨env', tl', ⟨a, b, hx⟩, e1⟩ := acc_loop_t (c := ⟨callAt T fuel (k + 5), fuel⟩) (t := .cons (.name 12) (.cons (.name 13) .nil)) (it := .zip (.var 9) (.var 11)) (body := G.d34_b4) (src := .zip (.tup (x.1.rows.map encR)) (.tup (x.2.places.map encPl))) (l := x.1.rows.zip x.2.places) (enc := fun q => PV.tup [encR q.1, encPl q.2]) (g := fun d => (rowW d.1 d.2).map sv) (h := h) (acc := acc) (tl := tl) (env := [x0, x1, some (.loc h.length), x3, x4, x5, x6, x7, x8, some (.tup (x.1.rows.map encR)), x10, some (.tup (x.2.places.map encPl)), x12, x13]) (B := 16000000)
    (P := fun env => ∃ a b, env = [x0, x1, some (.loc h.length), x3, x4, x5, x6, x7, x8, some (.tup (x.1.rows.map encR)), x10, some (.tup (x.2.places.map encPl)), a, b]) (fun z => by simp [evSs, evS, evE, evEs, evC, evCA, evCO, evAnd, evOr, evI, evO, evJs, retOf, asgn, asgns, wipe, J.ba, zipOk_t]) (zip_items _ _ _ _) (by
      rw [e2, List.length_map]; omega)
    (fun q env acc tl hm ⟨a, b, hx⟩ hb => by
      subst hx
      refine ⟨[x0, x1, some (.loc h.length), x3, x4, x5, x6, x7, x8, some (.tup (x.1.rows.map encR)), x10, some (.tup (x.2.places.map encPl)), some (encR q.1), some (encPl q.2)], tl, ⟨_, _, rfl⟩, ?_⟩
      have c1 := fun z => row_words_ok H (fuel := fuel) (k := k) (hf.w _ (List.of_mem_zip hm).1) (hp.w q hm) z
      generalize rowW q.1 q.2 = w1 at *
      generalize encR q.1 = r1 at *
      generalize encPl q.2 = r2 at *
      simp only [List.length_map] at hb
      simp (disch := first | (simp only [List.length_append, List.length_map, List.length_cons, List.length_nil]; omega) | omega) [evSs, evS, evE, evEs, evC, evCA, evCO, evAnd, evOr, evI, evO, evJs, retOf, asgn, asgns, wipe, bat, tat, me_app0, me_ext0, mk_t0, mk_f0, ev_cat, G.d34_b4, c1, me_ext_t]) ⟨_, _, rfl⟩
  subst hx
  rw [e2] at e1
  exact ⟨tl', a, b, e1⟩
theorem ent_e {l : List Dd} (hd : DsOk l) (z : Hh) {x0 x1 x2 x3 x4 x5 x6 x7 x8 x9 x11 x12 x13 : Option PV} : evE ⟨callAt T fuel (k + 1), fuel⟩ entE34 [x0, x1, x2, x3, x4, x5, x6, x7, x8, x9, some (encDs l), x11, x12, x13] z = .ok (.lst (([101, 110, 116, 114, 121] :: (deedsW l ++ [[59]])).map sv)) (z ++ [.dead, .lst ((deedsW l).map sv)]) := by
  have c0 := deed_words_ok H (fuel := fuel) (k := k) hd z
  have le := deedsW_le hd
  generalize deedsW l = w1 at *
  generalize encDs l = ed at *
  simp (disch := first | (simp only [List.length_append, List.length_map, List.length_cons, List.length_nil]; omega) | omega) [evSs, evS, evE, evEs, evC, evCA, evCO, evAnd, evOr, evI, evO, evJs, retOf, asgn, asgns, wipe, bat, tat, me_app0, me_ext0, mk_t0, mk_f0, ev_cat, entE34, ent34, G.d34_b6, z_entry, z_sc, c0, cat_loc]
theorem ent_s {l : List Dd} (hd : DsOk l) (h tl : Hh) (acc : List PV) (ha : acc.length ≤ 10000000) {x0 x1 x3 x4 x5 x6 x7 x8 x9 x11 x12 x13 : Option PV} :
    ∃ tl', evS ⟨callAt T fuel (k + 1), fuel⟩ ent34 [x0, x1, some (.loc h.length), x3, x4, x5, x6, x7, x8, x9, some (encDs l), x11, x12, x13] (h ++ .lst acc :: tl) = .ok (.next, [x0, x1, some (.loc h.length), x3, x4, x5, x6, x7, x8, x9, some (encDs l), x11, x12, x13]) (h ++ .lst (acc ++ (entW l).map sv) :: tl') := by
  have u := ne_unit l
  by_cases e : l = []
  · subst e
    refine ⟨tl, ?_⟩
    simp (disch := first | (simp only [List.length_append, List.length_map, List.length_cons, List.length_nil]; omega) | omega) [evSs, evS, evE, evEs, evC, evCA, evCO, evAnd, evOr, evI, evO, evJs, retOf, asgn, asgns, wipe, bat, tat, me_app0, me_ext0, mk_t0, mk_f0, ev_cat, ent34, G.d34_b6, u, mk_t_nil, entW]
  · have c0 := ent_e H (fuel := fuel) (k := k) hd (h ++ .lst acc :: tl) (x0 := x0) (x1 := x1) (x2 := some (.loc h.length)) (x3 := x3) (x4 := x4) (x5 := x5) (x6 := x6) (x7 := x7) (x8 := x8) (x9 := x9) (x11 := x11) (x12 := x12) (x13 := x13)
    have le := deedsW_le hd
    refine ⟨tl ++ [.dead, .lst ((deedsW l).map sv)], ?_⟩
    have sh : ent34 = .ite (.val (.cmp .ne (.var 10) (.tup .nil))) (.cons (.expr (.me .extend (.var 2) (.cons entE34 .nil))) .nil) .nil := rfl
    rw [sh]
    generalize entE34 = ee at *
    have w : entW l = [101, 110, 116, 114, 121] :: (deedsW l ++ [[59]]) := by simp [entW, e]
    rw [w]
    generalize deedsW l = w1 at *
    generalize encDs l = ed at *
    simp only [List.append_assoc, List.cons_append] at c0
    simp (disch := first | (simp only [List.length_append, List.length_map, List.length_cons, List.length_nil]; omega) | omega) [evSs, evS, evE, evEs, evC, evCA, evCO, evAnd, evOr, evI, evO, evJs, retOf, asgn, asgns, wipe, bat, tat, me_app0, me_ext0, mk_t0, mk_f0, ev_cat, u, mk_t_nil, e, c0, me_ext_t]
end
end J

set_option autoImplicit false
set_option linter.all false
set_option maxRecDepth 100000
set_option maxHeartbeats 2000000
namespace J
open PySem
section
variable {T : Nat → Option Fd} {fuel k : Nat} (H : Hw T)
include H
omit H in
theorem asg2 {a b c d e f : PV} {x0 x1 x2 x3 x4 x5 x6 x7 x8 x9 x10 x11 x12 x13 : Option PV} : opt (asgn (.cons (.cons (.name 3) (.cons (.name 7) (.cons (.name 8) (.cons (.name 9) .nil)))) (.cons (.cons (.name 10) (.cons (.name 11) .nil)) .nil)) (PV.tup [.tup [a, b, c, d], .tup [e, f]]) [x0, x1, x2, x3, x4, x5, x6, x7, x8, x9, x10, x11, x12, x13]) = (pure [x0, x1, x2, some a, x4, x5, x6, some b, some c, some d, some e, some f, x12, x13] : M En) := by
  simp [evSs, evS, evE, evEs, evC, evCA, evCO, evAnd, evOr, evI, evO, evJs, retOf, asgn, asgns, wipe, J.ba]
def head34 : E := match G.d34_b6 with | .cons (.expr (.me _ _ (.cons e _))) _ => e | _ => .non
theorem head_e {x : Fn} (hf : FnOk' x) (z : Hh) {x0 x1 x2 x4 x5 x6 x9 x10 x11 x12 x13 : Option PV} : evE ⟨callAt T fuel (k + 1), fuel⟩ head34 [x0, x1, x2, some (sv x.name), x4, x5, x6, some (.tup (x.params.map sv)), some (sv x.result), x9, x10, x11, x12, x13] z = .ok (.lst (([[102, 117, 110], x.name] ++ (brk x.params ++ [x.result, [123]])).map sv)) z := by
  have c1 := fun z => bracket_ok H (fuel := fuel) (k := k) (ws := x.params) (.inr rfl) (by have := hf.l; omega) z
  have le := brk_len8 hf.l
  generalize brk x.params = w1 at *
  simp (disch := first | (simp only [List.length_append, List.length_map, List.length_cons, List.length_nil]; omega) | omega) [evSs, evS, evE, evEs, evC, evCA, evCO, evAnd, evOr, evI, evO, evJs, retOf, asgn, asgns, wipe, bat, tat, me_app0, me_ext0, mk_t0, mk_f0, ev_cat, head34, G.d34_b6, z_fun, z_lb, c1]
theorem fn_len {x : Fn × FPl} (h : FnOk' x.1) (hp : FPlOk x.1.rows x.2) : (fnW x).length ≤ 430000 := Nat.le_trans (len_wt _) (wt_fn h hp)
theorem fn_step {x : Fn × FPl} (hf : FnOk' x.1) (hp : FPlOk x.1.rows x.2) (h tl : Hh) (acc : List PV) (ha : acc.length ≤ 9000000) {x0 x1 x4 x5 x6 x12 x13 : Option PV} :
    ∃ tl' a b, evSs ⟨callAt T fuel (k + 5), fuel⟩ G.d34_b6 [x0, x1, some (.loc h.length), some (sv x.1.name), x4, x5, x6, some (.tup (x.1.params.map sv)), some (sv x.1.result), some (.tup (x.1.rows.map encR)), some (encDs x.2.entry), some (.tup (x.2.places.map encPl)), x12, x13] (h ++ .lst acc :: tl) =
      .ok (.next, [x0, x1, some (.loc h.length), some (sv x.1.name), x4, x5, x6, some (.tup (x.1.params.map sv)), some (sv x.1.result), some (.tup (x.1.rows.map encR)), some (encDs x.2.entry), some (.tup (x.2.places.map encPl)), a, b]) (h ++ .lst (acc ++ (fnW x).map sv) :: tl') := by
  have sh : G.d34_b6 = .cons (.expr (.me .extend (.var 2) (.cons head34 .nil))) (.cons ent34 (.cons G.d34_l5 (.cons (.expr (.me .append (.var 2) (.cons (.str (Str.ofString "}")) .nil))) .nil))) := rfl
  have le := brk_len8 hf.l
  have l2 : (entW x.2.entry).length ≤ 900 := Nat.le_trans (len_wt _) (wt_ent hp.e)
  have l3 := fn_len H hf hp
  have c1 := fun z => head_e H (fuel := fuel) (k := k + 4) hf z (x0 := x0) (x1 := x1) (x2 := some (.loc h.length)) (x4 := x4) (x5 := x5) (x6 := x6) (x9 := some (.tup (x.1.rows.map encR))) (x10 := some (encDs x.2.entry)) (x11 := some (.tup (x.2.places.map encPl))) (x12 := x12) (x13 := x13)
  obtain ⟨tl1, c2⟩ := ent_s H (fuel := fuel) (k := k + 4) hp.e h tl (acc ++ ([[102, 117, 110], x.1.name] ++ (brk x.1.params ++ [x.1.result, [123]])).map sv) (by simp only [List.length_append, List.length_map, List.length_cons, List.length_nil]; omega) (x0 := x0) (x1 := x1) (x3 := some (sv x.1.name)) (x4 := x4) (x5 := x5) (x6 := x6) (x7 := some (.tup (x.1.params.map sv))) (x8 := some (sv x.1.result)) (x9 := some (.tup (x.1.rows.map encR))) (x11 := some (.tup (x.2.places.map encPl))) (x12 := x12) (x13 := x13)
  obtain ⟨tl2, a, b, c3⟩ := row_loop H (fuel := fuel) (k := k) hf hp h tl1 (acc ++ ([[102, 117, 110], x.1.name] ++ (brk x.1.params ++ [x.1.result, [123]])).map sv ++ (entW x.2.entry).map sv) (by simp only [List.length_append, List.length_map, List.length_cons, List.length_nil]; omega) (x0 := x0) (x1 := x1) (x3 := some (sv x.1.name)) (x4 := x4) (x5 := x5) (x6 := x6) (x7 := some (.tup (x.1.params.map sv))) (x8 := some (sv x.1.result)) (x10 := some (encDs x.2.entry)) (x12 := x12) (x13 := x13)
  refine ⟨tl2, a, b, ?_⟩
  rw [sh]
  simp only [fnW, List.length_append, List.length_cons, List.length_nil] at l3 ⊢
  generalize head34 = he at *
  generalize ent34 = en at *
  generalize rowsW x = w3 at *
  generalize entW x.2.entry = w2 at *
  generalize brk x.1.params = w1 at *
  generalize encDs x.2.entry = v1 at *
  generalize x.2.places.map encPl = v2 at *
  generalize x.1.rows.map encR = v3 at *
  generalize x.1.params.map sv = v4 at *
  simp only [sv, List.append_assoc, List.map_append, List.map_cons, List.map_nil, List.cons_append, List.nil_append] at c1 c2 c3 ⊢
  simp (disch := first | (simp only [List.length_append, List.length_map, List.length_cons, List.length_nil]; omega) | omega) [evSs, evS, evE, evEs, evC, evCA, evCO, evAnd, evOr, evI, evO, evJs, retOf, asgn, asgns, wipe, bat, tat, me_app0, me_ext0, mk_t0, mk_f0, ev_cat, c1, me_ext_t, me_app_t, c2, c3, z_rb]
theorem fn_loop {p : Pr} {q : List FPl} (hp : PrOk p) (hq : PPOk p q) (h : Hh) (acc : List PV) (ha : acc.length ≤ 10000) {x3 x4 x5 x6 x7 x8 x9 x10 x11 x12 x13 : Option PV} :
    ∃ y3 y4 y5 y6 y7 y8 y9 y10 y11 y12 y13 tl', evS ⟨callAt T fuel (k + 5), fuel⟩ G.d34_l7 [some (encP p), some (encPP q), some (.loc h.length), x3, x4, x5, x6, x7, x8, x9, x10, x11, x12, x13] (h ++ .lst acc :: []) = .ok (.next, [some (encP p), some (encPP q), some (.loc h.length), y3, y4, y5, y6, y7, y8, y9, y10, y11, y12, y13]) (h ++ .lst (acc ++ ((p.fns.zip q).flatMap fnW).map sv) :: tl') := by
  have e2 : ((p.fns.zip q).flatMap fun d => (fnW d).map sv) = ((p.fns.zip q).flatMap fnW).map sv := by rw [List.map_flatMap]
  have le : ((p.fns.zip q).flatMap fnW).length ≤ 5200000 := by
    have := wt_all hp hq
    simp only [allW, wt_app] at this
    exact Nat.le_trans (len_wt _) (by omega)
  obtain ⟨env', tl', ⟨y3, y7, y8, y9, y10, y11, y12, y13, hx⟩, e1⟩ := acc_loop_t (c := ⟨callAt T fuel (k + 5), fuel⟩) (t := .cons (.cons (.name 3) (.cons (.name 7) (.cons (.name 8) (.cons (.name 9) .nil)))) (.cons (.cons (.name 10) (.cons (.name 11) .nil)) .nil)) (it := .zip (.idx (.var 0) (.int 1)) (.var 1)) (body := G.d34_b6) (src := .zip (.tup (p.fns.map encF)) (.tup (q.map encFP))) (l := p.fns.zip q) (enc := fun q => PV.tup [encF q.1, encFP q.2]) (g := fun d => (fnW d).map sv) (h := h) (acc := acc) (tl := []) (env := [some (encP p), some (encPP q), some (.loc h.length), x3, x4, x5, x6, x7, x8, x9, x10, x11, x12, x13]) (B := 6000000)
    (P := fun env => ∃ x3 x7 x8 x9 x10 x11 x12 x13, env = [some (encP p), some (encPP q), some (.loc h.length), x3, x4, x5, x6, x7, x8, x9, x10, x11, x12, x13]) (fun z => by simp [evSs, evS, evE, evEs, evC, evCA, evCO, evAnd, evOr, evI, evO, evJs, retOf, asgn, asgns, wipe, J.ba, encP, encPP, zipOk_t]) (zip_items _ _ _ _) (by
      rw [e2, List.length_map]; omega)
    (fun x env acc tl hm ⟨x3, x7, x8, x9, x10, x11, x12, x13, hx⟩ hb => by
      subst hx
      obtain ⟨tl', a, b, e⟩ := fn_step H (fuel := fuel) (k := k) (hp.w _ (List.of_mem_zip hm).1) (hq.w x hm) h tl acc (by omega) (x0 := some (encP p)) (x1 := some (encPP q)) (x4 := x4) (x5 := x5) (x6 := x6) (x12 := x12) (x13 := x13)
      refine ⟨[some (encP p), some (encPP q), some (.loc h.length), some (sv x.1.name), x4, x5, x6, some (.tup (x.1.params.map sv)), some (sv x.1.result), some (.tup (x.1.rows.map encR)), some (encDs x.2.entry), some (.tup (x.2.places.map encPl)), a, b], tl', ⟨_, _, _, _, _, _, _, _, rfl⟩, ?_⟩
      simp only [encF, encFP]
      rw [asg2]
      exact e) ⟨_, _, _, _, _, _, _, _, rfl⟩
  subst hx
  rw [e2] at e1
  exact ⟨_, _, _, _, _, _, _, _, _, _, _, tl', e1⟩
theorem write_text_ok {p : Pr} {q : List FPl} (hp : PrOk p) (hq : PPOk p q) (h : Hh) : callAt T fuel (k + 10) 34 [encP p, encPP q] h = .ok (.str (st (jn (allW p q)))) h := by
  have n0 := need_program_ok H.toHs (fuel := fuel) (k := k) hp
  have n1 := need_placing_ok H.toHs (fuel := fuel) (k := k) hp hq
  obtain ⟨y3, y4, y5, y6, e1⟩ := kd_loop H (fuel := fuel) (k := k + 8) hp h (x1 := some (encPP q)) (x0 := none) (x3 := none) (x4 := none) (x5 := none) (x6 := none) (x7 := none) (x8 := none) (x9 := none) (x10 := none) (x11 := none) (x12 := none) (x13 := none)
  have kl : (p.kinds.flatMap kdW).length ≤ 10000 := by
    have h1 := wt_flat (l := p.kinds) (f := kdW) (n := 500) fun m hm => wt_kd (hp.k.w m hm)
    have h3 := hp.k.l
    exact Nat.le_trans (len_wt _) (by omega)
  obtain ⟨w3, w4, w5, w6, w7, w8, w9, w10, w11, w12, w13, tl', e2⟩ := fn_loop H (fuel := fuel) (k := k + 4) hp hq h ((p.kinds.flatMap kdW).map sv) (by rw [List.length_map]; exact kl) (x3 := y3) (x4 := y4) (x5 := y5) (x6 := y6) (x7 := none) (x8 := none) (x9 := none) (x10 := none) (x11 := none) (x12 := none) (x13 := none)
  have w := wt_all hp hq
  have j := me_joinN (allW p q) (Nat.le_trans w (by decide))
  have rc : rd (recvB .join (.str (st [32]))) = pure () := rfl
  refine call_tidy (t := .dead :: tl') H.t34 rfl (by simp [clo]) ?_
  have aw : (p.kinds.flatMap kdW).map sv ++ ((p.fns.zip q).flatMap fnW).map sv = (allW p q).map sv := by simp [allW]
  rw [aw] at e2
  generalize allW p q = ws at *
  generalize encP p = ep at *
  generalize encPP q = eq at *
  generalize ((p.kinds.flatMap kdW).map sv) = ks at *
  simp (disch := first | (simp only [List.length_append, List.length_map, List.length_cons, List.length_nil]; omega) | omega) [evSs, evS, evE, evEs, evC, evCA, evCO, evAnd, evOr, evI, evO, evJs, retOf, asgn, asgns, wipe, bat, tat, me_app0, me_ext0, mk_t0, mk_f0, ev_cat, G.d34_write_text, n0, n1, e1, e2, z_sp, rc, j]
end
end J

set_option autoImplicit false
set_option linter.all false
set_option maxRecDepth 100000
set_option maxHeartbeats 2000000
namespace J
open PySem
/-! ### words with a blank behind, or ahead -/
def sp (ws : List W) : List Nat := ws.flatMap fun w => w ++ [32]
def pre (ws : List W) : List Nat := ws.flatMap fun w => 32 :: w
@[simp] theorem sp_nil : sp [] = [] := rfl
@[simp] theorem pre_nil : pre [] = [] := rfl
@[simp] theorem sp_cons (w : W) (ws : List W) : sp (w :: ws) = w ++ 32 :: sp ws := by simp [sp]
@[simp] theorem pre_cons (w : W) (ws : List W) : pre (w :: ws) = 32 :: (w ++ pre ws) := by simp [pre]
@[simp] theorem sp_app (a b : List W) : sp (a ++ b) = sp a ++ sp b := by simp [sp]
@[simp] theorem pre_app (a b : List W) : pre (a ++ b) = pre a ++ pre b := by simp [pre]
theorem jn_pre : ∀ (x : W) (ws : List W), jn (x :: ws) = x ++ pre ws
  | x, [] => by simp [jn]
  | x, y :: ws => by rw [jn_cons x (by simp), jn_pre y ws, pre_cons]
theorem pre_sp : ∀ D : List W, pre D ++ [32] = 32 :: sp D
  | [] => rfl
  | w :: D => by
    have := pre_sp D
    simp only [pre_cons, sp_cons, List.cons_append, List.append_assoc, this]
theorem sp_jn : ∀ {ws : List W}, ws ≠ [] → sp ws = jn ws ++ [32]
  | [], h => absurd rfl h
  | x :: ws, _ => by rw [jn_pre, sp_cons, List.append_assoc, pre_sp]
theorem pre_jn : ∀ {ws : List W}, ws ≠ [] → pre ws = 32 :: jn ws
  | [], h => absurd rfl h
  | x :: ws, _ => by rw [jn_pre, pre_cons]
theorem jn_sp : ∀ (B : List W) {M : List W}, M ≠ [] → jn (B ++ M) = sp B ++ jn M
  | [], M, _ => rfl
  | x :: B, M, h => by
    rw [List.cons_append, jn_cons x (by simp [h]), jn_sp B h, sp_cons, List.append_assoc]; rfl
theorem sp_len (ws : List W) : (sp ws).length = wt ws := by
  induction ws with
  | nil => rfl
  | cons w ws ih => simp only [sp_cons, List.length_append, List.length_cons, wt_cons, ih]; omega
theorem pre_len (ws : List W) : (pre ws).length = wt ws := by
  induction ws with
  | nil => rfl
  | cons w ws ih => simp only [pre_cons, List.length_append, List.length_cons, wt_cons, ih]; omega
theorem jn_len {ws : List W} (h : ws ≠ []) : (jn ws).length + 1 = wt ws := by
  rw [← sp_len, sp_jn h]; simp
theorem jn_wt (ws : List W) : (jn ws).length ≤ wt ws := by
  by_cases h : ws = []
  · subst h; simp [jn]
  · have := jn_len h; omega
theorem jn_flat : ∀ {gs : List (List W)}, (∀ g ∈ gs, g ≠ []) → jn (gs.map jn) = jn gs.flatten
  | [], _ => rfl
  | [g], h => by simp [jn]
  | g :: g2 :: gs, h => by
    have ih := jn_flat (gs := g2 :: gs) fun x hx => h x (List.mem_cons_of_mem _ hx)
    have n1 := h g (by simp)
    have n2 := h g2 (by simp)
    rw [List.map_cons, jn_cons _ (by simp), ih]
    show _ = jn (g ++ (g2 :: gs).flatten)
    rw [jn_app n1 (by simp [n2])]
theorem wt_flatten : ∀ {gs : List (List W)}, (∀ g ∈ gs, g ≠ []) → wt (gs.map jn) = wt gs.flatten
  | [], _ => rfl
  | g :: gs, h => by
    have ih := wt_flatten (gs := gs) fun x hx => h x (List.mem_cons_of_mem _ hx)
    have := jn_len (h g (by simp))
    rw [List.map_cons, wt_cons, ih, List.flatten_cons, wt_app]; omega
/-! ### joined by any signs -/
def jnS (s : List Nat) : List W → List Nat
  | [] => []
  | [x] => x
  | x :: y :: r => x ++ (s ++ jnS s (y :: r))
theorem jnS_glue (s : List Nat) (x y : W) (ws : List W) : jnS s ((x ++ (s ++ y)) :: ws) = jnS s (x :: y :: ws) := by
  cases ws with
  | nil => simp [jnS]
  | cons z ws => simp [jnS]
theorem fold_jnS (s : List Nat) : ∀ (ws : List W) (x : W), (ws.map st).foldl (fun acc p => acc ++ (st s).cps ++ p.cps) (st x).cps = (st (jnS s (x :: ws))).cps
  | [], x => rfl
  | y :: ws, x => by
    have ih := fold_jnS s ws (x ++ (s ++ y))
    rw [jnS_glue] at ih
    rw [List.map_cons, List.foldl_cons, ← ih]
    congr 1
    apply Array.ext'
    show ((x.toArray ++ s.toArray) ++ y.toArray).toList = (x ++ (s ++ y)).toArray.toList
    simp only [Array.toList_append, List.append_assoc]
theorem glued_jnS (s : List Nat) (ws : List W) : Txt.join (st s) (ws.map st) = st (jnS s ws) := by
  cases ws with
  | nil => rfl
  | cons x ws =>
    have := fold_jnS s ws x
    show Str.mk _ = _
    exact congrArg Str.mk this
theorem sum_lensS (s : List Nat) (ws : List W) : ((ws.map st).map (·.length)).sum + (ws.map st).length * (st s).length = (ws.map fun w => w.length).sum + ws.length * s.length := by
  rw [List.length_map, st_len]
  congr 1
  induction ws with
  | nil => rfl
  | cons w ws ih => simp only [List.map_cons, List.sum_cons, st_len, ih]
theorem me_joinS (s : List Nat) (ws : List W) (h : (ws.map fun w => w.length).sum + ws.length * s.length ≤ sizeL) : evMe .join (.str (st s)) [.lst (ws.map sv)] = pure (.str (st (jnS s ws))) := by
  have e : ws.map sv = (ws.map st).map PV.str := by rw [List.map_map]; rfl
  rw [e]
  show (rd (getS · (.lst ((ws.map st).map PV.str))) >>= fun xs => opt (strsOf xs) >>= fun ys => if (ys.map (·.length)).sum + ys.length * (st s).length ≤ sizeL then pure (PV.str (Txt.join (st s) ys)) else bad) = _
  show (opt (strsOf ((ws.map st).map PV.str)) >>= fun ys => if (ys.map (·.length)).sum + ys.length * (st s).length ≤ sizeL then pure (PV.str (Txt.join (st s) ys)) else bad) = _
  rw [strs_map]
  show (if ((ws.map st).map (·.length)).sum + (ws.map st).length * (st s).length ≤ sizeL then pure (PV.str (Txt.join (st s) (ws.map st))) else bad) = _
  rw [sum_lensS, if_pos h, glued_jnS]
theorem sum_le_wt (ws : List W) : (ws.map fun w => w.length).sum ≤ wt ws := by
  induction ws with
  | nil => simp
  | cons w ws ih => simp only [List.map_cons, List.sum_cons, wt_cons]; omega
theorem jnS_sep : ∀ ws : List W, jnS [32, 44, 32] ws = jn (sepW ws)
  | [] => rfl
  | [x] => rfl
  | x :: y :: r => by
    have ih := jnS_sep (y :: r)
    have n0 : sepW (y :: r) ≠ [] := by cases r <;> simp [sepW]
    simp only [jnS, sepW, ih] at *
    rw [jn_cons x (by simp), jn_cons _ n0]
    simp
theorem jn_brk {ws : List W} (h : ws ≠ []) : jn (brk ws) = [40, 32] ++ jn (sepW ws) ++ [32, 41] := by
  have n0 : sepW ws ≠ [] := by
    match ws, h with
    | [x], _ => simp [sepW]
    | x :: y :: r, _ => simp [sepW]
  unfold brk
  rw [jn_cons _ (by simp), jn_app n0 (by simp)]
  simp [jn]
def optW (l : List Dd) : List W := if l = [] then [] else deedsW l
theorem wt_opt {l : List Dd} (h : DsOk l) : wt (optW l) ≤ 850 := by
  have := wt_deeds h
  unfold optW
  split <;> simp <;> omega
theorem pre_next (f : Int) (ds : List Dd) : pre (nextW f ds) = [32, 45, 62, 32] ++ sp (optW ds) ++ numT f := by
  have e : nextW f ds = [45, 62] :: (optW ds ++ [numT f]) := rfl
  have := pre_sp (optW ds)
  rw [e, pre_cons, pre_app, pre_cons, pre_nil]
  have e2 : pre (optW ds) ++ 32 :: (numT f ++ []) = (pre (optW ds) ++ [32]) ++ numT f := by simp
  rw [e2, this]
  simp
theorem cat_st (m : Bool) (a b : List Nat) (h : a.length + b.length ≤ 16777216) : evBin .add m (.str (st a)) (.str (st b)) = pure (.str (st (a ++ b))) := by
  rw [evadd m (st a) (st b) (by rw [st_len, st_len]; exact h), st_app]
@[simp] theorem bi_list_l (xs : List PV) (h : xs.length ≤ 16777216) : evBi .list false [.lst xs] = pure (.lst xs) := mk_l xs h
@[simp] theorem bi_list_t (xs : List PV) (h : xs.length ≤ 16777216) : evBi .list false [.tup xs] = pure (.lst xs) := mk_l xs h
theorem eq_unit (l : List Dd) : rd (evCmp .eq (encDs l) (.tup [])) = pure (decide (l = [])) := by
  have u := ne_unit l
  refine rd_of fun h => ?_
  have v := congrFun u h
  change opt ((evEq h (encDs l) (.tup [])).map (!·)) h = .ok (!decide (l = [])) h at v
  show evEq h (encDs l) (.tup []) = _
  cases q : evEq h (encDs l) (.tup []) with
  | none => rw [q] at v; cases v
  | some b =>
    rw [q] at v
    change Out.ok (!b) h = .ok (!decide (l = [])) h at v
    injection v with v1 v2
    congr 1
    cases b <;> simp_all
/-! ### the law's own words -/
structure Hl (T : Nat → Option Fd) : Prop extends Hw T where
  t44 : T 44 = some G.d44_law_brackets
  t45 : T 45 = some G.d45_law_registers
  t46 : T 46 = some G.d46_law_deeds_text
  t47 : T 47 = some G.d47_law_next
  t48 : T 48 = some G.d48_law_row_text
  t49 : T 49 = some G.d49_law_text
theorem z_bb : Str.ofString "( )" = st [40, 32, 41] := rfl
theorem z_b1 : Str.ofString "( " = st [40, 32] := rfl
theorem z_b2 : Str.ofString " )" = st [32, 41] := rfl
theorem z_scm : Str.ofString " , " = st [32, 44, 32] := rfl
section
variable {T : Nat → Option Fd} {fuel k : Nat} (H : Hl T)
include H
theorem law_brackets_ok {ws : List W} {v : PV} (hv : v = .lst (ws.map sv) ∨ v = .tup (ws.map sv)) (hl : ws.length ≤ 100) (hw : wt ws ≤ 10000) : callAt T fuel (k + 1) 44 [v] = pure (.str (st (jn (brk ws)))) := by
  refine call_pure H.t44 rfl ?_
  have l0 : ∀ m, evBi .len m [v] = pure (.int ws.length) := fun m => by
    rcases hv with rfl | rfl
    · rw [bi_lenl, List.length_map]
    · rw [bi_lent, List.length_map]
  have l1 : evBi .list false [v] = pure (.lst (ws.map sv)) := by
    rcases hv with rfl | rfl
    · exact bi_list_l _ (by rw [List.length_map]; omega)
    · exact bi_list_t _ (by rw [List.length_map]; omega)
  by_cases h : ws = []
  · subst h
    simp [evSs, evS, evE, evEs, evC, evCA, evCO, evAnd, evOr, evI, evO, evJs, retOf, asgn, asgns, wipe, J.ba, G.d44_law_brackets, l0, z_bb]
    rfl
  · have n : ¬ ((ws.length : Int) = 0) := fun e => h (List.length_eq_zero_iff.mp (by omega))
    have j := me_joinS [32, 44, 32] ws (by
      have := sum_le_wt ws
      simp only [List.length_cons, List.length_nil, sizeL]; omega)
    have jb := jn_brk h
    have w1 := jn_wt (sepW ws)
    have w2 := wt_sep ws
    rw [jnS_sep] at j
    rw [jb]
    have c1 := cat_st false [40, 32] (jn (sepW ws)) (by simp only [List.length_cons, List.length_nil]; omega)
    have c2 := cat_st false ([40, 32] ++ jn (sepW ws)) [32, 41] (by simp only [List.length_append, List.length_cons, List.length_nil]; omega)
    have rc : rd (recvB .join (.str (st [32, 44, 32]))) = pure () := rfl
    generalize jn (sepW ws) = w at *
    simp only [List.cons_append, List.nil_append] at c1 c2 ⊢
    simp [evSs, evS, evE, evEs, evC, evCA, evCO, evAnd, evOr, evI, evO, evJs, retOf, asgn, asgns, wipe, J.ba, G.d44_law_brackets, l0, h, z_b1, z_b2, z_scm, l1, j, c1, c2, rc]
theorem law_registers_ok {l : List Int} (h : ∀ i ∈ l, Reg i) (hl : l.length ≤ 10) : callAt T fuel (k + 2) 45 [ivs l] = pure (.str (st (jn (brk (l.map rW))))) := by
  have c0 : evE ⟨callAt T fuel (k + 1), fuel⟩ G.d45_c0 [some (ivs l), none] = pure (.lst ((l.map rW).map sv)) := by
    have := comp_m (c := ⟨callAt T fuel (k + 1), fuel⟩) (env := [some (ivs l), none]) (own := [1]) (t := .name 1) (it := .val (.var 0)) (elt := .bin .add false (.str (Str.ofString "r")) (.bi .str false (.cons (.var 1) .nil))) (src := .seq (ivs l)) (enc := PV.int) (l := l) (f := fun i => .str (st (rW i))) (by simp [evSs, evS, evE, evEs, evC, evCA, evCO, evAnd, evOr, evI, evO, evJs, retOf, asgn, asgns, wipe, J.ba, ivs]) rfl (sizeL_10 (by omega)) fun x hx => by
      have nr := reg_num (h x hx)
      have b0 := fun m => bi_str_i m nr
      have c1 := cat_st false [114] (numT x) (by have := nr.1; simp only [List.length_cons, List.length_nil]; omega)
      simp [evSs, evS, evE, evEs, evC, evCA, evCO, evAnd, evOr, evI, evO, evJs, retOf, asgn, asgns, wipe, J.ba, rW, z_r, b0, c1]
    rw [List.map_map]
    exact this
  have b0 := law_brackets_ok H (fuel := fuel) (k := k) (ws := l.map rW) (.inl rfl) (by rw [List.length_map]; omega) (by
    have := wt_most (ws := l.map rW) (n := 3) fun w hw => by
      obtain ⟨i, hi, rfl⟩ := List.mem_map.mp hw
      exact reg_len (h i hi)
    rw [List.length_map] at this
    omega)
  refine call_pure H.t45 rfl ?_
  generalize l.map rW = ws at *
  simp [evSs, evS, evE, evEs, evC, evCA, evCO, evAnd, evOr, evI, evO, evJs, retOf, asgn, asgns, wipe, J.ba, G.d45_law_registers, c0, b0]
end
end J

set_option autoImplicit false
set_option linter.all false
set_option maxRecDepth 100000
set_option maxHeartbeats 2000000
namespace J
open PySem
theorem z_es : Str.ofString "" = st [] := rfl
theorem z_lb2 : Str.ofString "{ " = st [123, 32] := rfl
theorem z_rb2 : Str.ofString "} " = st [125, 32] := rfl
theorem z_freet : Str.ofString "free t" = st [102, 114, 101, 101, 32, 116] := rfl
theorem z_col : Str.ofString " : " = st [32, 58, 32] := rfl
theorem z_ar : Str.ofString " -> " = st [32, 45, 62, 32] := rfl
theorem z_hold : Str.ofString "hold" = st [104, 111, 108, 100] := rfl
theorem z_drop : Str.ofString "drop" = st [100, 114, 111, 112] := rfl
theorem z_free : Str.ofString "free" = st [102, 114, 101, 101] := rfl
theorem z_br : Str.ofString " r" = st [32, 114] := rfl
theorem z_blank : Str.ofString " " = st [32] := rfl
theorem z_giver : Str.ofString "give r" = st [103, 105, 118, 101, 32, 114] := rfl
theorem z_bsc : Str.ofString " ;" = st [32, 59] := rfl
theorem z_bltr : Str.ofString " < r" = st [32, 60, 32, 114] := rfl
theorem z_bcm : Str.ofString " ," = st [32, 44] := rfl
theorem z_caser : Str.ofString "case r" = st [99, 97, 115, 101, 32, 114] := rfl
theorem z_bintot : Str.ofString " into t" = st [32, 105, 110, 116, 111, 32, 116] := rfl
theorem z_bint : Str.ofString " in t" = st [32, 105, 110, 32, 116] := rfl
theorem z_beq : Str.ofString " = " = st [32, 61, 32] := rfl
theorem z_bplr : Str.ofString " + r" = st [32, 43, 32, 114] := rfl
theorem z_bmir : Str.ofString " - r" = st [32, 45, 32, 114] := rfl
theorem for_eq {c : Ctx} {t : Tg} {it : It} {body : Ss} {env : En} {z z1 : Hh} {src : Src} {r : Out (Fl × En)} (hi : evI c it env z = .ok src z1) (hr : forGo src (fun x env => opt (asgn t x env) >>= fun env' => evSs c body env') (turns z1 src) 0 env z1 = r) : evS c (.for t it body) env z = r := by
  show tryE (evI c it env) env (fun src => fun z => forGo src (fun x env => opt (asgn t x env) >>= fun env' => evSs c body env') (turns z src) 0 env z) z = _
  rw [tat, hi]
  exact hr
section
variable {T : Nat → Option Fd} {fuel k : Nat} (H : Hl T)
include H
omit H in
theorem deeds_step {c : Ctx} {d : Dd} (hd : DdOk d) (X : List Nat) (hX : X.length ≤ 2000) (h : Hh) {v : PV} {x : Option PV} : (opt (asgn (.name 2) (encD d) [some v, some (.str (st X)), x]) >>= fun env' => evSs c G.d46_b0 env') h = .ok (.next, [some v, some (.str (st (X ++ sp (dW d)))), some (encD d)]) h := by
  have hn : ∀ {i : Int}, 0 ≤ i → i ≤ 100 → NumOk i := fun h0 h1 => num_small (by omega)
  cases d with
  | hold r =>
    have nr := reg_num (show Reg r from hd)
    have l1 := nr.1
    have b0 := fun m => bi_str_i m nr
    simp (disch := first | (simp only [List.length_append, List.length_map, List.length_cons, List.length_nil]; omega) | omega) [evSs, evS, evE, evEs, evC, evCA, evCO, evAnd, evOr, evI, evO, evJs, retOf, asgn, asgns, wipe, bat, tat, me_app0, me_ext0, mk_t0, mk_f0, ev_cat, encD, dW, rW, G.d46_b0, z_hold, z_free, z_br, z_blank, b0, cat_st]
  | drop r =>
    have nr := reg_num (show Reg r from hd)
    have l1 := nr.1
    have b0 := fun m => bi_str_i m nr
    simp (disch := first | (simp only [List.length_append, List.length_map, List.length_cons, List.length_nil]; omega) | omega) [evSs, evS, evE, evEs, evC, evCA, evCO, evAnd, evOr, evI, evO, evJs, retOf, asgn, asgns, wipe, bat, tat, me_app0, me_ext0, mk_t0, mk_f0, ev_cat, encD, dW, rW, G.d46_b0, z_drop, z_free, z_br, z_blank, b0, cat_st]
  | free t f =>
    have nt := hn hd.1.1 (by have := hd.1.2; omega : t ≤ 100)
    have nf := hn hd.2.1 (by have := hd.2.2; omega : f ≤ 100)
    have l1 := nt.1
    have l2 := nf.1
    have b0 := fun m => bi_str_i m nt
    have b1 := fun m => bi_str_i m nf
    simp (disch := first | (simp only [List.length_append, List.length_map, List.length_cons, List.length_nil]; omega) | omega) [evSs, evS, evE, evEs, evC, evCA, evCO, evAnd, evOr, evI, evO, evJs, retOf, asgn, asgns, wipe, bat, tat, me_app0, me_ext0, mk_t0, mk_f0, ev_cat, encD, dW, tW, G.d46_b0, z_free, z_freet, z_col, z_blank, b0, b1, cat_st]
theorem law_deeds_ok {l : List Dd} (hd : DsOk l) (h : Hh) : callAt T fuel (k + 1) 46 [encDs l] h = .ok (.str (st (sp (optW l)))) h := by
  have u := eq_unit l
  refine call_tidy (t := []) H.t46 rfl rfl ?_
  by_cases e : l = []
  · subst e
    simp (disch := first | (simp only [List.length_append, List.length_map, List.length_cons, List.length_nil]; omega) | omega) [evSs, evS, evE, evEs, evC, evCA, evCO, evAnd, evOr, evI, evO, evJs, retOf, asgn, asgns, wipe, bat, tat, me_app0, me_ext0, mk_t0, mk_f0, ev_cat, G.d46_law_deeds_text, u, mk_t_nil, optW, z_es]
  · obtain ⟨env', h', e1, ⟨x, hx⟩, eh⟩ := for_run (src := .seq (encDs l)) (body := fun x env => opt (asgn (.name 2) x env) >>= fun env' => evSs ⟨callAt T fuel k, fuel⟩ G.d46_b0 env') (l := l) (enc := encD) (P := fun i env z => (∃ x, env = [some (encDs l), some (.str (st (sp ([123] :: (l.take i).flatMap dW)))), x]) ∧ z = h) (by rfl)
      (fun i d env z hm ⟨⟨x, hx⟩, hz⟩ => by
        subst hx hz
        have hi : i < l.length := (List.getElem?_eq_some_iff.mp hm).1
        have tk : l.take (i + 1) = l.take i ++ [d] := by rw [List.take_add_one, hm]; rfl
        have le := wt_flat (l := l.take i) (f := dW) (n := 14) fun d hm => wt_dW (hd.2 d (List.mem_of_mem_take hm))
        have l2 := hd.1
        rw [List.length_take] at le
        have e3 : sp ([123] :: (l.take (i + 1)).flatMap dW) = sp ([123] :: (l.take i).flatMap dW) ++ sp (dW d) := by
          rw [tk, List.flatMap_append]
          simp
        have l3 : (sp ([123] :: (l.take i).flatMap dW)).length ≤ 2000 := by
          rw [sp_len, wt_cons]
          simp only [List.length_cons, List.length_nil]; omega
        rw [e3]
        exact ⟨_, _, deeds_step (hd.2 d (List.mem_of_getElem? hm)) _ l3 _, ⟨_, rfl⟩, rfl⟩)
      (env := [some (encDs l), some (.str (st [123, 32])), none]) (h := h) ⟨⟨none, by simp⟩, rfl⟩
    subst hx
    subst eh
    rw [List.take_length] at e1
    have e4 : evS ⟨callAt T fuel k, fuel⟩ G.d46_l1 [some (encDs l), some (.str (st [123, 32])), none] h' = .ok (.next, [some (encDs l), some (.str (st (sp ([123] :: l.flatMap dW)))), x]) h' :=
      for_eq (by simp [evSs, evS, evE, evEs, evC, evCA, evCO, evAnd, evOr, evI, evO, evJs, retOf, asgn, asgns, wipe, J.ba, encDs]) e1
    have le := wt_flat (l := l) (f := dW) (n := 14) fun d hm => wt_dW (hd.2 d hm)
    have l2 := hd.1
    have l3 : (sp ([123] :: l.flatMap dW)).length ≤ 2000 := by
      rw [sp_len, wt_cons]
      simp only [List.length_cons, List.length_nil]; omega
    have e5 : sp (optW l) = sp ([123] :: l.flatMap dW) ++ [125, 32] := by simp [optW, e, deedsW]
    rw [e5]
    generalize sp ([123] :: l.flatMap dW) = X at *
    have c1 := cat_st false X [125, 32] (by simp only [List.length_cons, List.length_nil]; omega)
    simp (disch := first | (simp only [List.length_append, List.length_map, List.length_cons, List.length_nil]; omega) | omega) [evSs, evS, evE, evEs, evC, evCA, evCO, evAnd, evOr, evI, evO, evJs, retOf, asgn, asgns, wipe, bat, tat, me_app0, me_ext0, mk_t0, mk_f0, ev_cat, G.d46_law_deeds_text, u, mk_t_nil, e, z_lb2, z_rb2, e4, c1]
theorem law_next_ok {f : Int} {ds : List Dd} (hd : DsOk ds) (hf : Nxt f) (h : Hh) : callAt T fuel (k + 2) 47 [.int f, encDs ds] h = .ok (.str (st (pre (nextW f ds)))) h := by
  have nf := nxt_num hf
  have l1 := nf.1
  have b0 := fun m => bi_str_i m nf
  have c0 := law_deeds_ok H (fuel := fuel) (k := k) hd h
  have l2 := wt_opt hd
  rw [← sp_len] at l2
  rw [pre_next]
  refine call_tidy (t := []) H.t47 rfl rfl ?_
  generalize sp (optW ds) = X at *
  simp (disch := first | (simp only [List.length_append, List.length_map, List.length_cons, List.length_nil]; omega) | omega) [evSs, evS, evE, evEs, evC, evCA, evCO, evAnd, evOr, evI, evO, evJs, retOf, asgn, asgns, wipe, bat, tat, me_app0, me_ext0, mk_t0, mk_f0, ev_cat, G.d47_law_next, c0, z_ar, b0, cat_st]
end
end J

set_option autoImplicit false
set_option linter.all false
set_option maxRecDepth 100000
set_option maxHeartbeats 4000000
namespace J
open PySem
def bW (q : (List Int × Int) × List Dd) : List W := brk (q.1.1.map rW) ++ nextW q.1.2 q.2
theorem brk_ne (l : List W) : brk l ≠ [] := by simp [brk]
theorem pre_bW (q : (List Int × Int) × List Dd) : pre (bW q) = 32 :: (jn (brk (q.1.1.map rW)) ++ pre (nextW q.1.2 q.2)) := by
  unfold bW
  rw [pre_app, pre_jn (brk_ne _)]; rfl
theorem jnS_cons (s : List Nat) : ∀ (x : W) (ws : List W), jnS s (x :: ws) = x ++ ws.flatMap fun w => s ++ w
  | x, [] => by simp [jnS]
  | x, y :: ws => by
    have := jnS_cons s y ws
    simp only [jnS, this, List.flatMap_cons, List.append_assoc]
theorem lots_off : ∀ (L : List ((List Int × Int) × List Dd)) (n : Nat), 0 < n → pre ((L.zipIdx n).flatMap lotW) = L.flatMap fun q => [32, 44] ++ pre (bW q)
  | [], _, _ => rfl
  | q :: L, n, h => by
    have ih := lots_off L (n + 1) (by omega)
    rw [List.zipIdx_cons, List.flatMap_cons, pre_app, ih, List.flatMap_cons]
    congr 1
    simp [lotW, h, bW]
theorem lots_join (L : List ((List Int × Int) × List Dd)) : jnS [32, 44] (L.map fun q => pre (bW q)) = pre (L.zipIdx.flatMap lotW) := by
  cases L with
  | nil => rfl
  | cons q L =>
    rw [List.map_cons, jnS_cons, List.zipIdx_cons, List.flatMap_cons, pre_app, lots_off L (0 + 1) (by omega), List.flatMap_map]
    congr 1
theorem range_items {α : Type} (l : List α) {n : Nat} (hn : n = l.length) : itemsOf (Src.range 0 n) = some (l.zipIdx.map fun q => PV.int (q.2 : Nat)) := by
  subst hn
  show some ((List.range l.length).map fun (i : Nat) => PV.int (0 + (i : Int))) = _
  congr 1
  have : l.zipIdx.map (fun q => PV.int (q.2 : Nat)) = (l.zipIdx.map Prod.snd).map fun i => PV.int (i : Nat) := by rw [List.map_map]; rfl
  rw [this, List.zipIdx_map_snd, ← List.range_eq_range']
  simp
theorem zipIdx_flat {α β : Type} (l : List α) (g : α → List β) (n : Nat) : ((l.zipIdx n).flatMap fun q => g q.1) = l.flatMap g := by
  induction l generalizing n with
  | nil => rfl
  | cons a l ih => rw [List.zipIdx_cons, List.flatMap_cons, List.flatMap_cons, ih]
theorem evI_r1 {c : Ctx} {a : E} {env : En} {z : Hh} {n : Nat} (he : evE c a env z = .ok (.int n) z) (hn : n ≤ 1000) : evI c (.range1 a) env z = .ok (Src.range 0 n) z := by
  show (evE c a env >>= fun x => match x with | .int j => if -(2 ^ 62) ≤ j ∧ j < 2 ^ 62 then pure (Src.range 0 j.toNat) else bad | _ => bad) z = _
  rw [bat, he]
  show (if -(2 ^ 62) ≤ (n : Int) ∧ (n : Int) < 2 ^ 62 then pure (Src.range 0 (n : Int).toNat) else bad : M Src) z = _
  rw [if_pos (by omega)]
  rfl
theorem rd_att {ys : List PV} {n : Nat} {y : PV} (e : ys[n]? = some y) : rd (evIdx · (.tup ys) (.int (n : Nat))) = pure y := rd_at e
section
variable {T : Nat → Option Fd} {fuel k : Nat} (H : Hl T)
include H
theorem br_loop {a0 a1 : PV} {lots : List (List Int × Int)} {es : List (List Dd)} (hn : es.length = lots.length) (hl : lots.length ≤ 6) (hq : ∀ q ∈ lots, Regs q.1 4 ∧ Nxt q.2) (he : ∀ e ∈ es, DsOk e) (h : Hh) {x1 x2 x3 x5 x7 : Option PV} :
    ∃ x, evS ⟨callAt T fuel (k + 2), fuel⟩ G.d48_l1 [some (.tup [a0, a1, .tup (lots.map encL)]), x1, x2, x3, some (.tup (es.map encDs)), x5, some (.loc h.length), x7] (h ++ [.lst []]) = .ok (.next, [some (.tup [a0, a1, .tup (lots.map encL)]), x1, x2, x3, some (.tup (es.map encDs)), x5, some (.loc h.length), x]) (h ++ [.lst (((lots.zip es).map fun q => pre (bW q)).map sv)]) := by
  have lz : lots.length = (lots.zip es).length := by rw [List.length_zip]; omega
  have fact : ∀ q ∈ (lots.zip es).zipIdx, lots[q.2]? = some q.1.1 ∧ es[q.2]? = some q.1.2 := fun q hq => by
    obtain ⟨i, hi⟩ := List.getElem?_of_mem hq
    obtain ⟨e1, e2⟩ := zipIdx_at hi
    subst e2
    exact List.getElem?_zip_eq_some.mp e1
  have e2 : (((lots.zip es).zipIdx).flatMap fun q => [sv (pre (bW q.1))]) = ((lots.zip es).map fun q => pre (bW q)).map sv := by
    rw [zipIdx_flat (lots.zip es) (fun q => [sv (pre (bW q))]) 0, List.map_map]
    generalize lots.zip es = L
    induction L with
    | nil => rfl
    | cons a L ih => rw [List.flatMap_cons, ih]; rfl
  obtain ⟨env', ⟨x, hx⟩, e1⟩ := acc_loop (c := ⟨callAt T fuel (k + 2), fuel⟩) (t := .name 7) (it := .range1 (.bi .len false (.cons (.idx (.var 0) (.int 2)) .nil))) (body := G.d48_b0) (src := Src.range 0 lots.length) (l := (lots.zip es).zipIdx) (enc := fun q => PV.int (q.2 : Nat)) (g := fun q => [sv (pre (bW q.1))]) (h := h) (acc := []) (env := [some (.tup [a0, a1, .tup (lots.map encL)]), x1, x2, x3, some (.tup (es.map encDs)), x5, some (.loc h.length), x7]) (B := 1000)
    (P := fun env => ∃ x, env = [some (.tup [a0, a1, .tup (lots.map encL)]), x1, x2, x3, some (.tup (es.map encDs)), x5, some (.loc h.length), x])
    (fun z => evI_r1 (by simp [evSs, evS, evE, evEs, evC, evCA, evCO, evAnd, evOr, evI, evO, evJs, retOf, asgn, asgns, wipe, J.ba]) (by omega)) (range_items _ lz) (by
      rw [e2]; simp only [List.length_map, List.length_nil]; omega)
    (fun q env acc hm ⟨x, hx⟩ hb => by
      subst hx
      obtain ⟨f1, f2⟩ := fact q hm
      obtain ⟨⟨⟨regs, nx⟩, ds⟩, i⟩ := q
      simp only at f1 f2 hb
      obtain ⟨g1, g2⟩ := hq _ (List.mem_of_getElem? f1)
      have g3 := he _ (List.mem_of_getElem? f2)
      simp only at g1 g2
      refine ⟨[some (.tup [a0, a1, .tup (lots.map encL)]), x1, x2, x3, some (.tup (es.map encDs)), x5, some (.loc h.length), some (.int (i : Nat))], ⟨_, rfl⟩, ?_⟩
      have c1 := law_registers_ok H (fuel := fuel) (k := k) (l := regs) g1.2 (by have := g1.1; omega)
      have c2 := fun z => law_next_ok H (fuel := fuel) (k := k) g3 g2 z
      have r1 := rd_att (ys := lots.map encL) (n := i) (y := encL (regs, nx)) (by rw [List.getElem?_map, f1]; rfl)
      have r2 := rd_att (ys := es.map encDs) (n := i) (y := encDs ds) (by rw [List.getElem?_map, f2]; rfl)
      have l1 := jn_wt (brk (regs.map rW))
      have l2 := wt_regs g1.2
      have l3 := g1.1
      have l4 := pre_len (nextW nx ds)
      have l5 := wt_next g3 g2
      have pb := pre_bW ((regs, nx), ds)
      simp only at pb
      rw [pb]
      generalize jn (brk (regs.map rW)) = w1 at *
      generalize pre (nextW nx ds) = w2 at *
      simp only [encL] at r1
      simp only [List.length_cons, List.length_nil] at hb
      simp (disch := first | (simp only [List.length_append, List.length_map, List.length_cons, List.length_nil]; omega) | omega) [evSs, evS, evE, evEs, evC, evCA, evCO, evAnd, evOr, evI, evO, evJs, retOf, asgn, asgns, wipe, bat, tat, me_app0, me_ext0, mk_t0, mk_f0, ev_cat, G.d48_b0, c1, c2, r1, r2, z_blank, cat_st]) ⟨_, rfl⟩
  subst hx
  rw [e2, List.nil_append] at e1
  exact ⟨x, e1⟩
end
end J

set_option autoImplicit false
set_option linter.all false
set_option maxRecDepth 100000
set_option maxHeartbeats 4000000
namespace J
open PySem
theorem row_sp (q : Rw) (p : Pl) : jn (rowW q p) = sp (optW p.before) ++ jn (midW q p.token p.edges ++ [[59]]) := by
  have e : rowW q p = optW p.before ++ (midW q p.token p.edges ++ [[59]]) := rfl
  rw [e, jn_sp _ (by simp)]
theorem ts_give (r : Int) (t : Option Int) (es : List (List Dd)) : jn (midW (.give r) t es ++ [[59]]) = [103, 105, 118, 101, 32, 114] ++ numT r ++ [32, 59] := by
  simp [midW, jn_pre, rW]
theorem ts_less (r a f g : Int) (t : Option Int) (e e2 : List Dd) : jn (midW (.less r a f g) t [e, e2] ++ [[59]]) = 114 :: numT r ++ [32, 60, 32, 114] ++ numT a ++ pre (nextW f e) ++ [32, 44] ++ pre (nextW g e2) ++ [32, 59] := by
  simp only [midW, List.headD, List.tail, List.cons_append, List.nil_append, List.append_assoc]
  generalize nextW f e = w1
  generalize nextW g e2 = w2
  simp [jn_pre, rW]
theorem ts_case (r : Int) (t : Option Int) (lots : List (List Int × Int)) (es : List (List Dd)) : jn (midW (.mtch r lots) t es ++ [[59]]) = [99, 97, 115, 101, 32, 114] ++ numT r ++ (match t with | none => [] | some t => [32, 105, 110, 116, 111, 32, 116] ++ numT t) ++ pre ((lots.zip es).zipIdx.flatMap lotW) ++ [32, 59] := by
  have e : midW (.mtch r lots) t es = [[99, 97, 115, 101], rW r] ++ (match t with | none => [] | some t => [[105, 110, 116, 111], tW t]) ++ (lots.zip es).zipIdx.flatMap lotW := rfl
  rw [e]
  generalize (lots.zip es).zipIdx.flatMap lotW = w
  cases t <;> simp [jn_pre, rW, tW]
theorem ts_number (r n f : Int) (t : Option Int) (e : List Dd) : jn (midW (.number r n f) t [e] ++ [[59]]) = 114 :: numT r ++ [32, 61, 32] ++ numT n ++ pre (nextW f e) ++ [32, 59] := by
  simp only [midW, setW, nexts, List.headD, List.cons_append, List.nil_append, List.append_assoc]
  generalize nextW f e = w1
  simp [jn_pre, rW]
theorem ts_arith (s : Bool) (r a b f : Int) (t : Option Int) (e : List Dd) : jn (midW (.arith s r a b f) t [e] ++ [[59]]) = 114 :: numT r ++ [32, 61, 32, 114] ++ numT a ++ [32, if s then 45 else 43, 32, 114] ++ numT b ++ pre (nextW f e) ++ [32, 59] := by
  simp only [midW, setW, nexts, List.headD, List.cons_append, List.nil_append, List.append_assoc]
  generalize nextW f e = w1
  cases s <;> simp [jn_pre, rW]
def tokT : Option Int → List Nat
  | none => []
  | some t => [32, 105, 110, 32, 116] ++ numT t
theorem ts_named (r : Int) (x : W) (l : List Int) (t : Option Int) (w : List W) : jn (([rW r, [61], x] ++ brk (l.map rW) ++ tokW t) ++ w ++ [[59]]) = 114 :: numT r ++ [32, 61, 32] ++ x ++ [32] ++ jn (brk (l.map rW)) ++ tokT t ++ pre w ++ [32, 59] := by
  have := pre_jn (brk_ne (l.map rW))
  generalize brk (l.map rW) = b at *
  cases t <;> simp [jn_pre, rW, tokW, tokT, tW, this]
theorem s48 : G.d48_law_row_text.slots = 8 := rfl
section
variable {T : Nat → Option Fd} {fuel k : Nat} (H : Hl T)
include H
theorem law_row_ok {q : Rw} {p : Pl} (h : RwOk q) (hp : PlOk q p) (z : Hh) : callAt T fuel (k + 3) 48 [encR q, encPl p] z = .ok (.str (st (jn (rowW q p)))) z := by
  have c0 := fun z => law_deeds_ok H (fuel := fuel) (k := k + 1) hp.b z
  have lx := wt_opt hp.b
  rw [row_sp]
  rw [← sp_len] at lx
  obtain ⟨be, tk, es⟩ := p
  have pn := hp.n
  have pe := hp.e
  have pt : ∀ i, tk = some i → hasTok q = true ∧ Tok' i := hp.t
  simp only at pn pe c0 lx ⊢
  generalize sp (optW be) = X at *
  simp only [encPl]
  generalize encDs be = bv at *
  cases q with
  | give r =>
    have nr := reg_num (show Reg r from h)
    have n0 := nr.1
    have b0 := fun m => bi_str_i m nr
    refine call_tidy (t := []) H.t48 rfl rfl ?_
    rw [ts_give]
    simp (disch := first | (simp only [List.length_append, List.length_map, List.length_cons, List.length_nil]; omega) | omega) [ss_end, ss_cons, ss_nil, s_ite, s_expr, s_set, s_asg, s_ret, s_frz, evE, evEs, evC, evCA, evCO, evAnd, evOr, evI, evO, evJs, retOf, asgn, asgns, wipe, bat, me_app0, me_ext0, mk_t0, mk_f0, ev_cat, G.d48_law_row_text, encR, c0, z_giver, z_bsc, b0, cat_st]
  | less r a f g =>
    obtain ⟨e, e2, rfl⟩ : ∃ a b, es = [a, b] := by
      match es, pn with
      | [a, b], _ => exact ⟨a, b, rfl⟩
    have nr := reg_num h.1
    have na := reg_num h.2.1
    have n0 := nr.1
    have n1 := na.1
    have b0 := fun m => bi_str_i m nr
    have b1 := fun m => bi_str_i m na
    have c1 := fun z => law_next_ok H (fuel := fuel) (k := k) (pe e (by simp)) h.2.2.1 z
    have c2 := fun z => law_next_ok H (fuel := fuel) (k := k) (pe e2 (by simp)) h.2.2.2 z
    have l1 := wt_next (pe e (by simp)) h.2.2.1
    have l2 := wt_next (pe e2 (by simp)) h.2.2.2
    rw [← pre_len] at l1 l2
    refine call_tidy (t := []) H.t48 rfl rfl ?_
    rw [ts_less]
    generalize pre (nextW f e) = w1 at *
    generalize pre (nextW g e2) = w2 at *
    simp (disch := first | (simp only [List.length_append, List.length_map, List.length_cons, List.length_nil]; omega) | omega) [ss_end, ss_cons, ss_nil, s_ite, s_expr, s_set, s_asg, s_ret, s_frz, evE, evEs, evC, evCA, evCO, evAnd, evOr, evI, evO, evJs, retOf, asgn, asgns, wipe, bat, me_app0, me_ext0, mk_t0, mk_f0, ev_cat, G.d48_law_row_text, encR, c0, c1, c2, z_r, z_bltr, z_bcm, z_bsc, b0, b1, cat_st, (by decide : ¬ Str.ofString "less" = Str.ofString "give")]
  | mtch r lots =>
    obtain ⟨h1, h2, h3, h4⟩ := h
    have hn : es.length = lots.length := by rw [pn]; simp [nexts]
    have nr := reg_num h1
    have n0 := nr.1
    have b0 := fun m => bi_str_i m nr
    have ws : wt ((lots.zip es).zipIdx.flatMap lotW) ≤ 5400 := by
      have le : wt (((lots.zip es).zipIdx).flatMap lotW) ≤ ((lots.zip es).zipIdx).length * 900 := wt_flat fun q hm => by
        obtain ⟨i, hi⟩ := List.getElem?_of_mem hm
        have e3 := List.getElem?_zip_eq_some.mp (zipIdx_at hi).1
        exact wt_lot (h4 _ (List.mem_of_getElem? e3.1)).1 (h4 _ (List.mem_of_getElem? e3.1)).2 (pe _ (List.mem_of_getElem? e3.2))
      simp only [List.length_zipIdx, List.length_zip] at le
      omega
    have j := me_joinS [32, 44] ((lots.zip es).map fun q => pre (bW q)) (by
      refine Nat.le_trans (Nat.add_le_add_right (sum_le_wt _) _) ?_
      have l2 : wt ((lots.zip es).map fun q => pre (bW q)) ≤ ((lots.zip es).map fun q => pre (bW q)).length * (1000 + 1) := wt_most fun w hw => by
        obtain ⟨q, hm, rfl⟩ := List.mem_map.mp hw
        have e1 := (List.of_mem_zip hm).1
        have e2 := (List.of_mem_zip hm).2
        rw [pre_len]
        have l3 := wt_next (pe _ e2) (h4 _ e1).2
        have l4 := wt_regs (h4 _ e1).1.2
        have l5 := (h4 _ e1).1.1
        simp only [bW, wt_app]; omega
      simp only [List.length_map, List.length_zip] at l2
      simp only [List.length_map, List.length_zip, List.length_cons, List.length_nil, sizeL]; omega)
    rw [lots_join] at j
    rw [← pre_len] at ws
    have rc : rd (recvB .join (.str (st [32, 44]))) = pure () := rfl
    refine call_tidy (t := [.dead]) H.t48 rfl rfl ?_
    rw [ts_case]
    cases tk with
    | none =>
      obtain ⟨x, e1⟩ := br_loop H (fuel := fuel) (k := k) (a0 := .str "match") (a1 := .int r) hn h3 h4 pe z (x1 := some (.tup [bv, .non, .tup (es.map encDs)])) (x2 := some bv) (x3 := some .non) (x5 := some (.str (st (X ++ [99, 97, 115, 101, 32, 114] ++ numT r)))) (x7 := none)
      generalize pre ((lots.zip es).zipIdx.flatMap lotW) = w1 at *
      generalize (lots.zip es).map (fun q => pre (bW q)) = w2 at *
      generalize es.map encDs = w3 at *
      simp only [List.append_assoc, List.cons_append, List.nil_append, sv] at e1 j
      simp (disch := first | (simp only [List.length_append, List.length_map, List.length_cons, List.length_nil]; omega) | omega) [ss_end, ss_cons, ss_nil, s_ite, s_expr, s_set, s_asg, s_ret, s_frz, evE, evEs, evC, evCA, evCO, evAnd, evOr, evI, evO, evJs, retOf, asgn, asgns, wipe, bat, me_app0, me_ext0, mk_t0, mk_f0, ev_cat, G.d48_law_row_text, encR, tokV, c0, e1, j, rc, z_caser, z_bcm, z_bsc, b0, cat_st, (by decide : ¬ Str.ofString "match" = Str.ofString "give"), (by decide : ¬ Str.ofString "match" = Str.ofString "less")]
    | some t =>
      have nt := tok_num (pt t rfl).2
      have n1 := nt.1
      have b1 := fun m => bi_str_i m nt
      obtain ⟨x, e1⟩ := br_loop H (fuel := fuel) (k := k) (a0 := .str "match") (a1 := .int r) hn h3 h4 pe z (x1 := some (.tup [bv, .int t, .tup (es.map encDs)])) (x2 := some bv) (x3 := some (.int t)) (x5 := some (.str (st (X ++ [99, 97, 115, 101, 32, 114] ++ numT r ++ [32, 105, 110, 116, 111, 32, 116] ++ numT t)))) (x7 := none)
      generalize pre ((lots.zip es).zipIdx.flatMap lotW) = w1 at *
      generalize (lots.zip es).map (fun q => pre (bW q)) = w2 at *
      generalize es.map encDs = w3 at *
      simp only [List.append_assoc, List.cons_append, List.nil_append, sv] at e1 j
      simp (disch := first | (simp only [List.length_append, List.length_map, List.length_cons, List.length_nil]; omega) | omega) [ss_end, ss_cons, ss_nil, s_ite, s_expr, s_set, s_asg, s_ret, s_frz, evE, evEs, evC, evCA, evCO, evAnd, evOr, evI, evO, evJs, retOf, asgn, asgns, wipe, bat, me_app0, me_ext0, mk_t0, mk_f0, ev_cat, G.d48_law_row_text, encR, tokV, c0, e1, j, rc, z_caser, z_bintot, z_bcm, z_bsc, b0, b1, cat_st, (by decide : ¬ Str.ofString "match" = Str.ofString "give"), (by decide : ¬ Str.ofString "match" = Str.ofString "less")]
  | number r n f =>
    obtain ⟨e, rfl⟩ := one_of pn
    have tn : tk = none := by
      cases tk with
      | none => rfl
      | some i => exact absurd (pt i rfl).1 (by simp [hasTok])
    subst tn
    have nr := reg_num h.1
    have nn : NumOk n := num_small (by have := h.2.1; omega)
    have n0 := nr.1
    have n1 := nn.1
    have b0 := fun m => bi_str_i m nr
    have b1 := fun m => bi_str_i m nn
    have c1 := fun z => law_next_ok H (fuel := fuel) (k := k) (pe e (by simp)) h.2.2 z
    have l1 := wt_next (pe e (by simp)) h.2.2
    rw [← pre_len] at l1
    refine call_tidy (t := []) H.t48 rfl rfl ?_
    rw [ts_number]
    generalize pre (nextW f e) = w1 at *
    simp (disch := first | (simp only [List.length_append, List.length_map, List.length_cons, List.length_nil]; omega) | omega) [ss_end, ss_cons, ss_nil, s_ite, s_expr, s_set, s_asg, s_ret, s_frz, evE, evEs, evC, evCA, evCO, evAnd, evOr, evI, evO, evJs, retOf, asgn, asgns, wipe, bat, me_app0, me_ext0, mk_t0, mk_f0, ev_cat, G.d48_law_row_text, encR, tokV, c0, c1, z_r, z_beq, z_bsc, b0, b1, cat_st, (by decide : ¬ Str.ofString "number" = Str.ofString "give"), (by decide : ¬ Str.ofString "number" = Str.ofString "less"), (by decide : ¬ Str.ofString "number" = Str.ofString "match")]
  | arith s r a b f =>
    obtain ⟨e, rfl⟩ := one_of pn
    have tn : tk = none := by
      cases tk with
      | none => rfl
      | some i => exact absurd (pt i rfl).1 (by simp [hasTok])
    subst tn
    have nr := reg_num h.1
    have na := reg_num h.2.1
    have nb := reg_num h.2.2.1
    have n0 := nr.1
    have n1 := na.1
    have n2 := nb.1
    have b0 := fun m => bi_str_i m nr
    have b1 := fun m => bi_str_i m na
    have b2 := fun m => bi_str_i m nb
    have c1 := fun z => law_next_ok H (fuel := fuel) (k := k) (pe e (by simp)) h.2.2.2 z
    have l1 := wt_next (pe e (by simp)) h.2.2.2
    rw [← pre_len] at l1
    refine call_tidy (t := []) H.t48 rfl rfl ?_
    rw [ts_arith]
    generalize pre (nextW f e) = w1 at *
    cases s with
    | false =>
      simp (disch := first | (simp only [List.length_append, List.length_map, List.length_cons, List.length_nil]; omega) | omega) [ss_end, ss_cons, ss_nil, s_ite, s_expr, s_set, s_asg, s_ret, s_frz, evE, evEs, evC, evCA, evCO, evAnd, evOr, evI, evO, evJs, retOf, asgn, asgns, wipe, bat, me_app0, me_ext0, mk_t0, mk_f0, ev_cat, G.d48_law_row_text, encR, tokV, c0, c1, z_r, z_beq, z_bplr, z_bsc, b0, b1, b2, cat_st, (by decide : ¬ Str.ofString "add" = Str.ofString "give"), (by decide : ¬ Str.ofString "add" = Str.ofString "less"), (by decide : ¬ Str.ofString "add" = Str.ofString "match"), (by decide : ¬ Str.ofString "add" = Str.ofString "number")]
    | true =>
      simp (disch := first | (simp only [List.length_append, List.length_map, List.length_cons, List.length_nil]; omega) | omega) [ss_end, ss_cons, ss_nil, s_ite, s_expr, s_set, s_asg, s_ret, s_frz, evE, evEs, evC, evCA, evCO, evAnd, evOr, evI, evO, evJs, retOf, asgn, asgns, wipe, bat, me_app0, me_ext0, mk_t0, mk_f0, ev_cat, G.d48_law_row_text, encR, tokV, c0, c1, z_r, z_beq, z_bmir, z_bsc, b0, b1, b2, cat_st, (by decide : ¬ Str.ofString "sub" = Str.ofString "give"), (by decide : ¬ Str.ofString "sub" = Str.ofString "less"), (by decide : ¬ Str.ofString "sub" = Str.ofString "match"), (by decide : ¬ Str.ofString "sub" = Str.ofString "number"), (by decide : ¬ Str.ofString "sub" = Str.ofString "add")]
  | make r x l f =>
    obtain ⟨e, rfl⟩ := one_of pn
    have nr := reg_num h.1
    have n0 := nr.1
    have b0 := fun m => bi_str_i m nr
    have lx := high_len h.2.1
    have g3 := h.2.2.1
    have c1 := fun z => law_next_ok H (fuel := fuel) (k := k) (pe e (by simp)) h.2.2.2 z
    have c2 := law_registers_ok H (fuel := fuel) (k := k) (l := l) g3.2 (by have := g3.1; omega)
    have l1 := wt_next (pe e (by simp)) h.2.2.2
    have l2 := jn_wt (brk (l.map rW))
    have l3 := wt_regs g3.2
    have l4 := g3.1
    rw [← pre_len] at l1
    refine call_tidy (t := []) H.t48 rfl rfl ?_
    have tn := ts_named r x l tk (nextW f e)
    have tm : midW (.make r x l f) tk [e] = ([rW r, [61], x] ++ brk (l.map rW) ++ tokW tk) ++ nextW f e := rfl
    rw [tm, tn]
    generalize pre (nextW f e) = w1 at *
    generalize jn (brk (l.map rW)) = w2 at *
    cases tk with
    | none =>
      simp (disch := first | (simp only [List.length_append, List.length_map, List.length_cons, List.length_nil]; omega) | omega) [ss_end, ss_cons, ss_nil, s_ite, s_expr, s_set, s_asg, s_ret, s_frz, evE, evEs, evC, evCA, evCO, evAnd, evOr, evI, evO, evJs, retOf, asgn, asgns, wipe, bat, me_app0, me_ext0, mk_t0, mk_f0, ev_cat, G.d48_law_row_text, encR, tokV, tokT, c0, c1, c2, z_r, z_beq, z_blank, z_bsc, b0, cat_st, (by decide : ¬ Str.ofString "make" = Str.ofString "give"), (by decide : ¬ Str.ofString "make" = Str.ofString "less"), (by decide : ¬ Str.ofString "make" = Str.ofString "match"), (by decide : ¬ Str.ofString "make" = Str.ofString "number"), (by decide : ¬ Str.ofString "make" = Str.ofString "add"), (by decide : ¬ Str.ofString "make" = Str.ofString "sub")]
    | some t =>
      have nt := tok_num (pt t rfl).2
      have n1 := nt.1
      have b1 := fun m => bi_str_i m nt
      simp (disch := first | (simp only [List.length_append, List.length_map, List.length_cons, List.length_nil]; omega) | omega) [ss_end, ss_cons, ss_nil, s_ite, s_expr, s_set, s_asg, s_ret, s_frz, evE, evEs, evC, evCA, evCO, evAnd, evOr, evI, evO, evJs, retOf, asgn, asgns, wipe, bat, me_app0, me_ext0, mk_t0, mk_f0, ev_cat, G.d48_law_row_text, encR, tokV, tokT, c0, c1, c2, z_r, z_beq, z_blank, z_bint, z_bsc, b0, b1, cat_st, (by decide : ¬ Str.ofString "make" = Str.ofString "give"), (by decide : ¬ Str.ofString "make" = Str.ofString "less"), (by decide : ¬ Str.ofString "make" = Str.ofString "match"), (by decide : ¬ Str.ofString "make" = Str.ofString "number"), (by decide : ¬ Str.ofString "make" = Str.ofString "add"), (by decide : ¬ Str.ofString "make" = Str.ofString "sub")]
  | call r x l f =>
    obtain ⟨e, rfl⟩ := one_of pn
    have tn : tk = none := by
      cases tk with
      | none => rfl
      | some i => exact absurd (pt i rfl).1 (by simp [hasTok])
    subst tn
    have nr := reg_num h.1
    have n0 := nr.1
    have b0 := fun m => bi_str_i m nr
    have lx := low_len h.2.1
    have g3 := h.2.2.1
    have c1 := fun z => law_next_ok H (fuel := fuel) (k := k) (pe e (by simp)) h.2.2.2 z
    have c2 := law_registers_ok H (fuel := fuel) (k := k) (l := l) g3.2 (by have := g3.1; omega)
    have l1 := wt_next (pe e (by simp)) h.2.2.2
    have l2 := jn_wt (brk (l.map rW))
    have l3 := wt_regs g3.2
    have l4 := g3.1
    rw [← pre_len] at l1
    refine call_tidy (t := []) H.t48 rfl rfl ?_
    have tn := ts_named r x l none (nextW f e)
    have tm : midW (.call r x l f) none [e] = ([rW r, [61], x] ++ brk (l.map rW) ++ tokW none) ++ nextW f e := rfl
    rw [tm, tn]
    generalize pre (nextW f e) = w1 at *
    generalize jn (brk (l.map rW)) = w2 at *
    simp (disch := first | (simp only [List.length_append, List.length_map, List.length_cons, List.length_nil]; omega) | omega) [ss_end, ss_cons, ss_nil, s_ite, s_expr, s_set, s_asg, s_ret, s_frz, evE, evEs, evC, evCA, evCO, evAnd, evOr, evI, evO, evJs, retOf, asgn, asgns, wipe, bat, me_app0, me_ext0, mk_t0, mk_f0, ev_cat, G.d48_law_row_text, encR, tokV, tokT, c0, c1, c2, z_r, z_beq, z_blank, z_bsc, b0, cat_st, (by decide : ¬ Str.ofString "call" = Str.ofString "give"), (by decide : ¬ Str.ofString "call" = Str.ofString "less"), (by decide : ¬ Str.ofString "call" = Str.ofString "match"), (by decide : ¬ Str.ofString "call" = Str.ofString "number"), (by decide : ¬ Str.ofString "call" = Str.ofString "add"), (by decide : ¬ Str.ofString "call" = Str.ofString "sub")]
end
end J

set_option autoImplicit false
set_option linter.all false
set_option maxRecDepth 100000
set_option maxHeartbeats 4000000
namespace J
open PySem
/-- a line of the law's text -/
def ln (g : List W) : PV := .str (st (jn g))
def grpK (q : Kd) : List (List W) := [[107, 105, 110, 100], q.1, [123]] :: (q.2.map mkW ++ [[[125]]])
def headF (f : Fn) : List W := [[102, 117, 110], f.name] ++ (brk f.params ++ [f.result, [123]])
def grpE (l : List Dd) : List (List W) := if l = [] then [] else [entW l]
def grpR (x : Fn × FPl) : List (List W) := (x.1.rows.zip x.2.places).map fun q => rowW q.1 q.2
def grpF (x : Fn × FPl) : List (List W) := headF x.1 :: (grpE x.2.entry ++ (grpR x ++ [[[125]]]))
theorem flat_one {α β : Type} (l : List α) (f : α → β) : (l.flatMap fun a => [f a]) = l.map f := by
  induction l with
  | nil => rfl
  | cons a l ih => rw [List.flatMap_cons, ih]; rfl
theorem grpK_flat (q : Kd) : (grpK q).flatten = kdW q := by
  simp [grpK, kdW, List.flatMap]
theorem grpF_flat (x : Fn × FPl) : (grpF x).flatten = fnW x := by
  unfold grpF fnW headF grpE
  by_cases h : x.2.entry = []
  · simp [h, entW, grpR, rowsW, List.flatMap]
  · simp [h, entW, grpR, rowsW, List.flatMap]
theorem grpK_ne (q : Kd) : ∀ g ∈ grpK q, g ≠ [] := by
  intro g hg
  simp only [grpK, List.mem_cons, List.mem_append, List.mem_map, List.not_mem_nil, or_false] at hg
  rcases hg with rfl | ⟨m, _, rfl⟩ | rfl <;> simp [mkW]
theorem grpF_ne (x : Fn × FPl) : ∀ g ∈ grpF x, g ≠ [] := by
  intro g hg
  simp only [grpF, List.mem_cons, List.mem_append, List.not_mem_nil, or_false] at hg
  rcases hg with rfl | hg | hg | rfl
  · simp [headF]
  · unfold grpE at hg
    split at hg
    · simp at hg
    · rename_i h
      simp only [List.mem_cons, List.not_mem_nil, or_false] at hg
      subst hg
      simp [entW, h]
  · simp only [grpR, List.mem_map] at hg
    obtain ⟨q, _, rfl⟩ := hg
    simp [rowW]
  · simp
theorem ln_map (gs : List (List W)) : gs.map ln = (gs.map jn).map sv := by rw [List.map_map]; rfl
theorem tx_mk (m : Mk) : jn (mkW m) = m.1 ++ [32] ++ jn (brk m.2) := by
  unfold mkW
  rw [jn_pre, pre_jn (brk_ne _)]
  simp
theorem tx_kind (x : W) : jn [[107, 105, 110, 100], x, [123]] = [107, 105, 110, 100, 32] ++ x ++ [32, 123] := by simp [jn_pre]
theorem tx_head (f : Fn) : jn (headF f) = [102, 117, 110, 32] ++ f.name ++ [32] ++ jn (brk f.params) ++ [32] ++ f.result ++ [32, 123] := by
  unfold headF
  have := pre_jn (brk_ne f.params)
  generalize brk f.params = b at *
  simp [jn_pre, this]
theorem tx_ent {l : List Dd} (h : l ≠ []) : jn (entW l) = [101, 110, 116, 114, 121, 32] ++ sp (optW l) ++ [59] := by
  have e : entW l = [101, 110, 116, 114, 121] :: (optW l ++ [[59]]) := by simp [entW, optW, h]
  have := pre_sp (optW l)
  rw [e, jn_pre, pre_app]
  generalize optW l = o at *
  have e2 : pre o ++ pre [[59]] = (pre o ++ [32]) ++ [59] := by simp
  rw [e2, this]
  simp
theorem z_kindb : Str.ofString "kind " = st [107, 105, 110, 100, 32] := rfl
theorem z_blb : Str.ofString " {" = st [32, 123] := rfl
theorem z_funb : Str.ofString "fun " = st [102, 117, 110, 32] := rfl
theorem z_entryb : Str.ofString "entry " = st [101, 110, 116, 114, 121, 32] := rfl
theorem z_rbr : Str.ofString "}" = st [125] := rfl
theorem z_semi : Str.ofString ";" = st [59] := rfl
section
variable {T : Nat → Option Fd} {fuel k : Nat} (H : Hl T)
include H
omit H in
theorem brk_wt8 {l : List W} (h : l.length ≤ 8) (hw : ∀ x ∈ l, wordB x = true) : wt (brk l) ≤ 120 ∧ wt l ≤ 100 := by
  have h1 := wt_brk l
  have h2 := wt_most (ws := l) (n := 10) fun w hm => word_len (hw w hm)
  omega
theorem mk2_loop {q : Kd} (hq : KdOk q) (h : Hh) (acc : List PV) (ha : acc.length ≤ 10000) {x0 x1 x3 x5 x6 x7 x8 x9 x10 x11 x12 x13 : Option PV} :
    ∃ x y, evS ⟨callAt T fuel (k + 3), fuel⟩ G.d49_l1 [x0, x1, some (.loc h.length), x3, some (.tup (q.2.map encM)), x5, x6, x7, x8, x9, x10, x11, x12, x13] (h ++ [.lst acc]) = .ok (.next, [x0, x1, some (.loc h.length), x3, some (.tup (q.2.map encM)), x, y, x7, x8, x9, x10, x11, x12, x13]) (h ++ [.lst (acc ++ (q.2.map mkW).map ln)]) := by
  have e2 : (q.2.flatMap fun m => [ln (mkW m)]) = (q.2.map mkW).map ln := by rw [flat_one, List.map_map]; rfl
  have l6 := hq.l
  obtain ⟨env', ⟨x, y, hx⟩, e1⟩ := acc_loop (c := ⟨callAt T fuel (k + 3), fuel⟩) (t := .cons (.name 5) (.cons (.name 6) .nil)) (it := .val (.var 4)) (body := G.d49_b0) (src := .seq (.tup (q.2.map encM))) (l := q.2) (enc := encM) (g := fun m => [ln (mkW m)]) (h := h) (acc := acc) (env := [x0, x1, some (.loc h.length), x3, some (.tup (q.2.map encM)), x5, x6, x7, x8, x9, x10, x11, x12, x13]) (B := 20000)
    (P := fun env => ∃ x y, env = [x0, x1, some (.loc h.length), x3, some (.tup (q.2.map encM)), x, y, x7, x8, x9, x10, x11, x12, x13]) (fun z => by simp [evSs, evS, evE, evEs, evC, evCA, evCO, evAnd, evOr, evI, evO, evJs, retOf, asgn, asgns, wipe, J.ba]) rfl (by
      rw [e2]; simp only [List.length_map]; omega)
    (fun m env acc hm ⟨x, y, hx⟩ hb => by
      subst hx
      refine ⟨[x0, x1, some (.loc h.length), x3, some (.tup (q.2.map encM)), some (sv m.1), some (.tup (m.2.map sv)), x7, x8, x9, x10, x11, x12, x13], ⟨_, _, rfl⟩, ?_⟩
      have mo := hq.w m hm
      have w8 := brk_wt8 (l := m.2) (by have := mo.l; omega) mo.w
      have c1 := law_brackets_ok H (fuel := fuel) (k := k + 2) (ws := m.2) (.inr rfl) (by have := mo.l; omega) (by omega)
      have l1 := jn_wt (brk m.2)
      have l2 := high_len mo.t
      simp only [ln, tx_mk]
      generalize jn (brk m.2) = w1 at *
      simp only [List.length_cons, List.length_nil] at hb
      simp (disch := first | (simp only [List.length_append, List.length_map, List.length_cons, List.length_nil]; omega) | omega) [evSs, evS, evE, evEs, evC, evCA, evCO, evAnd, evOr, evI, evO, evJs, retOf, asgn, asgns, wipe, bat, tat, me_app0, me_ext0, mk_t0, mk_f0, ev_cat, encM, G.d49_b0, c1, z_blank, cat_st]) ⟨_, _, rfl⟩
  subst hx
  rw [e2] at e1
  exact ⟨x, y, e1⟩
theorem kd2_loop {p : Pr} (hp : PrOk p) (h : Hh) {x1 x3 x4 x5 x6 x7 x8 x9 x10 x11 x12 x13 : Option PV} :
    ∃ x y z u, evS ⟨callAt T fuel (k + 3), fuel⟩ G.d49_l3 [some (encP p), x1, some (.loc h.length), x3, x4, x5, x6, x7, x8, x9, x10, x11, x12, x13] (h ++ [.lst []]) = .ok (.next, [some (encP p), x1, some (.loc h.length), x, y, z, u, x7, x8, x9, x10, x11, x12, x13]) (h ++ [.lst ((p.kinds.flatMap grpK).map ln)]) := by
  have e2 : (p.kinds.flatMap fun d => (grpK d).map ln) = (p.kinds.flatMap grpK).map ln := by rw [List.map_flatMap]
  have gl : ∀ q ∈ p.kinds, (grpK q).length ≤ 10 := fun q hm => by
    have := (hp.k.w q hm).l
    simp only [grpK, List.length_append, List.length_cons, List.length_map, List.length_nil]; omega
  have le : (p.kinds.flatMap grpK).length ≤ p.kinds.length * 10 := flat_le gl
  have l6 := hp.k.l
  obtain ⟨env', ⟨x, y, z, u, hx⟩, e1⟩ := acc_loop (c := ⟨callAt T fuel (k + 3), fuel⟩) (t := .cons (.name 3) (.cons (.name 4) .nil)) (it := .val (.idx (.var 0) (.int 0))) (body := G.d49_b2) (src := .seq (.tup (p.kinds.map encK))) (l := p.kinds) (enc := encK) (g := fun d => (grpK d).map ln) (h := h) (acc := []) (env := [some (encP p), x1, some (.loc h.length), x3, x4, x5, x6, x7, x8, x9, x10, x11, x12, x13]) (B := 2000)
    (P := fun env => ∃ x y z u, env = [some (encP p), x1, some (.loc h.length), x, y, z, u, x7, x8, x9, x10, x11, x12, x13]) (fun z => by simp [evSs, evS, evE, evEs, evC, evCA, evCO, evAnd, evOr, evI, evO, evJs, retOf, asgn, asgns, wipe, J.ba, encP]) rfl (by
      rw [e2, List.length_map, List.length_nil]; omega)
    (fun q env acc hm ⟨x, y, z, u, hx⟩ hb => by
      subst hx
      have hq := hp.k.w q hm
      have l1 := high_len hq.t
      have l2 := hq.l
      obtain ⟨a, b, e1⟩ := mk2_loop H (fuel := fuel) (k := k) hq h (acc ++ [.str (st ([107, 105, 110, 100, 32] ++ q.1 ++ [32, 123]))]) (by simp only [List.length_append, List.length_cons, List.length_nil]; omega) (x0 := some (encP p)) (x1 := x1) (x3 := some (sv q.1)) (x5 := z) (x6 := u) (x7 := x7) (x8 := x8) (x9 := x9) (x10 := x10) (x11 := x11) (x12 := x12) (x13 := x13)
      refine ⟨[some (encP p), x1, some (.loc h.length), some (sv q.1), some (.tup (q.2.map encM)), a, b, x7, x8, x9, x10, x11, x12, x13], ⟨_, _, _, _, rfl⟩, ?_⟩
      have eg : (grpK q).map ln = .str (st ([107, 105, 110, 100, 32] ++ q.1 ++ [32, 123])) :: ((q.2.map mkW).map ln ++ [.str (st [125])]) := by
        simp only [grpK, List.map_cons, List.map_append, List.map_nil]
        simp only [ln, tx_kind]
        rfl
      rw [eg] at hb ⊢
      have lm : ((q.2.map mkW).map ln).length ≤ 6 := by rw [List.length_map, List.length_map]; exact l2
      generalize (q.2.map mkW).map ln = w1 at *
      generalize encP p = ep at *
      simp only [List.length_cons, List.length_append, List.length_nil] at hb
      simp only [sv, List.append_assoc, List.cons_append, List.nil_append] at e1
      simp (disch := first | (simp only [List.length_append, List.length_map, List.length_cons, List.length_nil]; omega) | omega) [evSs, evS, evE, evEs, evC, evCA, evCO, evAnd, evOr, evI, evO, evJs, retOf, asgn, asgns, wipe, bat, tat, me_app0, me_ext0, mk_t0, mk_f0, ev_cat, encK, G.d49_b2, z_kindb, z_blb, z_rbr, cat_st, e1]) ⟨_, _, _, _, rfl⟩
  subst hx
  rw [e2, List.nil_append] at e1
  exact ⟨x, y, z, u, e1⟩
theorem row2_loop {x : Fn × FPl} (hf : FnOk' x.1) (hp : FPlOk x.1.rows x.2) (h : Hh) (acc : List PV) (ha : acc.length ≤ 100000) {x0 x1 x3 x4 x5 x6 x7 x8 x9 x11 x13 : Option PV} :
    ∃ a, evS ⟨callAt T fuel (k + 3), fuel⟩ G.d49_l5 [x0, x1, some (.loc h.length), x3, x4, x5, x6, x7, x8, x9, some (.tup (x.1.rows.map encR)), x11, some (.tup (x.2.places.map encPl)), x13] (h ++ [.lst acc]) = .ok (.next, [x0, x1, some (.loc h.length), x3, x4, x5, x6, x7, x8, x9, some (.tup (x.1.rows.map encR)), x11, some (.tup (x.2.places.map encPl)), a]) (h ++ [.lst (acc ++ (grpR x).map ln)]) := by
  have hn := hp.n
  have l6 := hf.r60
  have lz : x.1.rows.length = (x.1.rows.zip x.2.places).length := by rw [List.length_zip]; omega
  have e2 : (((x.1.rows.zip x.2.places).zipIdx).flatMap fun q => [ln (rowW q.1.1 q.1.2)]) = (grpR x).map ln := by
    rw [zipIdx_flat (x.1.rows.zip x.2.places) (fun q => [ln (rowW q.1 q.2)]) 0, flat_one, grpR, List.map_map]
    rfl
  obtain ⟨env', ⟨a, hx⟩, e1⟩ := acc_loop (c := ⟨callAt T fuel (k + 3), fuel⟩) (t := .name 13) (it := .range1 (.bi .len false (.cons (.var 10) .nil))) (body := G.d49_b4) (src := Src.range 0 x.1.rows.length) (l := (x.1.rows.zip x.2.places).zipIdx) (enc := fun q => PV.int (q.2 : Nat)) (g := fun q => [ln (rowW q.1.1 q.1.2)]) (h := h) (acc := acc) (env := [x0, x1, some (.loc h.length), x3, x4, x5, x6, x7, x8, x9, some (.tup (x.1.rows.map encR)), x11, some (.tup (x.2.places.map encPl)), x13]) (B := 200000)
    (P := fun env => ∃ a, env = [x0, x1, some (.loc h.length), x3, x4, x5, x6, x7, x8, x9, some (.tup (x.1.rows.map encR)), x11, some (.tup (x.2.places.map encPl)), a])
    (fun z => evI_r1 (by simp [evSs, evS, evE, evEs, evC, evCA, evCO, evAnd, evOr, evI, evO, evJs, retOf, asgn, asgns, wipe, J.ba]) (by omega)) (range_items _ lz) (by
      rw [e2]; simp only [grpR, List.length_map]; omega)
    (fun q env acc hm ⟨a, hx⟩ hb => by
      subst hx
      obtain ⟨j, hj⟩ := List.getElem?_of_mem hm
      obtain ⟨f0, f3⟩ := zipIdx_at hj
      obtain ⟨f1, f2⟩ := List.getElem?_zip_eq_some.mp f0
      subst f3
      refine ⟨[x0, x1, some (.loc h.length), x3, x4, x5, x6, x7, x8, x9, some (.tup (x.1.rows.map encR)), x11, some (.tup (x.2.places.map encPl)), some (.int (q.2 : Nat))], ⟨_, rfl⟩, ?_⟩
      have c1 := fun z => law_row_ok H (fuel := fuel) (k := k) (hf.w _ (List.mem_of_getElem? f1)) (hp.w q.1 (List.mem_of_getElem? f0)) z
      have r1 := rd_att (ys := x.1.rows.map encR) (n := q.2) (y := encR q.1.1) (by rw [List.getElem?_map, f1]; rfl)
      have r2 := rd_att (ys := x.2.places.map encPl) (n := q.2) (y := encPl q.1.2) (by rw [List.getElem?_map, f2]; rfl)
      simp only [ln]
      generalize jn (rowW q.1.1 q.1.2) = w1 at *
      generalize encR q.1.1 = v1 at *
      generalize encPl q.1.2 = v2 at *
      generalize x.1.rows.map encR = v3 at *
      generalize x.2.places.map encPl = v4 at *
      simp only [List.length_cons, List.length_nil] at hb
      simp (disch := first | (simp only [List.length_append, List.length_map, List.length_cons, List.length_nil]; omega) | omega) [evSs, evS, evE, evEs, evC, evCA, evCO, evAnd, evOr, evI, evO, evJs, retOf, asgn, asgns, wipe, bat, tat, me_app0, me_ext0, mk_t0, mk_f0, ev_cat, G.d49_b4, c1, r1, r2]) ⟨_, rfl⟩
  subst hx
  rw [e2] at e1
  exact ⟨a, e1⟩
def ent49 : S := match G.d49_b6 with | .cons _ (.cons _ (.cons _ (.cons s _))) => s | _ => .pass
theorem ent2_s {l : List Dd} (hd : DsOk l) (h : Hh) (acc : List PV) (ha : acc.length ≤ 100000) {x0 x1 x3 x4 x5 x6 x7 x8 x9 x10 x12 x13 : Option PV} :
    evS ⟨callAt T fuel (k + 3), fuel⟩ ent49 [x0, x1, some (.loc h.length), x3, x4, x5, x6, x7, x8, x9, x10, some (encDs l), x12, x13] (h ++ [.lst acc]) = .ok (.next, [x0, x1, some (.loc h.length), x3, x4, x5, x6, x7, x8, x9, x10, some (encDs l), x12, x13]) (h ++ [.lst (acc ++ (grpE l).map ln)]) := by
  have u := ne_unit l
  by_cases e : l = []
  · subst e
    simp (disch := first | (simp only [List.length_append, List.length_map, List.length_cons, List.length_nil]; omega) | omega) [evSs, evS, evE, evEs, evC, evCA, evCO, evAnd, evOr, evI, evO, evJs, retOf, asgn, asgns, wipe, bat, tat, me_app0, me_ext0, mk_t0, mk_f0, ev_cat, ent49, G.d49_b6, u, mk_t_nil, grpE]
  · have c0 := fun z => law_deeds_ok H (fuel := fuel) (k := k + 2) hd z
    have le := wt_opt hd
    have te := tx_ent e
    rw [← sp_len] at le
    have ge : (grpE l).map ln = [.str (st ([101, 110, 116, 114, 121, 32] ++ sp (optW l) ++ [59]))] := by
      simp only [grpE, if_neg e, List.map_cons, List.map_nil, ln, te]
    rw [ge]
    generalize sp (optW l) = X at *
    generalize encDs l = ed at *
    simp (disch := first | (simp only [List.length_append, List.length_map, List.length_cons, List.length_nil]; omega) | omega) [evSs, evS, evE, evEs, evC, evCA, evCO, evAnd, evOr, evI, evO, evJs, retOf, asgn, asgns, wipe, bat, tat, me_app0, me_ext0, mk_t0, mk_f0, ev_cat, ent49, G.d49_b6, u, mk_t_nil, e, c0, z_entryb, z_semi, cat_st]
end
end J

set_option autoImplicit false
set_option linter.all false
set_option maxRecDepth 100000
set_option maxHeartbeats 4000000
namespace J
open PySem
section
variable {T : Nat → Option Fd} {fuel k : Nat} (H : Hl T)
include H
def head49 : E := match G.d49_b6 with | .cons _ (.cons _ (.cons (.expr (.me _ _ (.cons e _))) _)) => e | _ => .non
theorem head2_e {x : Fn} (hf : FnOk' x) (z : Hh) {x0 x1 x2 x4 x5 x6 x7 x10 x11 x12 x13 : Option PV} : evE ⟨callAt T fuel (k + 3), fuel⟩ head49 [x0, x1, x2, some (sv x.name), x4, x5, x6, x7, some (.tup (x.params.map sv)), some (sv x.result), x10, x11, x12, x13] z = .ok (ln (headF x)) z := by
  have w8 := brk_wt8 hf.l hf.p
  have c1 := law_brackets_ok H (fuel := fuel) (k := k + 2) (ws := x.params) (.inr rfl) (by have := hf.l; omega) (by omega)
  have l1 := jn_wt (brk x.params)
  have l2 := low_len hf.n
  have l3 := word_len hf.r
  simp only [ln, tx_head]
  generalize jn (brk x.params) = w1 at *
  simp (disch := first | (simp only [List.length_append, List.length_map, List.length_cons, List.length_nil]; omega) | omega) [evSs, evS, evE, evEs, evC, evCA, evCO, evAnd, evOr, evI, evO, evJs, retOf, asgn, asgns, wipe, bat, tat, me_app0, me_ext0, mk_t0, mk_f0, ev_cat, head49, G.d49_b6, z_funb, z_blank, z_blb, c1, cat_st]
theorem grpF_len {x : Fn × FPl} (hf : FnOk' x.1) : (grpF x).length ≤ 70 := by
  have := hf.r60
  simp only [grpF, grpE, grpR, List.length_cons, List.length_append, List.length_map, List.length_zip, List.length_nil]
  split <;> simp only [List.length_cons, List.length_nil] <;> omega
theorem fn2_step {x : Fn × FPl} (hf : FnOk' x.1) (hp : FPlOk x.1.rows x.2) {A B C : List PV} {i : Nat} (hA : A[i]? = some (encF x.1)) (hB : B[i]? = some (encFP x.2)) (h : Hh) (acc : List PV) (ha : acc.length ≤ 10000) {x3 x4 x5 x6 x8 x9 x10 x11 x12 x13 : Option PV} :
    ∃ y3 y8 y9 y10 y11 y12 y13, evSs ⟨callAt T fuel (k + 3), fuel⟩ G.d49_b6 [some (.tup [.tup C, .tup A]), some (.tup B), some (.loc h.length), x3, x4, x5, x6, some (.int (i : Nat)), x8, x9, x10, x11, x12, x13] (h ++ [.lst acc]) =
      .ok (.next, [some (.tup [.tup C, .tup A]), some (.tup B), some (.loc h.length), y3, x4, x5, x6, some (.int (i : Nat)), y8, y9, y10, y11, y12, y13]) (h ++ [.lst (acc ++ (grpF x).map ln)]) := by
  have r1 := rd_att hA
  have r2 := rd_att hB
  have gl := grpF_len H hf
  have c1 := fun z => head2_e H (fuel := fuel) (k := k) hf z (x0 := some (.tup [.tup C, .tup A])) (x1 := some (.tup B)) (x2 := some (.loc h.length)) (x4 := x4) (x5 := x5) (x6 := x6) (x7 := some (.int (i : Nat))) (x10 := some (.tup (x.1.rows.map encR))) (x11 := some (encDs x.2.entry)) (x12 := some (.tup (x.2.places.map encPl))) (x13 := x13)
  have c2 := ent2_s H (fuel := fuel) (k := k) hp.e h (acc ++ [ln (headF x.1)]) (by simp only [List.length_append, List.length_cons, List.length_nil]; omega) (x0 := some (.tup [.tup C, .tup A])) (x1 := some (.tup B)) (x3 := some (sv x.1.name)) (x4 := x4) (x5 := x5) (x6 := x6) (x7 := some (.int (i : Nat))) (x8 := some (.tup (x.1.params.map sv))) (x9 := some (sv x.1.result)) (x10 := some (.tup (x.1.rows.map encR))) (x12 := some (.tup (x.2.places.map encPl))) (x13 := x13)
  have lg : ((grpE x.2.entry).map ln).length ≤ 1 := by
    rw [List.length_map]; unfold grpE; split <;> simp
  obtain ⟨a, c3⟩ := row2_loop H (fuel := fuel) (k := k) hf hp h (acc ++ [ln (headF x.1)] ++ (grpE x.2.entry).map ln) (by simp only [List.length_append, List.length_cons, List.length_nil]; omega) (x0 := some (.tup [.tup C, .tup A])) (x1 := some (.tup B)) (x3 := some (sv x.1.name)) (x4 := x4) (x5 := x5) (x6 := x6) (x7 := some (.int (i : Nat))) (x8 := some (.tup (x.1.params.map sv))) (x9 := some (sv x.1.result)) (x11 := some (encDs x.2.entry)) (x13 := x13)
  refine ⟨some (sv x.1.name), some (.tup (x.1.params.map sv)), some (sv x.1.result), some (.tup (x.1.rows.map encR)), some (encDs x.2.entry), some (.tup (x.2.places.map encPl)), a, ?_⟩
  have sh : G.d49_b6 = .cons (.asg (.cons (.name 3) (.cons (.name 8) (.cons (.name 9) (.cons (.name 10) .nil)))) (.idx (.idx (.var 0) (.int 1)) (.var 7))) (.cons (.asg (.cons (.name 11) (.cons (.name 12) .nil)) (.idx (.var 1) (.var 7))) (.cons (.expr (.me .append (.var 2) (.cons head49 .nil))) (.cons ent49 (.cons G.d49_l5 (.cons (.expr (.me .append (.var 2) (.cons (.str (Str.ofString "}")) .nil))) .nil))))) := rfl
  rw [sh]
  have eg : (grpF x).map ln = ln (headF x.1) :: ((grpE x.2.entry).map ln ++ ((grpR x).map ln ++ [.str (st [125])])) := by
    simp only [grpF, List.map_cons, List.map_append, List.map_nil]
    rfl
  have gl2 : ((grpF x).map ln).length ≤ 70 := by rw [List.length_map]; exact gl
  rw [eg] at gl2 ⊢
  simp only [List.length_cons, List.length_append, List.length_nil] at gl2
  simp only [encF, encFP] at r1 r2
  generalize head49 = he at *
  generalize ent49 = en at *
  generalize ln (headF x.1) = w1 at *
  generalize (grpE x.2.entry).map ln = w2 at *
  generalize (grpR x).map ln = w3 at *
  generalize encDs x.2.entry = v1 at *
  generalize x.2.places.map encPl = v2 at *
  generalize x.1.rows.map encR = v3 at *
  generalize x.1.params.map sv = v4 at *
  simp only [sv, List.append_assoc, List.cons_append, List.nil_append] at c1 c2 c3 ⊢
  simp (disch := first | (simp only [List.length_append, List.length_map, List.length_cons, List.length_nil]; omega) | omega) [ss_end, ss_cons, ss_nil, s_ite, s_expr, s_set, s_asg, s_ret, s_frz, evE, evEs, evC, evCA, evCO, evAnd, evOr, evI, evO, evJs, retOf, asgn, asgns, wipe, bat, me_app0, me_ext0, mk_t0, mk_f0, ev_cat, r1, r2, c1, c2, c3, z_rbr]
theorem fn2_loop {p : Pr} {q : List FPl} (hp : PrOk p) (hq : PPOk p q) (h : Hh) (acc : List PV) (ha : acc.length ≤ 1000) {x3 x4 x5 x6 x7 x8 x9 x10 x11 x12 x13 : Option PV} :
    ∃ y3 y4 y5 y6 y7 y8 y9 y10 y11 y12 y13, evS ⟨callAt T fuel (k + 3), fuel⟩ G.d49_l7 [some (encP p), some (encPP q), some (.loc h.length), x3, x4, x5, x6, x7, x8, x9, x10, x11, x12, x13] (h ++ [.lst acc]) = .ok (.next, [some (encP p), some (encPP q), some (.loc h.length), y3, y4, y5, y6, y7, y8, y9, y10, y11, y12, y13]) (h ++ [.lst (acc ++ ((p.fns.zip q).flatMap grpF).map ln)]) := by
  have lz : p.fns.length = (p.fns.zip q).length := by rw [List.length_zip, hq.n]; omega
  have l12 := hp.l12
  have e2 : (((p.fns.zip q).zipIdx).flatMap fun d => (grpF d.1).map ln) = ((p.fns.zip q).flatMap grpF).map ln := by
    rw [zipIdx_flat (p.fns.zip q) (fun d => (grpF d).map ln) 0, List.map_flatMap]
  have le : ((p.fns.zip q).flatMap grpF).length ≤ (p.fns.zip q).length * 70 := flat_le fun x hm => grpF_len H (hp.w _ (List.of_mem_zip hm).1)
  obtain ⟨env', ⟨y3, y4, y5, y6, y7, y8, y9, y10, y11, y12, y13, hx⟩, e1⟩ := acc_loop (c := ⟨callAt T fuel (k + 3), fuel⟩) (t := .name 7) (it := .range1 (.bi .len false (.cons (.idx (.var 0) (.int 1)) .nil))) (body := G.d49_b6) (src := Src.range 0 p.fns.length) (l := (p.fns.zip q).zipIdx) (enc := fun q => PV.int (q.2 : Nat)) (g := fun d => (grpF d.1).map ln) (h := h) (acc := acc) (env := [some (encP p), some (encPP q), some (.loc h.length), x3, x4, x5, x6, x7, x8, x9, x10, x11, x12, x13]) (B := 5000)
    (P := fun env => ∃ x3 x4 x5 x6 x7 x8 x9 x10 x11 x12 x13, env = [some (encP p), some (encPP q), some (.loc h.length), x3, x4, x5, x6, x7, x8, x9, x10, x11, x12, x13])
    (fun z => evI_r1 (by simp [evSs, evS, evE, evEs, evC, evCA, evCO, evAnd, evOr, evI, evO, evJs, retOf, asgn, asgns, wipe, J.ba, encP]) (by omega)) (range_items _ lz) (by
      rw [e2, List.length_map]; omega)
    (fun d env acc hm ⟨x3, x4, x5, x6, x7, x8, x9, x10, x11, x12, x13, hx⟩ hb => by
      subst hx
      obtain ⟨j, hj⟩ := List.getElem?_of_mem hm
      obtain ⟨f0, f3⟩ := zipIdx_at hj
      obtain ⟨f1, f2⟩ := List.getElem?_zip_eq_some.mp f0
      subst f3
      obtain ⟨y3, y8, y9, y10, y11, y12, y13, e⟩ := fn2_step H (fuel := fuel) (k := k) (x := d.1) (hp.w _ (List.mem_of_getElem? f1)) (hq.w d.1 (List.mem_of_getElem? f0)) (A := p.fns.map encF) (B := q.map encFP) (C := p.kinds.map encK) (i := d.2) (by rw [List.getElem?_map, f1]; rfl) (by rw [List.getElem?_map, f2]; rfl) h acc (by omega) (x3 := x3) (x4 := x4) (x5 := x5) (x6 := x6) (x8 := x8) (x9 := x9) (x10 := x10) (x11 := x11) (x12 := x12) (x13 := x13)
      exact ⟨[some (encP p), some (encPP q), some (.loc h.length), y3, x4, x5, x6, some (.int (d.2 : Nat)), y8, y9, y10, y11, y12, y13], ⟨_, _, _, _, _, _, _, _, _, _, _, rfl⟩, e⟩) ⟨_, _, _, _, _, _, _, _, _, _, _, rfl⟩
  subst hx
  rw [e2] at e1
  exact ⟨_, _, _, _, _, _, _, _, _, _, _, e1⟩
theorem law_text_ok {p : Pr} {q : List FPl} (hp : PrOk p) (hq : PPOk p q) (h : Hh) : callAt T fuel (k + 4) 49 [encP p, encPP q] h = .ok (.str (st (jn (allW p q)))) h := by
  obtain ⟨y3, y4, y5, y6, e1⟩ := kd2_loop H (fuel := fuel) (k := k) hp h (x1 := some (encPP q)) (x3 := none) (x4 := none) (x5 := none) (x6 := none) (x7 := none) (x8 := none) (x9 := none) (x10 := none) (x11 := none) (x12 := none) (x13 := none)
  have gl : ∀ q ∈ p.kinds, (grpK q).length ≤ 10 := fun q hm => by
    have := (hp.k.w q hm).l
    simp only [grpK, List.length_append, List.length_cons, List.length_map, List.length_nil]; omega
  have le : (p.kinds.flatMap grpK).length ≤ p.kinds.length * 10 := flat_le gl
  have l6 := hp.k.l
  obtain ⟨w3, w4, w5, w6, w7, w8, w9, w10, w11, w12, w13, e2⟩ := fn2_loop H (fuel := fuel) (k := k) hp hq h ((p.kinds.flatMap grpK).map ln) (by rw [List.length_map]; omega) (x3 := y3) (x4 := y4) (x5 := y5) (x6 := y6) (x7 := none) (x8 := none) (x9 := none) (x10 := none) (x11 := none) (x12 := none) (x13 := none)
  have w := wt_all hp hq
  have ne : ∀ g ∈ p.kinds.flatMap grpK ++ (p.fns.zip q).flatMap grpF, g ≠ [] := fun g hg => by
    rw [List.mem_append, List.mem_flatMap, List.mem_flatMap] at hg
    rcases hg with ⟨a, _, hg⟩ | ⟨a, _, hg⟩
    · exact grpK_ne a g hg
    · exact grpF_ne a g hg
  have fl : (p.kinds.flatMap grpK ++ (p.fns.zip q).flatMap grpF).flatten = allW p q := by
    have f1 : ∀ l : List Kd, (l.flatMap grpK).flatten = l.flatMap kdW := fun l => by
      induction l with
      | nil => rfl
      | cons a l ih => rw [List.flatMap_cons, List.flatten_append, ih, grpK_flat, List.flatMap_cons]
    have f2 : ∀ l : List (Fn × FPl), (l.flatMap grpF).flatten = l.flatMap fnW := fun l => by
      induction l with
      | nil => rfl
      | cons a l ih => rw [List.flatMap_cons, List.flatten_append, ih, grpF_flat, List.flatMap_cons]
    rw [List.flatten_append, f1, f2]; rfl
  have wf := wt_flatten ne
  rw [fl] at wf
  have j := me_joinN ((p.kinds.flatMap grpK ++ (p.fns.zip q).flatMap grpF).map jn) (Nat.le_trans (show wt _ ≤ 5200000 by rw [wf]; exact w) (by decide))
  rw [jn_flat ne, fl, ← ln_map] at j
  have rc : rd (recvB .join (.str (st [32]))) = pure () := rfl
  refine call_tidy (t := [.dead]) H.t49 rfl rfl ?_
  rw [← List.map_append] at e2
  generalize (p.kinds.flatMap grpK ++ (p.fns.zip q).flatMap grpF).map ln = gs at *
  generalize (p.kinds.flatMap grpK).map ln = ks at *
  generalize allW p q = ws at *
  generalize encP p = ep at *
  generalize encPP q = eq at *
  simp (disch := first | (simp only [List.length_append, List.length_map, List.length_cons, List.length_nil]; omega) | omega) [ss_end, ss_cons, ss_nil, s_ite, s_expr, s_set, s_asg, s_ret, s_frz, evE, evEs, evC, evCA, evCO, evAnd, evOr, evI, evO, evJs, retOf, asgn, asgns, wipe, bat, me_app0, me_ext0, mk_t0, mk_f0, ev_cat, G.d49_law_text, e1, e2, z_blank, rc, j]
end
end J

set_option autoImplicit false
set_option linter.all false
set_option maxRecDepth 100000
set_option maxHeartbeats 4000000
namespace J
open PySem
/-! ### the well -/
structure WS where
  c : Nat
  a : Nat
  n : Nat
def Wc (ns : List Int) (s : WS) : Cell := .lst [.int (s.c : Nat), .int (s.a : Nat), .lst (ns.map PV.int), .int (s.n : Nat)]
def Wh (ns : List Int) (b : Nat) (h : Hh) : Prop := ∃ s, h[0]? = some (Wc ns s) ∧ s.a ≤ b ∧ s.n ≤ b
/-- nothing but the well, and what X tells, is changed -/
def Exh (X : Nat → Prop) (h h' : Hh) : Prop := h.length ≤ h'.length ∧ ∀ j, 0 < j → j < h.length → ¬ X j → h'[j]? = h[j]?
abbrev Exh0 : Hh → Hh → Prop := Exh fun _ => False
theorem Wh.mono {ns : List Int} {b b' : Nat} {h : Hh} (w : Wh ns b h) (l : b ≤ b') : Wh ns b' h := by
  obtain ⟨s, h0, h1, h2⟩ := w
  exact ⟨s, h0, by omega, by omega⟩
theorem Wh.pos {ns : List Int} {b : Nat} {h : Hh} (w : Wh ns b h) : 0 < h.length := by
  obtain ⟨s, h0, _⟩ := w
  exact (List.getElem?_eq_some_iff.mp h0).1
theorem Exh.refl {X : Nat → Prop} (h : Hh) : Exh X h h := ⟨Nat.le_refl _, fun _ _ _ _ => rfl⟩
theorem Exh.trans {X : Nat → Prop} {a b c : Hh} (h1 : Exh X a b) (h2 : Exh X b c) : Exh X a c :=
  ⟨Nat.le_trans h1.1 h2.1, fun j p l x => by rw [h2.2 j p (Nat.lt_of_lt_of_le l h1.1) x, h1.2 j p l x]⟩
theorem Exh.weak {X Y : Nat → Prop} {a b : Hh} (h1 : Exh X a b) (w : ∀ j, X j → Y j) : Exh Y a b := ⟨h1.1, fun j p l x => h1.2 j p l fun y => x (w j y)⟩
theorem Exh.wk {Y : Nat → Prop} {a b : Hh} (h1 : Exh0 a b) : Exh Y a b := h1.weak fun _ f => f.elim
/-- changes at places that are new are none -/
theorem Exh.low {X Y : Nat → Prop} {a b c : Hh} (h1 : Exh Y a b) (h2 : Exh X b c) (w : ∀ j, j < a.length → X j → Y j) : Exh Y a c :=
  ⟨Nat.le_trans h1.1 h2.1, fun j p l x => by rw [h2.2 j p (Nat.lt_of_lt_of_le l h1.1) fun y => x (w j l y), h1.2 j p l x]⟩
theorem Exh.app (X : Nat → Prop) (h t : Hh) : Exh X h (h ++ t) := ⟨by simp, fun j _ l _ => by rw [List.getElem?_append_left l]⟩
theorem Exh.set {X : Nat → Prop} (h : Hh) {n : Nat} (c : Cell) (x : X n) : Exh X h (h.set n c) := ⟨by simp, fun j _ l y => by
  rw [List.getElem?_set_ne]
  intro e; subst e; exact y x⟩
theorem Wh.app {ns : List Int} {b : Nat} {h : Hh} (w : Wh ns b h) (t : Hh) : Wh ns b (h ++ t) := by
  obtain ⟨s, h0, h1, h2⟩ := w
  exact ⟨s, by rw [List.getElem?_append_left (List.getElem?_eq_some_iff.mp h0).1]; exact h0, h1, h2⟩
theorem Wh.set {ns : List Int} {b : Nat} {h : Hh} (w : Wh ns b h) {n : Nat} (p : 0 < n) (c : Cell) : Wh ns b (h.set n c) := by
  obtain ⟨s, h0, h1, h2⟩ := w
  exact ⟨s, by rw [List.getElem?_set_ne (by omega)]; exact h0, h1, h2⟩
theorem call_any {T : Nat → Option Fd} {fuel k i : Nat} {d : Fd} {xs : List PV} {v : PV} {h h' : Hh} (hT : T i = some d) (hl : xs.length = d.ps) (hh : h.length ≤ h'.length)
    (hb : (evSs ⟨callAt T fuel k, fuel⟩ d.body (xs.map some ++ List.replicate (d.slots - xs.length) none) >>= retOf) h = .ok v h') : ∃ h2, callAt T fuel (k + 1) i xs h = .ok v h2 ∧ h.length ≤ h2.length ∧ ∀ j, j < h.length → h2[j]? = h'[j]? := by
  have e : callAt T fuel (k + 1) i xs = evDef ⟨callAt T fuel k, fuel⟩ d xs := by simp only [callAt, hT]
  rw [e]
  unfold evDef
  rw [if_pos hl]
  unfold tidy
  change ∃ h2, (match (evSs ⟨callAt T fuel k, fuel⟩ d.body (xs.map some ++ List.replicate (d.slots - xs.length) none) >>= retOf) h with
    | .ok v h' => if clo h.length v && oldOk h.length h h' then Out.ok v (h'.take h.length) else .ok v h'
    | r => r) = .ok v h2 ∧ _
  rw [hb]
  by_cases q : (clo h.length v && oldOk h.length h h') = true
  · refine ⟨h'.take h.length, by simp only [q, if_true], by rw [List.length_take]; omega, fun j l => by rw [List.getElem?_take, if_pos l]⟩
  · refine ⟨h', by simp only [q]; rfl, hh, fun j _ => rfl⟩
theorem call_ext {T : Nat → Option Fd} {fuel k i : Nat} {d : Fd} {xs : List PV} {v : PV} {h h' : Hh} {X : Nat → Prop} {ns : List Int} {b : Nat} (hT : T i = some d) (hl : xs.length = d.ps) (hp : 0 < h.length) (hx : Exh X h h') (hw : Wh ns b h')
    (hb : (evSs ⟨callAt T fuel k, fuel⟩ d.body (xs.map some ++ List.replicate (d.slots - xs.length) none) >>= retOf) h = .ok v h') : ∃ h2, callAt T fuel (k + 1) i xs h = .ok v h2 ∧ Exh X h h2 ∧ Wh ns b h2 ∧ ∀ j, j < h.length → h2[j]? = h'[j]? := by
  obtain ⟨h2, e1, e2, e3⟩ := call_any hT hl hx.1 hb
  refine ⟨h2, e1, ⟨e2, fun j p l x => by rw [e3 j l, hx.2 j p l x]⟩, ?_, e3⟩
  obtain ⟨s, h0, h1, h2'⟩ := hw
  exact ⟨s, by rw [e3 0 hp]; exact h0, h1, h2'⟩
/-! ### a draw -/
structure Hd (T : Nat → Option Fd) : Prop where
  t35 : T 35 = some G.d35_law_well
  t36 : T 36 = some G.d36_law_draw
  t37 : T 37 = some G.d37_law_plain
  t38 : T 38 = some G.d38_law_unlike
  t39 : T 39 = some G.d39_law_any_kinds
  t40 : T 40 = some G.d40_law_any_deeds
  t41 : T 41 = some G.d41_law_any_registers
  t42 : T 42 = some G.d42_law_any_row
  t43 : T 43 = some G.d43_law_any
theorem mul_s (i j : Int) (h : j.natAbs < 2 ^ 64) : mulOk i j = true := by simp [mulOk, h]
theorem mul_b (i j : Int) (h : i.natAbs < 2 ^ 200) (h2 : j.natAbs < 2 ^ 200) : mulOk i j = true := by
  unfold mulOk
  rw [Bool.or_eq_true]
  right
  rw [Bool.and_eq_true]
  exact ⟨decide_eq_true h, decide_eq_true h2⟩
def mixI (x a n : Int) : Int := (x * 1000003 + a * 7919 + 12347 + n * 613) * (x * 1000003 + a * 7919 + 12347 + n * 613) / 97 * 48271 + (x * 1000003 + a * 7919 + 12347 + n * 613)
/-- what a draw finds in the cells -/
def cellI (ns : List Int) (a : Nat) : Int := match ns[a]? with
  | some i => if i < 0 then -i else i
  | none => 7
def freshI (ns : List Int) (s : WS) : Int := if cellI ns s.a < 10 ^ 18 then mixI (cellI ns s.a) s.a s.n else cellI ns s.a
theorem cell_0 (ns : List Int) (a : Nat) : 0 ≤ cellI ns a := by
  unfold cellI
  split
  · split <;> omega
  · decide
theorem fresh_0 (ns : List Int) (s : WS) : 0 ≤ freshI ns s := by
  have c0 := cell_0 ns s.a
  unfold freshI
  split
  · unfold mixI
    have h1 : 0 ≤ cellI ns s.a * 1000003 + (s.a : Int) * 7919 + 12347 + (s.n : Int) * 613 := by omega
    generalize cellI ns s.a * 1000003 + (s.a : Int) * 7919 + 12347 + (s.n : Int) * 613 = y at *
    have h2 : 0 ≤ y * y := Int.mul_nonneg h1 h1
    generalize y * y = z at *
    omega
  · exact c0
theorem hz0 {h : Hh} {c d : Cell} (e : h[0]? = some c) : (h.set 0 d)[0]? = some d := by
  have : 0 < h.length := (List.getElem?_eq_some_iff.mp e).1
  rw [List.getElem?_set_self this]
/-- the draw's own part that fills the well -/
def fill36 : S := match G.d36_law_draw.body with | .cons _ (.cons s _) => s | _ => .pass
def c36 : S := match fill36 with | .ite _ (.cons _ (.cons s _)) _ => s | _ => .pass
def m36 : S := match fill36 with | .ite _ (.cons _ (.cons _ (.cons s _))) _ => s | _ => .pass
def w36 : Ss := match fill36 with | .ite _ (.cons _ (.cons _ (.cons _ s))) _ => s | _ => .nil
theorem rd_w {h : Hh} {c : Cell} {xs : List PV} (e : h[0]? = some (.lst xs)) (i : PV) : rd (evIdx · (.loc 0) i) h = rd (evIdx · (.lst xs) i) h := by
  show opt (evIdx h (.loc 0) i) h = opt (evIdx h (.lst xs) i) h
  cases i <;> simp [evIdx, getS, getL, e]
theorem bi_absN (m : Bool) (i : Int) : evBi .abs m [.int i] = pure (.int (if i < 0 then -i else i)) := rfl
theorem ev_muli (m : Bool) {i j : Int} (h : mulOk i j = true) : evBin .mul m (.int i) (.int j) = pure (.int (i * j)) := by
  show (if mulOk i j then pure (.int (i * j)) else bad : M PV) = _
  rw [h]; rfl
theorem ev_fdivi (m : Bool) {i j : Int} (h : 0 < j) (h2 : j < 2 ^ 200) : evBin .fdiv m (.int i) (.int j) = pure (.int (i / j)) := by
  show (if 0 < j ∧ j < 2 ^ 200 then pure (.int (i / j)) else bad : M PV) = _
  rw [if_pos ⟨h, h2⟩]
theorem ev_modi (m : Bool) {i j : Int} (h : 0 < j) : evBin .mod m (.int i) (.int j) = pure (.int (i % j)) := by
  show (if 0 < j then pure (.int (i % j)) else bad : M PV) = _
  rw [if_pos h]
section
variable {c : Ctx} {ns : List Int} {s : WS} {h : Hh} {m x : PV}
theorem w_ix0 (e : h[0]? = some (Wc ns s)) : rd (evIdx · (.loc 0) (.int 0)) h = .ok (.int (s.c : Nat)) h := by
  show opt (evIdx h (.loc 0) (.int 0)) h = _
  simp [evIdx, getS, getL, e, Wc]
theorem w_ix1 (e : h[0]? = some (Wc ns s)) : rd (evIdx · (.loc 0) (.int 1)) h = .ok (.int (s.a : Nat)) h := by
  show opt (evIdx h (.loc 0) (.int 1)) h = _
  simp [evIdx, getS, getL, e, Wc]
theorem w_ix2 (e : h[0]? = some (Wc ns s)) : rd (evIdx · (.loc 0) (.int 2)) h = .ok (.lst (ns.map PV.int)) h := by
  show opt (evIdx h (.loc 0) (.int 2)) h = _
  simp [evIdx, getS, getL, e, Wc]
theorem w_ix3 (e : h[0]? = some (Wc ns s)) : rd (evIdx · (.loc 0) (.int 3)) h = .ok (.int (s.n : Nat)) h := by
  show opt (evIdx h (.loc 0) (.int 3)) h = _
  simp [evIdx, getS, getL, e, Wc]
theorem cell36 (e : h[0]? = some (Wc ns s)) {y : Option PV} : evS c c36 [some (.loc 0), some m, some (.lst (ns.map PV.int)), some (.int 7), y] h = .ok (.next, [some (.loc 0), some m, some (.lst (ns.map PV.int)), some (.int (cellI ns s.a)), y]) h := by
  by_cases l : s.a < ns.length
  · have r1 : rd (evIdx · (.lst (ns.map PV.int)) (.int (s.a : Nat))) = pure (.int ns[s.a]) := rd_ixl _ _ (by
      rw [atI_nat]; simp [l])
    have q : cellI ns s.a = if ns[s.a] < 0 then -ns[s.a] else ns[s.a] := by simp [cellI, l]
    simp (disch := first | (simp only [List.length_append, List.length_map, List.length_cons, List.length_nil]; omega) | omega) [evSs, evS, evE, evEs, evC, evCA, evCO, evAnd, evOr, evI, evO, evJs, retOf, asgn, asgns, wipe, bat, tat, me_app0, me_ext0, mk_t0, mk_f0, ev_cat, c36, fill36, G.d36_law_draw, w_ix1 e, bi_lenl, l, r1, bi_absN, q]
  · have q : cellI ns s.a = 7 := by
      have : ns[s.a]? = none := by simp; omega
      simp [cellI, this]
    simp (disch := first | (simp only [List.length_append, List.length_map, List.length_cons, List.length_nil]; omega) | omega) [evSs, evS, evE, evEs, evC, evCA, evCO, evAnd, evOr, evI, evO, evJs, retOf, asgn, asgns, wipe, bat, tat, me_app0, me_ext0, mk_t0, mk_f0, ev_cat, c36, fill36, G.d36_law_draw, w_ix1 e, bi_lenl, l, q]
theorem mix36 (e : h[0]? = some (Wc ns s)) (ha : s.a ≤ 10000000) (hn : s.n ≤ 10000000) {y : Option PV} : evS c m36 [some (.loc 0), some m, some (.lst (ns.map PV.int)), some (.int (cellI ns s.a)), y] h = .ok (.next, [some (.loc 0), some m, some (.lst (ns.map PV.int)), some (.int (freshI ns s)), y]) h := by
  have c0 := cell_0 ns s.a
  have hp : ∀ m, evBin .pow m (.int 10) (.int 18) = pure (.int 1000000000000000000) := fun m => rfl
  by_cases l : cellI ns s.a < 1000000000000000000
  · have f : freshI ns s = mixI (cellI ns s.a) s.a s.n := if_pos l
    rw [f]
    unfold mixI
    generalize cellI ns s.a = x at *
    have y0 : (x * 1000003 + (s.a : Int) * 7919 + 12347 + (s.n : Int) * 613).natAbs < 2 ^ 200 := by omega
    have m1 := fun b => ev_muli b (mul_s x 1000003 (by decide))
    have m2 := fun b => ev_muli b (mul_s (s.a : Int) 7919 (by decide))
    have m3 := fun b => ev_muli b (mul_s (s.n : Int) 613 (by decide))
    have m4 := fun b => ev_muli b (mul_b _ _ y0 y0)
    have m5 := fun b z => ev_muli b (mul_s z 48271 (by decide))
    have m6 := fun b z => ev_fdivi b (i := z) (j := 97) (by decide) (by decide)
    generalize hy : x * 1000003 + (s.a : Int) * 7919 + 12347 + (s.n : Int) * 613 = yy at *
    simp (disch := first | (simp only [List.length_append, List.length_map, List.length_cons, List.length_nil]; omega) | omega) [evSs, evS, evE, evEs, evC, evCA, evCO, evAnd, evOr, evI, evO, evJs, retOf, asgn, asgns, wipe, bat, tat, me_app0, me_ext0, mk_t0, mk_f0, ev_cat, m36, fill36, G.d36_law_draw, w_ix1 e, w_ix3 e, hp, l, m1, m2, m3, m4, m5, m6, hy]
  · have f : freshI ns s = cellI ns s.a := if_neg l
    rw [f]
    generalize cellI ns s.a = x at *
    simp (disch := first | (simp only [List.length_append, List.length_map, List.length_cons, List.length_nil]; omega) | omega) [evSs, evS, evE, evEs, evC, evCA, evCO, evAnd, evOr, evI, evO, evJs, retOf, asgn, asgns, wipe, bat, tat, me_app0, me_ext0, mk_t0, mk_f0, ev_cat, m36, fill36, G.d36_law_draw, hp, l]
end
end J

set_option autoImplicit false
set_option linter.all false
set_option maxRecDepth 100000
set_option maxHeartbeats 4000000
namespace J
open PySem
theorem len_ge {h : Hh} {c : Cell} {n : Nat} (e : h[n]? = some c) : n < h.length := (List.getElem?_eq_some_iff.mp e).1
theorem tkE (m : M PV) (env : En) (h : Hh) : tryE m env (fun _ => pure (.next, env)) h = kE env (fun _ h' => .ok (.next, env) h') (m h) := by
  rw [tat]
  cases m h <;> rfl
section
variable {c : Ctx} {ns : List Int} {s : WS} {h : Hh}
/-- the well is written -/
theorem wr_0 {xs : List PV} {v : PV} {k : Int} {j : Nat} (e : h[0]? = some (.lst xs)) (hj : L2.ixN xs.length k = some j) (hz : xs.length ≤ 100) : wrL (.loc 0) (fun xs => (L2.ixN xs.length k).map fun j => (PV.non, xs.set j v)) h = .ok .non (h.set 0 (.lst (xs.set j v))) := by
  have z : xs.length ≤ sizeL := sizeL_10 hz
  simp [wrL, getL, e, hj, setL, z]
def WdC (ns : List Int) (a b d : Int) : Cell := .lst [.int a, .int b, .lst (ns.map PV.int), .int d]
theorem wc_d (ns : List Int) (s : WS) : Wc ns s = WdC ns s.c s.a s.n := rfl
theorem ixn0 : L2.ixN 4 0 = some 0 := by decide
theorem ixn1 : L2.ixN 4 1 = some 1 := by decide
theorem ixn3 : L2.ixN 4 3 = some 3 := by decide
theorem s_seti0 {a b d v : Int} {env : En} {o e : E} (hv : evE c e env h = .ok (.int v) h) (ho : evE c o env h = .ok (.loc 0) h) (e0 : h[0]? = some (WdC ns a b d)) : evS c (.seti o (.int 0) e) env h = .ok (.next, env) (h.set 0 (WdC ns v b d)) := by
  show tryE (evE c e env >>= fun v => evE c o env >>= fun x => evE c (.int 0) env >>= fun k => (match k with
      | .int k => wrL x fun xs => (L2.ixN xs.length k).map fun j => (.non, xs.set j v)
      | _ => bad)) env (fun _ => pure (.next, env)) h = _
  rw [tkE, bat, hv]
  show kE env (fun _ h' => .ok (.next, env) h') ((evE c o env >>= fun x => wrL x fun xs => (L2.ixN xs.length 0).map fun j => (PV.non, xs.set j (.int v))) h) = _
  rw [bat, ho]
  show kE env (fun _ h' => .ok (.next, env) h') (wrL (.loc 0) (fun xs => (L2.ixN xs.length 0).map fun j => (PV.non, xs.set j (.int v))) h) = _
  rw [wr_0 e0 ixn0 (by simp)]
  rfl
theorem s_aug1 {a b d : Int} {env : En} {o : E} (ho : ∀ h, evE c o env h = .ok (.loc 0) h) (e0 : h[0]? = some (WdC ns a b d)) : evS c (.augi o (.int 1) .add (.int 1)) env h = .ok (.next, env) (h.set 0 (WdC ns a (b + 1) d)) := by
  have r : rd (fun h => if (0 : Int) ≤ 1 then (getL h (.loc 0)).bind fun xs => L2.atI xs 1 else none) h = .ok (.int b) h := by
    show opt _ h = _
    simp [getL, e0, WdC]
  show tryE (evE c o env >>= fun x => evE c (.int 1) env >>= fun k => rd (fun h => match k with | .int j => if 0 ≤ j then (getL h x).bind fun xs => L2.atI xs j else none | _ => none) >>= fun old => evE c (.int 1) env >>= fun y =>
      (match old, y, Op2.add with
        | .int a, .int b, .add => pure (PV.int (a + b))
        | .int a, .int b, .sub => pure (PV.int (a - b))
        | _, _, _ => bad) >>= fun z => (match k with
      | .int k => wrL x fun xs => (L2.ixN xs.length k).map fun j => (.non, xs.set j z)
      | _ => bad)) env (fun _ => pure (.next, env)) h = _
  rw [tkE, bat, ho]
  show kE env (fun _ h' => .ok (.next, env) h') ((rd (fun h => if (0 : Int) ≤ 1 then (getL h (.loc 0)).bind fun xs => L2.atI xs 1 else none) >>= fun old => evE c (.int 1) env >>= fun y =>
      (match old, y, Op2.add with
        | .int a, .int b, .add => pure (PV.int (a + b))
        | .int a, .int b, .sub => pure (PV.int (a - b))
        | _, _, _ => bad) >>= fun z => (wrL (.loc 0) fun xs => (L2.ixN xs.length 1).map fun j => (PV.non, xs.set j z))) h) = _
  rw [bat, r]
  show kE env (fun _ h' => .ok (.next, env) h') (wrL (.loc 0) (fun xs => (L2.ixN xs.length 1).map fun j => (PV.non, xs.set j (.int (b + 1)))) h) = _
  rw [wr_0 e0 ixn1 (by simp)]
  rfl
theorem s_aug3 {a b d : Int} {env : En} {o : E} (ho : ∀ h, evE c o env h = .ok (.loc 0) h) (e0 : h[0]? = some (WdC ns a b d)) : evS c (.augi o (.int 3) .add (.int 1)) env h = .ok (.next, env) (h.set 0 (WdC ns a b (d + 1))) := by
  have r : rd (fun h => if (0 : Int) ≤ 3 then (getL h (.loc 0)).bind fun xs => L2.atI xs 3 else none) h = .ok (.int d) h := by
    show opt _ h = _
    simp [getL, e0, WdC]
  show tryE (evE c o env >>= fun x => evE c (.int 3) env >>= fun k => rd (fun h => match k with | .int j => if 0 ≤ j then (getL h x).bind fun xs => L2.atI xs j else none | _ => none) >>= fun old => evE c (.int 1) env >>= fun y =>
      (match old, y, Op2.add with
        | .int a, .int b, .add => pure (PV.int (a + b))
        | .int a, .int b, .sub => pure (PV.int (a - b))
        | _, _, _ => bad) >>= fun z => (match k with
      | .int k => wrL x fun xs => (L2.ixN xs.length k).map fun j => (.non, xs.set j z)
      | _ => bad)) env (fun _ => pure (.next, env)) h = _
  rw [tkE, bat, ho]
  show kE env (fun _ h' => .ok (.next, env) h') ((rd (fun h => if (0 : Int) ≤ 3 then (getL h (.loc 0)).bind fun xs => L2.atI xs 3 else none) >>= fun old => evE c (.int 1) env >>= fun y =>
      (match old, y, Op2.add with
        | .int a, .int b, .add => pure (PV.int (a + b))
        | .int a, .int b, .sub => pure (PV.int (a - b))
        | _, _, _ => bad) >>= fun z => (wrL (.loc 0) fun xs => (L2.ixN xs.length 3).map fun j => (PV.non, xs.set j z))) h) = _
  rw [bat, r]
  show kE env (fun _ h' => .ok (.next, env) h') (wrL (.loc 0) (fun xs => (L2.ixN xs.length 3).map fun j => (PV.non, xs.set j (.int (d + 1)))) h) = _
  rw [wr_0 e0 ixn3 (by simp)]
  rfl
/-- the well is filled where it is empty -/
theorem fill_ok {b : Nat} {m : PV} {y : Option PV} (e0 : h[0]? = some (Wc ns s)) (ha : s.a ≤ b) (hn : s.n ≤ b) (hb : b ≤ 1000000) : ∃ s' y', evS c fill36 [some (.loc 0), some m, some (.lst (ns.map PV.int)), none, none] h = .ok (.next, [some (.loc 0), some m, some (.lst (ns.map PV.int)), y', none]) (h.set 0 (Wc ns s')) ∧ s'.a ≤ b + 1 ∧ s'.n ≤ b + 1 := by
  have hp : 0 < h.length := len_ge e0
  have sh : fill36 = .ite (.val (.cmp .eq (.idx (.var 0) (.int 0)) (.int 0))) (.cons (.set 3 (.int 7)) (.cons c36 (.cons m36 w36))) .nil := rfl
  have sw : w36 = .cons (.seti (.var 0) (.int 0) (.var 3)) (.cons (.augi (.var 0) (.int 1) .add (.int 1)) (.cons (.augi (.var 0) (.int 3) .add (.int 1)) .nil)) := rfl
  by_cases z : s.c = 0
  · have k1 := cell36 (c := c) (m := m) (y := none) e0
    have k2 := mix36 (c := c) (m := m) (y := none) e0 (by omega) (by omega)
    have f0 := fresh_0 ns s
    have sc : evCmp .eq (.int (s.c : Nat)) (.int 0) h = some true := by rw [z]; rfl
    refine ⟨⟨(freshI ns s).toNat, s.a + 1, s.n + 1⟩, some (.int (freshI ns s)), ?_, by show s.a + 1 ≤ b + 1; omega, by show s.n + 1 ≤ b + 1; omega⟩
    have w0 := w_ix0 e0
    have t1 : rd (evCmp .eq (.int (s.c : Nat)) (.int 0)) = pure true := by rw [z]; rfl
    have q1 : evS c (.seti (.var 0) (.int 0) (.var 3)) [some (.loc 0), some m, some (.lst (ns.map PV.int)), some (.int (freshI ns s)), none] h = _ := s_seti0 (by rfl) (by rfl) (e0.trans (by rw [wc_d]))
    have q2 := s_aug1 (c := c) (ns := ns) (h := h.set 0 (WdC ns (freshI ns s) s.a s.n)) (a := freshI ns s) (b := s.a) (d := s.n) (env := [some (.loc 0), some m, some (.lst (ns.map PV.int)), some (.int (freshI ns s)), none]) (o := .var 0) (fun _ => rfl) (hz0 e0)
    have q3 := s_aug3 (c := c) (ns := ns) (h := h.set 0 (WdC ns (freshI ns s) (s.a + 1) s.n)) (a := freshI ns s) (b := s.a + 1) (d := s.n) (env := [some (.loc 0), some m, some (.lst (ns.map PV.int)), some (.int (freshI ns s)), none]) (o := .var 0) (fun _ => rfl) (hz0 e0)
    rw [List.set_set] at q2 q3
    have fin : WdC ns (freshI ns s) (s.a + 1) (s.n + 1) = Wc ns ⟨(freshI ns s).toNat, s.a + 1, s.n + 1⟩ := by
      rw [wc_d]
      show WdC ns (freshI ns s) (s.a + 1) (s.n + 1) = WdC ns ((freshI ns s).toNat : Nat) ((s.a + 1 : Nat) : Int) ((s.n + 1 : Nat) : Int)
      rw [Int.toNat_of_nonneg f0]; rfl
    rw [sh, sw]
    rw [fin] at q3
    generalize c36 = cc at *
    generalize m36 = mm at *
    simp (disch := first | (simp only [List.length_append, List.length_map, List.length_cons, List.length_nil]; omega) | omega) [ss_end, ss_cons, ss_nil, s_ite, s_expr, s_set, s_asg, s_ret, s_frz, evE, evEs, evC, evCA, evCO, evAnd, evOr, evI, evO, evJs, retOf, asgn, asgns, wipe, bat, me_app0, me_ext0, mk_t0, mk_f0, ev_cat, w0, t1, k1, k2, q1, q2, q3]
  · have w0 := w_ix0 e0
    have t1 : rd (evCmp .eq (.int (s.c : Nat)) (.int 0)) = pure false := by
      show rd (fun h => some (decide ((s.c : Int) = 0))) = _
      have : decide ((s.c : Int) = 0) = false := by simp; omega
      rw [this]; rfl
    refine ⟨s, none, ?_, by omega, by omega⟩
    have id : h.set 0 (Wc ns s) = h := by
      have : h[0] = Wc ns s := (List.getElem?_eq_some_iff.mp e0).2
      rw [← this, List.set_getElem_self]
    rw [sh, id]
    generalize c36 = cc at *
    generalize m36 = mm at *
    generalize w36 = ww at *
    simp (disch := first | (simp only [List.length_append, List.length_map, List.length_cons, List.length_nil]; omega) | omega) [ss_end, ss_cons, ss_nil, s_ite, s_expr, s_set, s_asg, s_ret, s_frz, evE, evEs, evC, evCA, evCO, evAnd, evOr, evI, evO, evJs, retOf, asgn, asgns, wipe, bat, me_app0, me_ext0, mk_t0, mk_f0, ev_cat, w0, t1]
end
section
variable {T : Nat → Option Fd} {fuel k : Nat} (H : Hd T)
include H
theorem draw_ok {ns : List Int} {b m : Nat} {h : Hh} (w : Wh ns b h) (hb : b ≤ 1000000) (hm : 0 < m) (hm2 : m < 10000000000000000) : ∃ v h', callAt T fuel (k + 1) 36 [.loc 0, .int (m : Nat)] h = .ok (.int (v : Nat)) h' ∧ v < m ∧ Wh ns (b + 1) h' ∧ Exh0 h h' := by
  obtain ⟨s, e0, ha, hn⟩ := w
  have hp : 0 < h.length := len_ge e0
  obtain ⟨s', y', f, ha', hn'⟩ := fill_ok (c := ⟨callAt T fuel k, fuel⟩) (m := .int (m : Nat)) (y := none) e0 ha hn hb
  have e1 : (h.set 0 (Wc ns s'))[0]? = some (Wc ns s') := hz0 e0
  have w2 := w_ix2 e0
  have w0 := w_ix0 e1
  have mo := fun z => ev_modi z (i := (s'.c : Int)) (j := (m : Int)) (by omega)
  have fd := fun z => ev_fdivi z (i := (s'.c : Int)) (j := (m : Int)) (by omega) (by omega)
  have st := s_seti0 (c := ⟨callAt T fuel k, fuel⟩) (ns := ns) (h := h.set 0 (Wc ns s')) (a := s'.c) (b := s'.a) (d := s'.n) (v := (s'.c : Int) / (m : Int)) (env := [some (.loc 0), some (.int (m : Nat)), some (.lst (ns.map PV.int)), y', some (.int ((s'.c : Int) % (m : Int)))]) (o := .var 0) (e := .bin .fdiv false (.idx (.var 0) (.int 0)) (.var 1)) (by simp (disch := first | (simp only [List.length_append, List.length_map, List.length_cons, List.length_nil]; omega) | omega) [ss_end, ss_cons, ss_nil, s_ite, s_expr, s_set, s_asg, s_ret, s_frz, evE, evEs, evC, evCA, evCO, evAnd, evOr, evI, evO, evJs, retOf, asgn, asgns, wipe, bat, me_app0, me_ext0, mk_t0, mk_f0, ev_cat, w0, fd]) (by rfl) e1
  rw [List.set_set] at st
  have body : (evSs ⟨callAt T fuel k, fuel⟩ G.d36_law_draw.body [some (.loc 0), some (.int (m : Nat)), none, none, none] >>= retOf) h = .ok (.int ((s'.c : Int) % (m : Int))) (h.set 0 (WdC ns ((s'.c : Int) / (m : Int)) s'.a s'.n)) := by
    have sh : G.d36_law_draw.body = .cons (.set 2 (.idx (.var 0) (.int 2))) (.cons fill36 (.cons (.set 4 (.bin .mod false (.bi .int false (.cons (.idx (.var 0) (.int 0)) .nil)) (.var 1))) (.cons (.seti (.var 0) (.int 0) (.bin .fdiv false (.idx (.var 0) (.int 0)) (.var 1))) (.cons (.ret (.var 4)) .nil)))) := rfl
    have bi : ∀ z (i : Int), evBi .int z [.int i] = pure (.int i) := fun _ _ => rfl
    rw [sh]
    generalize fill36 = ff at *
    simp (disch := first | (simp only [List.length_append, List.length_map, List.length_cons, List.length_nil]; omega) | omega) [ss_end, ss_cons, ss_nil, s_ite, s_expr, s_set, s_asg, s_ret, s_frz, evE, evEs, evC, evCA, evCO, evAnd, evOr, evI, evO, evJs, retOf, asgn, asgns, wipe, bat, me_app0, me_ext0, mk_t0, mk_f0, ev_cat, w2, f, w0, mo, bi, st]
  have fin : WdC ns ((s'.c : Int) / (m : Int)) s'.a s'.n = Wc ns ⟨s'.c / m, s'.a, s'.n⟩ := by
    rw [wc_d]
    show _ = WdC ns ((s'.c / m : Nat) : Int) _ _
    rw [Int.natCast_ediv]
  rw [fin] at body
  have val : (s'.c : Int) % (m : Int) = ((s'.c % m : Nat) : Int) := by rw [Int.natCast_emod]
  rw [val] at body
  obtain ⟨h2, r1, r2, r3, r4⟩ := call_ext (X := fun _ => False) (ns := ns) (b := b + 1) (xs := [.loc 0, .int (m : Nat)]) (k := k) (fuel := fuel) H.t36 rfl hp (h' := h.set 0 (Wc ns ⟨s'.c / m, s'.a, s'.n⟩)) ⟨by simp, fun j p l _ => by rw [List.getElem?_set_ne (by omega)]⟩ ⟨_, hz0 e0, ha', hn'⟩ body
  exact ⟨s'.c % m, h2, r1, Nat.mod_lt _ hm, r3, r2⟩
end
end J

set_option autoImplicit false
set_option linter.all false
set_option maxRecDepth 100000
set_option maxHeartbeats 4000000
namespace J
open PySem
theorem rng_loop {c : Ctx} {t : Tg} {a : E} {body : Ss} {n : Nat} {env : En} {z z1 : Hh} {P : Nat → En → Hh → Prop} (he : evE c a env z = .ok (.int (n : Nat)) z1) (hn : n ≤ 1000) (h0 : P 0 env z1)
    (step : ∀ i env h, i < n → P i env h → ∃ env' h', (opt (asgn t (.int (i : Nat)) env) >>= fun env' => evSs c body env') h = .ok (.next, env') h' ∧ P (i + 1) env' h') : ∃ env' h', evS c (.for t (.range1 a) body) env z = .ok (.next, env') h' ∧ P n env' h' := by
  have hi : evI c (.range1 a) env z = .ok (Src.range 0 n) z1 := by
    show (evE c a env >>= fun x => match x with | .int j => if -(2 ^ 62) ≤ j ∧ j < 2 ^ 62 then pure (Src.range 0 j.toNat) else bad | _ => bad) z = _
    rw [bat, he]
    show (if -(2 ^ 62) ≤ (n : Int) ∧ (n : Int) < 2 ^ 62 then pure (Src.range 0 (n : Int).toNat) else bad : M Src) z1 = _
    rw [if_pos (by omega)]
    rfl
  obtain ⟨env', h', e, p⟩ := for_run (src := Src.range 0 n) (body := fun x env => opt (asgn t x env) >>= fun env' => evSs c body env') (l := List.range n) (enc := fun (i : Nat) => PV.int (0 + (i : Int))) (P := P) rfl
    (fun i a env h hm p => by
      have hi : i < n := by
        have := (List.getElem?_eq_some_iff.mp hm).1
        rwa [List.length_range] at this
      have ea : a = i := by
        rw [List.getElem?_range hi] at hm
        exact (Option.some.inj hm).symm
      subst ea
      obtain ⟨env', h', e, p'⟩ := step a env h hi p
      rw [Int.zero_add]
      exact ⟨env', h', e, p'⟩) (env := env) (h := z1) h0
  rw [List.length_range] at p
  exact ⟨env', h', for_eq' hi e, p⟩
where
  for_eq' {c : Ctx} {t : Tg} {it : It} {body : Ss} {env : En} {z z1 : Hh} {src : Src} {r : Out (Fl × En)} (hi : evI c it env z = .ok src z1) (hr : forGo src (fun x env => opt (asgn t x env) >>= fun env' => evSs c body env') (turns z1 src) 0 env z1 = r) : evS c (.for t it body) env z = r := by
    show tryE (evI c it env) env (fun src => fun z => forGo src (fun x env => opt (asgn t x env) >>= fun env' => evSs c body env') (turns z src) 0 env z) z = _
    rw [tat, hi]
    exact hr
theorem pick_l {xs : List PV} {v : Nat} {x : PV} (e : xs[v]? = some x) : rd (evIdx · (.lst xs) (.int (v : Nat))) = pure x := rd_ixl _ _ (by rw [atI_nat]; exact e)
theorem pick_nat (ns : List Nat) {v : Nat} (hv : v < ns.length) {xs : List PV} (hx : xs = ns.map fun (n : Nat) => PV.int (n : Nat)) : ∃ n ∈ ns, rd (evIdx · (.lst xs) (.int (v : Nat))) = pure (.int (n : Nat)) := by
  subst hx
  exact ⟨ns[v], List.getElem_mem hv, pick_l (by rw [List.getElem?_map, List.getElem?_eq_getElem hv]; rfl)⟩
theorem pick_sv (ns : List (List Nat)) {v : Nat} (hv : v < ns.length) {xs : List PV} (hx : xs = ns.map sv) : ∃ n ∈ ns, rd (evIdx · (.lst xs) (.int (v : Nat))) = pure (.str (st n)) := by
  subst hx
  exact ⟨ns[v], List.getElem_mem hv, pick_l (by rw [List.getElem?_map, List.getElem?_eq_getElem hv]; rfl)⟩
theorem pick_st (l : List Nat) {v : Nat} (hv : v < l.length) (hl : l.length ≤ 100) : ∃ x ∈ l, rd (evIdx · (.str (st l)) (.int (v : Nat))) = pure (.str (st [x])) :=
  ⟨l[v], List.getElem_mem hv, rd_ixs _ _ (by rw [st_len]; exact sizeL_10 hl) (by rw [atI_nat, st_tl, List.getElem?_eq_getElem hv])⟩
def alnum : List Nat := smalls ++ caps ++ digs
theorem z_alnum : Str.ofString "abcdefghijklmnopqrstuvwxyzABCDEFGHIJKLMNOPQRSTUVWXYZ0123456789" = st alnum := by rfl
def nearS : List (List Nat) := ["rx", "r1x", "t0b", "into1", "inn", "caseA", "numbers", "fun2", "holdr1", "entry0", "kindA", "tt", "r0t0"].map fun (s : String) => (Str.ofString s).cps.toList
def nearC : List (List Nat) := ["Kind", "Number", "R1", "T0", "Case", "In", "R", "T", "Hold", "Entry", "R31"].map fun (s : String) => (Str.ofString s).cps.toList
theorem nearS_eq : [PV.str (Str.ofString "rx"), .str (Str.ofString "r1x"), .str (Str.ofString "t0b"), .str (Str.ofString "into1"), .str (Str.ofString "inn"), .str (Str.ofString "caseA"), .str (Str.ofString "numbers"), .str (Str.ofString "fun2"), .str (Str.ofString "holdr1"), .str (Str.ofString "entry0"), .str (Str.ofString "kindA"), .str (Str.ofString "tt"), .str (Str.ofString "r0t0")] = nearS.map sv := by rfl
theorem nearC_eq : [PV.str (Str.ofString "Kind"), .str (Str.ofString "Number"), .str (Str.ofString "R1"), .str (Str.ofString "T0"), .str (Str.ofString "Case"), .str (Str.ofString "In"), .str (Str.ofString "R"), .str (Str.ofString "T"), .str (Str.ofString "Hold"), .str (Str.ofString "Entry"), .str (Str.ofString "R31")] = nearC.map sv := by rfl
theorem nearS_ok : ∀ x ∈ nearS, nameB x = true ∧ memB (x.headD 0) smalls = true := by decide +kernel
theorem nearC_ok : ∀ x ∈ nearC, nameB x = true ∧ memB (x.headD 0) caps = true := by decide +kernel
theorem keys_x : ∀ k ∈ keysL, (nameB (k ++ [120]) = true ∧ memB ((k ++ [120]).headD 0) smalls = true) ∧ memB (k.headD 0) caps = false ∧ k.tail.all (fun x => memB x digs) = false := by decide +kernel
theorem lets_d : ∀ c ∈ smalls ++ caps, memB c digs = false := by decide +kernel
theorem memB_iff {c : Nat} {l : List Nat} : memB c l = true ↔ c ∈ l := by simp [memB]
/-- what a drawn name comes to -/
def settle (l : List Nat) : List Nat := if keysL.contains l then l ++ [120] else if memB (l.headD 0) [114, 116] && l.tail.all (fun x => memB x digs) then 102 :: l.tail else l
theorem settle_ok {L : List Nat} (hL : L = smalls ∨ L = caps) {c : Nat} {r : List Nat} (hc : c ∈ L) (hr : ∀ x ∈ r, x ∈ alnum) (hl : r.length ≤ 9) : nameB (settle (c :: r)) = true ∧ memB ((settle (c :: r)).headD 0) L = true := by
  have ca : c ∈ smalls ++ caps := by
    rw [List.mem_append]
    rcases hL with rfl | rfl
    · exact .inl hc
    · exact .inr hc
  unfold settle
  by_cases k : keysL.contains (c :: r) = true
  · rw [if_pos k]
    have hk := keys_x _ (List.contains_iff_mem.mp k)
    rcases hL with rfl | rfl
    · exact hk.1
    · have := hk.2.1
      rw [List.headD_cons] at this
      rw [memB_iff.mpr hc] at this
      cases this
  · rw [if_neg k]
    by_cases q : (memB ((c :: r).headD 0) [114, 116] && (c :: r).tail.all (fun x => memB x digs)) = true
    · rw [if_pos q]
      rw [Bool.and_eq_true, List.headD_cons, List.tail_cons] at q
      obtain ⟨q1, q2⟩ := q
      have nk : keysL.contains (102 :: r) = false := by
        cases z : keysL.contains (102 :: r) with
        | false => rfl
        | true =>
          have := (keys_x _ (List.contains_iff_mem.mp z)).2.2
          rw [List.tail_cons, q2] at this
          cases this
      have ls : L = smalls := by
        rcases hL with rfl | rfl
        · rfl
        · have : c = 114 ∨ c = 116 := by simpa [memB] using q1
          rcases this with rfl | rfl
          · exact absurd hc (by decide)
          · exact absurd hc (by decide)
      subst ls
      have a1 : decide ((102 :: r).length ≤ 10) = true := by simp only [List.length_cons, decide_eq_true_eq]; omega
      have a2 : memB 102 [114, 116] = false := by decide
      have a3 : memB 102 digs = false := by decide
      have a4 : ((102 :: r).all fun x => memB x (smalls ++ caps ++ digs)) = true := by
        rw [List.all_eq_true]
        intro x hx
        rw [List.mem_cons] at hx
        rcases hx with rfl | hx
        · decide
        · exact memB_iff.mpr (hr x hx)
      refine ⟨?_, by show memB 102 smalls = true; decide⟩
      show (decide ((102 :: r).length ≤ 10) && !keysL.contains (102 :: r) && !(memB 102 [114, 116] && r.all fun x => memB x digs) && !memB 102 digs && (102 :: r).all fun x => memB x (smalls ++ caps ++ digs)) = true
      rw [a1, nk, a2, a3, a4]
      rfl
    · rw [if_neg q]
      rw [List.headD_cons, List.tail_cons] at q
      refine ⟨?_, memB_iff.mpr hc⟩
      simp only [nameB, Bool.and_eq_true, decide_eq_true_eq, Bool.not_eq_true', List.length_cons, List.all_cons]
      refine ⟨⟨⟨⟨by omega, by simpa using k⟩, by simpa using q⟩, lets_d c ca⟩, ?_, ?_⟩
      · exact memB_iff.mpr (by rw [List.mem_append]; exact .inl ca)
      · rw [List.all_eq_true]
        intro x hx
        exact memB_iff.mpr (hr x hx)
section
variable {T : Nat → Option Fd} {fuel k : Nat} (H : Hd T)
include H
theorem drawn {ns : List Int} {b m : Nat} {h : Hh} {M : Int} (hM : M = (m : Int)) (w : Wh ns b h) (hb : b ≤ 1000000) (hm : 0 < m) (hm2 : m < 10000000000000000) : ∃ v h', callAt T fuel (k + 1) 36 [.loc 0, .int M] h = .ok (.int (v : Nat)) h' ∧ v < m ∧ Wh ns (b + 1) h' ∧ Exh0 h h' := by
  subst hM
  exact draw_ok H w hb hm hm2
omit H in
theorem c37 {c : Ctx} {l : List Nat} {a0 a1 a2 a3 a5 a6 : Option PV} (hl : l ≠ []) (hz : l.length ≤ 100) : evE c G.d37_c2 [a0, a1, a2, a3, some (.str (st l)), a5, a6] = pure (.lst (l.tail.map fun x => PV.bl (memB x digs))) := by
  have hz := sizeL_10 hz
  refine comp_m (src := .seq (.str (st l.tail))) ?_ (items_s (by simp; omega)) (by simp; omega) fun x hx => ?_
  · simp [evSs, evS, evE, evEs, evC, evCA, evCO, evAnd, evOr, evI, evO, evJs, retOf, asgn, asgns, wipe, J.ba, evSlice, hz, cut1 hl, rd_its (show l.tail.length ≤ sizeL by simp; omega)]
  · simp [evSs, evS, evE, evEs, evC, evCA, evCO, evAnd, evOr, evI, evO, evJs, retOf, asgn, asgns, wipe, J.ba]
theorem name_loop {ns : List Int} {b : Nat} {h : Hh} {c0 : Nat} {a1 a3 a5 a6 : Option PV} (w : Wh ns b h) (hb : b ≤ 900000) : ∃ r x h', evS ⟨callAt T fuel (k + 1), fuel⟩ G.d37_l1 [some (.loc 0), a1, some (.str (st alnum)), a3, some (.str (st [c0])), a5, a6] h = .ok (.next, [some (.loc 0), a1, some (.str (st alnum)), a3, some (.str (st (c0 :: r))), x, a6]) h' ∧ r.length ≤ 9 ∧ (∀ x ∈ r, x ∈ alnum) ∧ Wh ns (b + 10) h' ∧ Exh0 h h' := by
  obtain ⟨v, h1, e1, hv, w1, x1⟩ := drawn H (fuel := fuel) (k := k) (M := 5) (m := 5) rfl w (by omega) (by decide) (by decide)
  obtain ⟨n, hn, p⟩ := pick_nat [0, 1, 2, 4, 9] hv (xs := [.int 0, .int 1, .int 2, .int 4, .int 9]) rfl
  have n9 : n ≤ 9 := by
    simp only [List.mem_cons, List.not_mem_nil, or_false] at hn
    omega
  obtain ⟨env', h', e, ⟨r, x, hx, hr, ha, hw, he⟩⟩ := rng_loop (c := ⟨callAt T fuel (k + 1), fuel⟩) (t := .name 5) (a := .idx (.list false (.cons (.int 0) (.cons (.int 1) (.cons (.int 2) (.cons (.int 4) (.cons (.int 9) .nil)))))) (.call 36 (.cons (.var 0) (.cons (.int 5) .nil)))) (body := G.d37_b0) (n := n) (z := h) (z1 := h1) (env := [some (.loc 0), a1, some (.str (st alnum)), a3, some (.str (st [c0])), a5, a6])
    (P := fun i env z => ∃ r x, env = [some (.loc 0), a1, some (.str (st alnum)), a3, some (.str (st (c0 :: r))), x, a6] ∧ r.length = i ∧ (∀ x ∈ r, x ∈ alnum) ∧ Wh ns (b + 1 + i) z ∧ Exh0 h z)
    (by simp (disch := first | (simp only [List.length_append, List.length_map, List.length_cons, List.length_nil]; omega) | omega) [ss_end, ss_cons, ss_nil, s_ite, s_expr, s_set, s_asg, s_ret, s_frz, evE, evEs, evC, evCA, evCO, evAnd, evOr, evI, evO, evJs, retOf, asgn, asgns, wipe, bat, me_app0, me_ext0, mk_t0, mk_f0, ev_cat, e1, p]) (by omega) ⟨[], a5, rfl, rfl, (fun _ h => absurd h List.not_mem_nil), w1, x1⟩
    (fun i env z hi ⟨r, x, hx, hr, ha, hw, he⟩ => by
      subst hx
      obtain ⟨v, h1, e1, hv, w1, x1⟩ := drawn H (fuel := fuel) (k := k) (M := 62) (m := 62) rfl hw (by omega) (by decide) (by decide)
      obtain ⟨y, hy, p⟩ := pick_st alnum hv (by decide)
      have cs := cat_st false (c0 :: r) [y] (by simp only [List.length_cons, List.length_nil]; omega)
      refine ⟨[some (.loc 0), a1, some (.str (st alnum)), a3, some (.str (st (c0 :: (r ++ [y])))), some (.int (i : Nat)), a6], h1, ?_, r ++ [y], _, rfl, by simp [hr], ?_, ?_, he.trans x1⟩
      · generalize alnum = al at *
        rw [List.cons_append] at cs
        simp (disch := first | (simp only [List.length_append, List.length_map, List.length_cons, List.length_nil]; omega) | omega) [ss_end, ss_cons, ss_nil, s_ite, s_expr, s_set, s_asg, s_ret, s_frz, evE, evEs, evC, evCA, evCO, evAnd, evOr, evI, evO, evJs, retOf, asgn, asgns, wipe, bat, me_app0, me_ext0, mk_t0, mk_f0, ev_cat, G.d37_b0, e1, p, cs]
      · intro z hz
        rw [List.mem_append] at hz
        rcases hz with hz | hz
        · exact ha z hz
        · simp only [List.mem_cons, List.not_mem_nil, or_false] at hz
          subst hz; exact hy
      · exact w1.mono (by omega))
  subst hx
  exact ⟨r, x, h', e, by omega, ha, hw.mono (by omega), he⟩
end
end J

set_option autoImplicit false
set_option linter.all false
set_option maxRecDepth 100000
set_option maxHeartbeats 4000000
namespace J
open PySem
def rest37 : Ss := match G.d37_law_plain.body with | .cons _ (.cons _ (.cons _ r)) => r | _ => .nil
def rest37b : Ss := match rest37 with | .cons _ (.cons _ (.cons _ r)) => r | _ => .nil
theorem z_x : Str.ofString "x" = st [120] := rfl
theorem z_f : Str.ofString "f" = st [102] := rfl
theorem z_rt : Str.ofString "rt" = st [114, 116] := rfl
theorem slice1 {l : List Nat} (hl : l ≠ []) (hz : l.length ≤ 100) (m : Bool) : evSlice m (.str (st l)) (some 1) none = pure (.str (st l.tail)) := by
  have hz := sizeL_10 hz
  show (if (st l).length ≤ sizeL then pure (PV.str ⟨(cut (st l).cps.toList (some 1) none).toArray⟩) else bad : M PV) = _
  rw [st_len, if_pos hz, st_tl, cut1 hl]
  cases l with
  | nil => exact absurd rfl hl
  | cons x r => rfl
section
variable {T : Nat → Option Fd} {fuel k : Nat} (H : Hd T)
include H
omit H in
theorem settle_run {c : Ctx} {c0 : Nat} {r : List Nat} (hr : r.length ≤ 9) {a0 a1 a2 a3 a5 a6 : Option PV} (h : Hh) : ∃ env', evSs c rest37b [a0, a1, a2, a3, some (.str (st (c0 :: r))), a5, a6] h = .ok (.ret (.str (st (settle (c0 :: r)))), env') h := by
  have hl : (c0 :: r).length ≤ 100 := by simp only [List.length_cons]; omega
  have mt : mkT [.str (Str.ofString "case"), .str (Str.ofString "drop"), .str (Str.ofString "entry"), .str (Str.ofString "free"), .str (Str.ofString "fun"), .str (Str.ofString "give"), .str (Str.ofString "hold"), .str (Str.ofString "in"), .str (Str.ofString "into"), .str (Str.ofString "kind"), .str (Str.ofString "number")] = pure (.tup [.str (Str.ofString "case"), .str (Str.ofString "drop"), .str (Str.ofString "entry"), .str (Str.ofString "free"), .str (Str.ofString "fun"), .str (Str.ofString "give"), .str (Str.ofString "hold"), .str (Str.ofString "in"), .str (Str.ofString "into"), .str (Str.ofString "kind"), .str (Str.ofString "number")]) := mk_t _ (by simp; decide)
  have k2 : rd (evCmp .isin (.str (st (c0 :: r))) (.tup [.str (Str.ofString "case"), .str (Str.ofString "drop"), .str (Str.ofString "entry"), .str (Str.ofString "free"), .str (Str.ofString "fun"), .str (Str.ofString "give"), .str (Str.ofString "hold"), .str (Str.ofString "in"), .str (Str.ofString "into"), .str (Str.ofString "kind"), .str (Str.ofString "number")])) = pure (keysL.contains (c0 :: r)) := rd_keys (c0 :: r)
  have i0 : rd (evIdx · (.str (st (c0 :: r))) (.int 0)) = pure (.str (st [c0])) := rd_ixs _ _ (by rw [st_len]; exact sizeL_10 hl) (by simp)
  have cc := c37 (c := c) (l := c0 :: r) (a0 := a0) (a1 := a1) (a2 := a2) (a3 := a3) (a5 := a5) (a6 := a6) (by simp) hl
  rw [List.tail_cons] at cc
  have al : ∀ m, evBi .all m [.lst (r.map fun x => PV.bl (memB x digs))] = pure (.bl (r.all fun x => memB x digs)) := fun m => bi_all_m m r _
  have sl := fun m => slice1 (l := c0 :: r) (by simp) hl m
  have cx := cat_st false (c0 :: r) [120] (by simp only [List.length_cons, List.length_nil]; omega)
  have cf := cat_st false [102] r (by simp only [List.length_cons, List.length_nil]; omega)
  rw [List.tail_cons] at sl
  have m1 : rd (evCmp .isin (.str (st [c0])) (.str (st [114, 116]))) = pure (memB c0 [114, 116]) := rfl
  by_cases q1 : keysL.contains (c0 :: r) = true
  · have e : settle (c0 :: r) = c0 :: r ++ [120] := if_pos q1
    rw [q1] at k2
    rw [e]
    refine ⟨_, Eq.trans (b := .ok (.ret (.str (st (c0 :: r ++ [120]))), [a0, a1, a2, a3, some (.str (st (c0 :: r))), a5, a6]) h) ?_ rfl⟩
    simp (disch := first | (simp only [List.length_append, List.length_map, List.length_cons, List.length_nil]; omega) | omega) [ss_end, ss_cons, ss_nil, s_ite, s_expr, s_set, s_asg, s_ret, s_frz, evE, evEs, evC, evCA, evCO, evAnd, evOr, evI, evO, evJs, retOf, asgn, asgns, wipe, bat, me_app0, me_ext0, mk_t0, mk_f0, ev_cat, rest37b, rest37, G.d37_law_plain, mt, k2, z_x, cx]
  · have q0 : keysL.contains (c0 :: r) = false := by simpa using q1
    rw [q0] at k2
    by_cases q2 : memB c0 [114, 116] = true
    · rw [q2] at m1
      by_cases q3 : (r.all fun x => memB x digs) = true
      · have e : settle (c0 :: r) = 102 :: r := by
          unfold settle
          rw [if_neg q1, List.headD_cons, List.tail_cons, if_pos (by rw [q2, q3]; rfl)]
        rw [q3] at al
        rw [e]
        refine ⟨_, Eq.trans (b := .ok (.ret (.str (st (102 :: r))), [a0, a1, a2, a3, some (.str (st (c0 :: r))), a5, a6]) h) ?_ rfl⟩
        simp (disch := first | (simp only [List.length_append, List.length_map, List.length_cons, List.length_nil]; omega) | omega) [ss_end, ss_cons, ss_nil, s_ite, s_expr, s_set, s_asg, s_ret, s_frz, evE, evEs, evC, evCA, evCO, evAnd, evOr, evI, evO, evJs, retOf, asgn, asgns, wipe, bat, me_app0, me_ext0, mk_t0, mk_f0, ev_cat, rest37b, rest37, G.d37_law_plain, mt, k2, i0, z_rt, m1, cc, al, sl, z_f, cf]
      · have e : settle (c0 :: r) = c0 :: r := by
          unfold settle
          rw [if_neg q1, List.headD_cons, List.tail_cons, if_neg (by rw [q2, Bool.true_and]; exact q3)]
        have q4 : (r.all fun x => memB x digs) = false := by simpa using q3
        rw [q4] at al
        rw [e]
        refine ⟨_, Eq.trans (b := .ok (.ret (.str (st (c0 :: r))), [a0, a1, a2, a3, some (.str (st (c0 :: r))), a5, a6]) h) ?_ rfl⟩
        simp (disch := first | (simp only [List.length_append, List.length_map, List.length_cons, List.length_nil]; omega) | omega) [ss_end, ss_cons, ss_nil, s_ite, s_expr, s_set, s_asg, s_ret, s_frz, evE, evEs, evC, evCA, evCO, evAnd, evOr, evI, evO, evJs, retOf, asgn, asgns, wipe, bat, me_app0, me_ext0, mk_t0, mk_f0, ev_cat, rest37b, rest37, G.d37_law_plain, mt, k2, i0, z_rt, m1, cc, al]
    · have q2' : memB c0 [114, 116] = false := by simpa using q2
      rw [q2'] at m1
      have e : settle (c0 :: r) = c0 :: r := by
        unfold settle
        rw [if_neg q1, List.headD_cons, List.tail_cons, if_neg (by rw [q2']; simp)]
      rw [e]
      refine ⟨_, Eq.trans (b := .ok (.ret (.str (st (c0 :: r))), [a0, a1, a2, a3, some (.str (st (c0 :: r))), a5, a6]) h) ?_ rfl⟩
      simp (disch := first | (simp only [List.length_append, List.length_map, List.length_cons, List.length_nil]; omega) | omega) [ss_end, ss_cons, ss_nil, s_ite, s_expr, s_set, s_asg, s_ret, s_frz, evE, evEs, evC, evCA, evCO, evAnd, evOr, evI, evO, evJs, retOf, asgn, asgns, wipe, bat, me_app0, me_ext0, mk_t0, mk_f0, ev_cat, rest37b, rest37, G.d37_law_plain, mt, k2, i0, z_rt, m1]
theorem rest_ok {ns : List Int} {b : Nat} {h : Hh} {L : List Nat} (hL : L = smalls ∨ L = caps) {N : List (List Nat)} (hN : ∀ x ∈ N, nameB x = true ∧ memB (x.headD 0) L = true) (n0 : 0 < N.length) (n1 : N.length ≤ 20) (w : Wh ns b h) (hb : b ≤ 800000) :
    ∃ l env' h', evSs ⟨callAt T fuel (k + 1), fuel⟩ rest37 [some (.loc 0), some (.str (st L)), some (.str (st alnum)), some (.lst (N.map sv)), none, none, none] h = .ok (.ret (.str (st l)), env') h' ∧ (nameB l = true ∧ memB (l.headD 0) L = true) ∧ Wh ns (b + 20) h' ∧ Exh0 h h' := by
  have sh : rest37 = .cons (.ite (.val (.cmp .eq (.call 36 (.cons (.var 0) (.cons (.int 6) .nil))) (.int 0))) (.cons (.ret (.idx (.var 3) (.call 36 (.cons (.var 0) (.cons (.bi .len false (.cons (.var 3) .nil)) .nil))))) .nil) .nil) (.cons (.set 4 (.idx (.var 1) (.call 36 (.cons (.var 0) (.cons (.int 26) .nil))))) (.cons G.d37_l1 rest37b)) := rfl
  have L26 : L.length = 26 := by rcases hL with rfl | rfl <;> rfl
  obtain ⟨v, h1, e1, hv, w1, x1⟩ := drawn H (fuel := fuel) (k := k) (M := 6) (m := 6) rfl w (by omega) (by decide) (by decide)
  by_cases z : v = 0
  · subst z
    obtain ⟨v, h2, e2, hv, w2, x2⟩ := drawn H (fuel := fuel) (k := k) (M := N.length) (m := N.length) rfl w1 (by omega) n0 (by omega)
    obtain ⟨l, hl, p⟩ := pick_sv N hv rfl
    refine ⟨l, [some (.loc 0), some (.str (st L)), some (.str (st alnum)), some (.lst (N.map sv)), none, none, none], h2, ?_, hN l hl, w2.mono (by omega), x1.trans x2⟩
    rw [sh]
    have ln : ∀ m, evBi .len m [.lst (N.map sv)] = pure (.int (N.length : Nat)) := fun m => by rw [bi_lenl, List.length_map]
    generalize N.map sv = ws at *
    generalize alnum = al at *
    generalize rest37b = rr at *
    have e1' : callAt T fuel (k + 1) 36 [.loc 0, .int 6] h = .ok (.int 0) h1 := e1
    simp (disch := first | (simp only [List.length_append, List.length_map, List.length_cons, List.length_nil]; omega) | omega) [ss_end, ss_cons, ss_nil, s_ite, s_expr, s_set, s_asg, s_ret, s_frz, evE, evEs, evC, evCA, evCO, evAnd, evOr, evI, evO, evJs, retOf, asgn, asgns, wipe, bat, me_app0, me_ext0, mk_t0, mk_f0, ev_cat, e1', ln, e2, p]
  · obtain ⟨v2, h2, e2, hv2, w2, x2⟩ := drawn H (fuel := fuel) (k := k) (M := 26) (m := 26) rfl w1 (by omega) (by decide) (by decide)
    obtain ⟨c0, hc, p⟩ := pick_st L (v := v2) (by omega) (by omega)
    obtain ⟨r, x, h3, e3, hr, ha, w3, x3⟩ := name_loop H (fuel := fuel) (k := k) (c0 := c0) (a1 := some (.str (st L))) (a3 := some (.lst (N.map sv))) (a5 := none) (a6 := none) w2 (by omega)
    obtain ⟨env', e4⟩ := settle_run (c := ⟨callAt T fuel (k + 1), fuel⟩) (c0 := c0) (r := r) hr (a0 := some (.loc 0)) (a1 := some (.str (st L))) (a2 := some (.str (st alnum))) (a3 := some (.lst (N.map sv))) (a5 := x) (a6 := none) h3
    refine ⟨settle (c0 :: r), env', h3, ?_, settle_ok hL hc ha hr, w3.mono (by omega), (x1.trans x2).trans x3⟩
    rw [sh]
    have t1 : rd (evCmp .eq (.int (v : Nat)) (.int 0)) = pure false := by
      show rd (fun h => some (decide ((v : Int) = 0))) = _
      have : decide ((v : Int) = 0) = false := by simp; omega
      rw [this]; rfl
    generalize N.map sv = ws at *
    generalize alnum = al at *
    generalize rest37b = rr at *
    simp (disch := first | (simp only [List.length_append, List.length_map, List.length_cons, List.length_nil]; omega) | omega) [ss_end, ss_cons, ss_nil, s_ite, s_expr, s_set, s_asg, s_ret, s_frz, evE, evEs, evC, evCA, evCO, evAnd, evOr, evI, evO, evJs, retOf, asgn, asgns, wipe, bat, me_app0, me_ext0, mk_t0, mk_f0, ev_cat, e1, t1, e2, p, e3, e4]
theorem plain_ok {ns : List Int} {b : Nat} {h : Hh} {L : List Nat} (hL : L = smalls ∨ L = caps) (w : Wh ns b h) (hb : b ≤ 800000) :
    ∃ l h', callAt T fuel (k + 2) 37 [.loc 0, .str (st L)] h = .ok (.str (st l)) h' ∧ (nameB l = true ∧ memB (l.headD 0) L = true) ∧ Wh ns (b + 20) h' ∧ Exh0 h h' := by
  have hp := w.pos
  have sh : G.d37_law_plain.body = .cons (.set 2 (.str (Str.ofString "abcdefghijklmnopqrstuvwxyzABCDEFGHIJKLMNOPQRSTUVWXYZ0123456789"))) (.cons (.set 3 (.list false (.cons (.str (Str.ofString "rx")) (.cons (.str (Str.ofString "r1x")) (.cons (.str (Str.ofString "t0b")) (.cons (.str (Str.ofString "into1")) (.cons (.str (Str.ofString "inn")) (.cons (.str (Str.ofString "caseA")) (.cons (.str (Str.ofString "numbers")) (.cons (.str (Str.ofString "fun2")) (.cons (.str (Str.ofString "holdr1")) (.cons (.str (Str.ofString "entry0")) (.cons (.str (Str.ofString "kindA")) (.cons (.str (Str.ofString "tt")) (.cons (.str (Str.ofString "r0t0")) .nil))))))))))))))) (.cons (.ite (.val (.cmp .eq (.idx (.var 1) (.int 0)) (.str (Str.ofString "A")))) (.cons (.set 3 (.list false (.cons (.str (Str.ofString "Kind")) (.cons (.str (Str.ofString "Number")) (.cons (.str (Str.ofString "R1")) (.cons (.str (Str.ofString "T0")) (.cons (.str (Str.ofString "Case")) (.cons (.str (Str.ofString "In")) (.cons (.str (Str.ofString "R")) (.cons (.str (Str.ofString "T")) (.cons (.str (Str.ofString "Hold")) (.cons (.str (Str.ofString "Entry")) (.cons (.str (Str.ofString "R31")) .nil))))))))))))) .nil) .nil) rest37)) := rfl
  have zA : Str.ofString "A" = st [65] := rfl
  have rc : ∃ N : List (List Nat), (∀ x ∈ N, nameB x = true ∧ memB (x.headD 0) L = true) ∧ 0 < N.length ∧ N.length ≤ 20 ∧ ∀ h, evSs ⟨callAt T fuel (k + 1), fuel⟩ G.d37_law_plain.body [some (.loc 0), some (.str (st L)), none, none, none, none, none] h = evSs ⟨callAt T fuel (k + 1), fuel⟩ rest37 [some (.loc 0), some (.str (st L)), some (.str (st alnum)), some (.lst (N.map sv)), none, none, none] h := by
    rcases hL with rfl | rfl
    · refine ⟨nearS, nearS_ok, by decide, by decide, fun h => ?_⟩
      have i0 : rd (evIdx · (.str (st smalls)) (.int 0)) = pure (.str (st [97])) := rd_ixs _ _ (by decide) (by rfl)
      rw [sh, ← nearS_eq]
      generalize rest37 = rr
      generalize smalls = al at *
      simp (disch := first | (simp only [List.length_append, List.length_map, List.length_cons, List.length_nil]; omega) | omega) [ss_end, ss_cons, ss_nil, s_ite, s_expr, s_set, s_asg, s_ret, s_frz, evE, evEs, evC, evCA, evCO, evAnd, evOr, evI, evO, evJs, retOf, asgn, asgns, wipe, bat, me_app0, me_ext0, mk_t0, mk_f0, ev_cat, z_alnum, i0, zA]
    · refine ⟨nearC, nearC_ok, by decide, by decide, fun h => ?_⟩
      have i0 : rd (evIdx · (.str (st caps)) (.int 0)) = pure (.str (st [65])) := rd_ixs _ _ (by decide) (by rfl)
      rw [sh, ← nearC_eq]
      generalize rest37 = rr
      generalize caps = al at *
      simp (disch := first | (simp only [List.length_append, List.length_map, List.length_cons, List.length_nil]; omega) | omega) [ss_end, ss_cons, ss_nil, s_ite, s_expr, s_set, s_asg, s_ret, s_frz, evE, evEs, evC, evCA, evCO, evAnd, evOr, evI, evO, evJs, retOf, asgn, asgns, wipe, bat, me_app0, me_ext0, mk_t0, mk_f0, ev_cat, z_alnum, i0, zA]
  obtain ⟨N, hN, n0, n1, e0⟩ := rc
  obtain ⟨l, env', h', e1, hl, w1, x1⟩ := rest_ok H (fuel := fuel) (k := k) hL hN n0 n1 w hb
  have body : (evSs ⟨callAt T fuel (k + 1), fuel⟩ G.d37_law_plain.body [some (.loc 0), some (.str (st L)), none, none, none, none, none] >>= retOf) h = .ok (.str (st l)) h' := by
    rw [ss_end, e0, e1]; rfl
  obtain ⟨h2, r1, r2, r3, r4⟩ := call_ext (X := fun _ => False) (xs := [.loc 0, .str (st L)]) (k := k + 1) (fuel := fuel) H.t37 rfl hp x1 w1 body
  exact ⟨l, h2, r1, hl, r3, r2⟩
end
end J

set_option autoImplicit false
set_option linter.all false
set_option maxRecDepth 100000
set_option maxHeartbeats 4000000
namespace J
open PySem
/-! ### comprehensions at a heap -/
section
variable {α β : Type} {c : Ctx} {own : List Nat} {elt : E} {t : Tg} {it : It} {cs : Cs} {env : En} {src : Src} {l : List α} {enc : α → PV}
/-- turns that only read -/
theorem clause_h {body : PV → M (List PV)} {g : α → List PV} {h : Hh} (e : itemsOf src = some (l.map enc)) (hb : ∀ a ∈ l, body (enc a) h = .ok (g a) h) : compGo src body (turns h src) 0 h = .ok (l.flatMap g) h := by
  obtain ⟨h1, h2⟩ := items_ok e h
  rw [List.length_map] at h2
  have go : ∀ n i, l.length + 1 ≤ n + i → i ≤ l.length → compGo src body n i h = .ok ((l.drop i).flatMap g) h := by
    intro n
    induction n with
    | zero => intro i hi hi'; omega
    | succ n ih =>
      intro i hi hi'
      simp only [compGo, h1, List.getElem?_map]
      cases q : l[i]? with
      | none =>
        have : l.length ≤ i := by simpa using q
        rw [List.drop_eq_nil_of_le this]; rfl
      | some x =>
        have hx : x ∈ l := List.mem_of_getElem? q
        have hi2 : i < l.length := (List.getElem?_eq_some_iff.mp q).1
        have ex : l[i] = x := (List.getElem?_eq_some_iff.mp q).2
        simp only [Option.map_some]
        rw [bat, hb x hx]
        show (compGo src body n (i + 1) >>= fun zs => pure (g x ++ zs)) h = _
        rw [bat, ih (i + 1) (by omega) hi2, List.drop_eq_getElem_cons hi2, ex]
        rfl
  have := go (turns h src) 0 (by omega) (Nat.zero_le _)
  rw [List.drop_zero] at this
  exact this
theorem comp_h {g : α → List PV} {h : Hh} (hi : evI c it (wipe env own) h = .ok src h) (hx : itemsOf src = some (l.map enc)) (hb : ∀ a ∈ l, (opt (asgn t (enc a) (wipe env own)) >>= fun env' => evCA c cs env' >>= fun b => if b then (evE c elt env' >>= fun y => pure [y]) else pure []) h = .ok (g a) h) (hl : (l.flatMap g).length ≤ 16777216) : evE c (.comp false own elt (.last t it cs)) env h = .ok (.lst (l.flatMap g)) h := by
  show (nox (evI c it (wipe env own) >>= fun src => fun h => compGo src (fun x => opt (asgn t x (wipe env own)) >>= fun env' => evCA c cs env' >>= fun b => if b then (evE c elt env' >>= fun y => pure [y]) else pure []) (turns h src) 0 h) >>= fun xs => mkL false xs) h = _
  have e1 : (evI c it (wipe env own) >>= fun src => fun h => compGo src (fun x => opt (asgn t x (wipe env own)) >>= fun env' => evCA c cs env' >>= fun b => if b then (evE c elt env' >>= fun y => pure [y]) else pure []) (turns h src) 0 h) h = .ok (l.flatMap g) h := by
    rw [bat, hi]
    exact clause_h hx hb
  have e2 : nox (evI c it (wipe env own) >>= fun src => fun h => compGo src (fun x => opt (asgn t x (wipe env own)) >>= fun env' => evCA c cs env' >>= fun b => if b then (evE c elt env' >>= fun y => pure [y]) else pure []) (turns h src) 0 h) h = .ok (l.flatMap g) h := by
    unfold nox
    rw [e1]
  rw [bat, e2]
  show mkL false (l.flatMap g) h = _
  rw [mk_f0 _ hl]; rfl
/-- turns that draw -/
theorem comp_run {encB : β → PV} {R : β → Prop} {P : Nat → Hh → Prop} {z z1 : Hh} (hi : evI c it (wipe env own) z = .ok src z1) (hx : itemsOf src = some (l.map enc)) (h0 : P 0 z1)
    (step : ∀ i a h, l[i]? = some a → P i h → ∃ y h', (opt (asgn t (enc a) (wipe env own)) >>= fun env' => evE c elt env') h = .ok (encB y) h' ∧ R y ∧ P (i + 1) h') (hl : l.length ≤ 16777216) :
    ∃ (ys : List β) (h' : Hh), evE c (.comp false own elt (.last t it .nil)) env z = .ok (.lst (ys.map encB)) h' ∧ ys.length = l.length ∧ (∀ y ∈ ys, R y) ∧ P l.length h' := by
  have go : ∀ n i h, l.length + 1 ≤ n + i → i ≤ l.length → P i h → ∃ (ys : List β) (h' : Hh), compGo src (fun x => opt (asgn t x (wipe env own)) >>= fun env' => evCA c .nil env' >>= fun b => if b then (evE c elt env' >>= fun y => pure [y]) else pure []) n i h = .ok (ys.map encB) h' ∧ ys.length = l.length - i ∧ (∀ y ∈ ys, R y) ∧ P l.length h' := by
    intro n
    induction n with
    | zero => intro i h hi hi' _; omega
    | succ n ih =>
      intro i h hi hi' p
      have it := (items_ok hx h).1 i
      simp only [compGo, it, List.getElem?_map]
      cases q : l[i]? with
      | none =>
        have : l.length ≤ i := by simpa using q
        have : i = l.length := by omega
        subst this
        exact ⟨[], h, rfl, by simp, fun _ m => absurd m List.not_mem_nil, p⟩
      | some a =>
        obtain ⟨y, h1, e1, ry, p1⟩ := step i a h q p
        have hi2 : i < l.length := (List.getElem?_eq_some_iff.mp q).1
        obtain ⟨ys, h2, e2, l2, r2, p2⟩ := ih (i + 1) h1 (by omega) hi2 p1
        have eb : (opt (asgn t (enc a) (wipe env own)) >>= fun env' => evCA c .nil env' >>= fun b => if b then (evE c elt env' >>= fun y => pure [y]) else pure []) h = .ok [encB y] h1 := by
          cases q : asgn t (enc a) (wipe env own) with
          | none => rw [q] at e1; cases e1
          | some env' =>
            rw [q] at e1
            have e : evE c elt env' h = .ok (encB y) h1 := e1
            show (if true then (evE c elt env' >>= fun y => pure [y]) else pure []) h = _
            show (evE c elt env' >>= fun y => pure [y]) h = _
            rw [bat, e]; rfl
        simp only [Option.map_some]
        refine ⟨y :: ys, h2, ?_, by simp only [List.length_cons]; omega, ?_, p2⟩
        · rw [bat, eb]
          show (compGo src _ n (i + 1) >>= fun zs => pure ([encB y] ++ zs)) h1 = _
          rw [bat, e2]; rfl
        · intro x hx
          rw [List.mem_cons] at hx
          rcases hx with rfl | hx
          · exact ry
          · exact r2 x hx
  have h2 := (items_ok hx z1).2
  rw [List.length_map] at h2
  obtain ⟨ys, h', e, ly, ry, p⟩ := go (turns z1 src) 0 z1 (by omega) (Nat.zero_le _) h0
  refine ⟨ys, h', ?_, by omega, ry, p⟩
  show (nox (evI c it (wipe env own) >>= fun src => fun h => compGo src (fun x => opt (asgn t x (wipe env own)) >>= fun env' => evCA c .nil env' >>= fun b => if b then (evE c elt env' >>= fun y => pure [y]) else pure []) (turns h src) 0 h) >>= fun xs => mkL false xs) z = _
  have e2 : nox (evI c it (wipe env own) >>= fun src => fun h => compGo src (fun x => opt (asgn t x (wipe env own)) >>= fun env' => evCA c .nil env' >>= fun b => if b then (evE c elt env' >>= fun y => pure [y]) else pure []) (turns h src) 0 h) z = .ok (ys.map encB) h' := by
    have e3 : (evI c it (wipe env own) >>= fun src => fun h => compGo src (fun x => opt (asgn t x (wipe env own)) >>= fun env' => evCA c .nil env' >>= fun b => if b then (evE c elt env' >>= fun y => pure [y]) else pure []) (turns h src) 0 h) z = .ok (ys.map encB) h' := by
      rw [bat, hi]
      exact e
    unfold nox
    rw [e3]
  rw [bat, e2]
  show mkL false (ys.map encB) h' = _
  rw [mk_f0 _ (by rw [List.length_map]; omega)]; rfl
end
theorem evI_r1' {c : Ctx} {a : E} {env : En} {z z1 : Hh} {n : Nat} (he : evE c a env z = .ok (.int (n : Nat)) z1) (hn : n ≤ 1000) : evI c (.range1 a) env z = .ok (Src.range 0 n) z1 := by
  show (evE c a env >>= fun x => match x with | .int j => if -(2 ^ 62) ≤ j ∧ j < 2 ^ 62 then pure (Src.range 0 j.toNat) else bad | _ => bad) z = _
  rw [bat, he]
  show (if -(2 ^ 62) ≤ (n : Int) ∧ (n : Int) < 2 ^ 62 then pure (Src.range 0 (n : Int).toNat) else bad : M Src) z1 = _
  rw [if_pos (by omega)]
  rfl
theorem rng_items (n : Nat) : itemsOf (Src.range 0 n) = some ((List.range n).map fun (i : Nat) => PV.int (0 + (i : Int))) := rfl
/-! ### a name unlike the others -/
theorem pigeon {α : Type} [DecidableEq α] : ∀ (ws us : List α), ws.Nodup → (∀ w ∈ ws, w ∈ us) → ws.length ≤ us.length
  | [], _, _, _ => Nat.zero_le _
  | w :: ws, us, hn, hm => by
    rw [List.nodup_cons] at hn
    have hw := hm w (by simp)
    have ih := pigeon ws (us.erase w) hn.2 fun x hx => by
      refine (List.mem_erase_of_ne ?_).mpr (hm x (List.mem_cons_of_mem _ hx))
      intro e; subst e; exact hn.1 hx
    have : (us.erase w).length = us.length - 1 := List.length_erase_of_mem hw
    have := List.length_pos_of_mem hw
    simp only [List.length_cons]
    omega
def digN (n : Nat) : List Nat := (Nat.toDigits 10 n).map Char.toNat
theorem num_dig (n : Nat) : numT (n : Int) = digN n := PySem.W.KIN.signs_num n
theorem digs_nodup : ((List.range 100).map digN).Nodup := by decide +kernel
theorem digs_ok : ∀ n ∈ List.range 100, (digN n).length ≤ 2 ∧ (digN n).all (fun x => memB x alnum) = true := by decide +kernel
def fresh (l : List Nat) (n : Nat) : List Nat := l.take 8 ++ digN n
theorem fresh_nodup (l : List Nat) : ((List.range 100).map (fresh l)).Nodup := by
  have e : (List.range 100).map (fresh l) = ((List.range 100).map digN).map (fun x => l.take 8 ++ x) := by rw [List.map_map]; rfl
  rw [e, List.nodup_iff_pairwise_ne, List.pairwise_map]
  refine List.Pairwise.imp ?_ (List.nodup_iff_pairwise_ne.mp digs_nodup)
  intro a b hab e
  exact hab (List.append_cancel_left e)
theorem fresh_some (l : List Nat) {us : List (List Nat)} (h : us.length ≤ 60) : ∃ n ∈ List.range 100, fresh l n ∉ us := by
  cases q : (List.range 100).all (fun n => decide (fresh l n ∈ us)) with
  | false =>
    have q2 : ¬ (∀ n ∈ List.range 100, fresh l n ∈ us) := fun z => by
      have : (List.range 100).all (fun n => decide (fresh l n ∈ us)) = true := by
        rw [List.all_eq_true]; intro n hn; exact decide_eq_true (z n hn)
      rw [this] at q; cases q
    exact Classical.byContradiction fun z => q2 fun n hn => Classical.byContradiction fun y => z ⟨n, hn, y⟩
  | true =>
    rw [List.all_eq_true] at q
    have := pigeon ((List.range 100).map (fresh l)) us (fresh_nodup l) fun w hw => by
      obtain ⟨n, hn, rfl⟩ := List.mem_map.mp hw
      exact of_decide_eq_true (q n hn)
    rw [List.length_map, List.length_range] at this
    omega
theorem keys_c : ∀ k ∈ keysL, memB (k.headD 0) caps = false := fun k hk => (keys_x k hk).2.1
theorem high_cons {l : List Nat} (h : highB l = true) : ∃ c r, l = c :: r ∧ c ∈ caps ∧ (∀ x ∈ l, x ∈ alnum) ∧ l.length ≤ 10 := by
  have hl := high_len h
  unfold highB at h
  rw [Bool.and_eq_true] at h
  obtain ⟨c, r, rfl⟩ := name_cons h.1
  refine ⟨c, r, rfl, memB_iff.mp h.2, ?_, hl⟩
  have h1 := h.1
  simp only [nameB, Bool.and_eq_true] at h1
  have h2 := h1.2
  rw [List.all_eq_true] at h2
  intro x hx
  exact memB_iff.mp (h2 x hx)
theorem high_of {c : Nat} {r : List Nat} (hc : c ∈ caps) (hr : ∀ x ∈ r, x ∈ alnum) (hl : r.length ≤ 9) : highB (c :: r) = true := by
  have a1 : decide ((c :: r).length ≤ 10) = true := by simp only [List.length_cons, decide_eq_true_eq]; omega
  have nk : keysL.contains (c :: r) = false := by
    cases z : keysL.contains (c :: r) with
    | false => rfl
    | true =>
      have := keys_c _ (List.contains_iff_mem.mp z)
      rw [List.headD_cons, memB_iff.mpr hc] at this
      cases this
  have a2 : memB c [114, 116] = false := by
    cases z : memB c [114, 116] with
    | false => rfl
    | true =>
      have : c = 114 ∨ c = 116 := by simpa [memB] using z
      rcases this with rfl | rfl
      · exact absurd hc (by decide)
      · exact absurd hc (by decide)
  have ca : c ∈ smalls ++ caps := by rw [List.mem_append]; exact .inr hc
  have a3 := lets_d c ca
  have a4 : ((c :: r).all fun x => memB x (smalls ++ caps ++ digs)) = true := by
    rw [List.all_eq_true]
    intro x hx
    rw [List.mem_cons] at hx
    rcases hx with rfl | hx
    · exact memB_iff.mpr (by rw [List.mem_append]; exact .inl ca)
    · exact memB_iff.mpr (hr x hx)
  show ((decide ((c :: r).length ≤ 10) && !keysL.contains (c :: r) && !(memB c [114, 116] && r.all fun x => memB x digs) && !memB c digs && (c :: r).all fun x => memB x (smalls ++ caps ++ digs)) && memB c caps) = true
  rw [a1, nk, a2, a3, a4, memB_iff.mpr hc]
  rfl
theorem fresh_high {l : List Nat} (h : highB l = true) {n : Nat} (hn : n ∈ List.range 100) : highB (fresh l n) = true := by
  obtain ⟨c, r, rfl, hc, ha, hl⟩ := high_cons h
  obtain ⟨d1, d2⟩ := digs_ok n hn
  rw [List.all_eq_true] at d2
  have e : fresh (c :: r) n = c :: (r.take 7 ++ digN n) := by simp [fresh]
  rw [e]
  refine high_of hc ?_ (by rw [List.length_append, List.length_take]; omega)
  intro x hx
  rw [List.mem_append] at hx
  rcases hx with hx | hx
  · exact ha x (List.mem_cons_of_mem _ (List.mem_of_mem_take hx))
  · exact memB_iff.mp (d2 x hx)
theorem in_loc {h : Hh} {u : Nat} {us : List (List Nat)} (e : h[u]? = some (.lst (us.map sv))) (l : List Nat) : rd (evCmp .isin (.str (st l)) (.loc u)) h = .ok (decide (l ∈ us)) h := by
  have fl : (us.map sv).all flatP = true := by
    rw [List.all_eq_true]; intro x hx; obtain ⟨w, _, rfl⟩ := List.mem_map.mp hx; rfl
  have an : (us.map sv).any (fun y => eqP y (.str (st l))) = decide (l ∈ us) := by
    clear fl e
    induction us with
    | nil => rfl
    | cons w us ih =>
      rw [List.map_cons, List.any_cons, ih]
      show (st w == st l || decide (l ∈ us)) = _
      rw [st_beq]
      by_cases q : w = l
      · subst q; simp
      · have q' : ¬ l = w := fun z => q z.symm
        simp [q, q']
  show opt (evIn h (.str (st l)) (.loc u)) h = _
  have : evIn h (.str (st l)) (.loc u) = some (decide (l ∈ us)) := by
    show (match getS h (.loc u) with | some xs => if flatP (.str (st l)) && xs.all flatP then some (xs.any fun y => eqP y (.str (st l))) else none | none => none) = _
    have g : getS h (.loc u) = some (us.map sv) := by show getL h (.loc u) = _; simp [getL, e]
    rw [g]
    show (if (true && (us.map sv).all flatP) = true then some ((us.map sv).any fun y => eqP y (.str (st l))) else none) = _
    rw [fl, an]; rfl
  rw [this]; rfl
theorem notin_loc {h : Hh} {u : Nat} {us : List (List Nat)} (e : h[u]? = some (.lst (us.map sv))) (l : List Nat) : rd (evCmp .notin (.str (st l)) (.loc u)) h = .ok (!decide (l ∈ us)) h := by
  have := in_loc e l
  show opt ((evIn h (.str (st l)) (.loc u)).map (!·)) h = _
  change opt (evIn h (.str (st l)) (.loc u)) h = _ at this
  cases q : evIn h (.str (st l)) (.loc u) with
  | none => rw [q] at this; cases this
  | some b =>
    rw [q] at this
    change Out.ok b h = .ok _ h at this
    injection this with t1 t2
    rw [t1]; rfl
theorem slice8 {l : List Nat} (hz : l.length ≤ 100) (m : Bool) : evSlice m (.str (st l)) none (some 8) = pure (.str (st (l.take 8))) := by
  have hz' := sizeL_10 hz
  show (if (st l).length ≤ sizeL then pure (PV.str ⟨(cut (st l).cps.toList none (some 8)).toArray⟩) else bad : M PV) = _
  rw [st_len, if_pos hz', st_tl]
  have : cut l none (some 8) = l.take 8 := by
    simp [cut, HT.sIx]
  rw [this]; rfl
end J

set_option autoImplicit false
set_option linter.all false
set_option maxRecDepth 100000
set_option maxHeartbeats 4000000
namespace J
open PySem
theorem z_caps : Str.ofString "ABCDEFGHIJKLMNOPQRSTUVWXYZ" = st caps := rfl
theorem z_smalls : Str.ofString "abcdefghijklmnopqrstuvwxyz" = st smalls := rfl
theorem flat_if {α : Type} (l : List α) (p : α → Bool) (f : α → PV) : (l.flatMap fun a => if p a then [f a] else []) = (l.filter p).map f := by
  induction l with
  | nil => rfl
  | cons a l ih =>
    rw [List.flatMap_cons, ih]
    cases q : p a with
    | true => simp [q]
    | false => simp [q]
section
variable {T : Nat → Option Fd} {fuel k : Nat} (H : Hd T)
include H
omit H in
theorem c38 {c : Ctx} {h : Hh} {u : Nat} {us : List (List Nat)} (e : h[u]? = some (.lst (us.map sv))) {l : List Nat} (hl : l.length ≤ 20) {a0 a3 : Option PV} : evE c G.d38_c0 [a0, some (.loc u), some (.str (st l)), a3] h = .ok (.lst (((List.range 100).filter fun n => !decide (fresh l n ∈ us)).map fun n => sv (fresh l n))) h := by
  have hz : l.length ≤ 100 := by omega
  have key := comp_h (c := c) (own := [3]) (elt := .bin .add false (.slice false (.var 2) .none (.some (.int 8))) (.bi .str false (.cons (.var 3) .nil))) (t := .name 3) (it := .range1 (.int 100)) (cs := .cons (.val (.cmp .notin (.bin .add false (.slice false (.var 2) .none (.some (.int 8))) (.bi .str false (.cons (.var 3) .nil))) (.var 1))) .nil) (env := [a0, some (.loc u), some (.str (st l)), a3]) (src := Src.range 0 100) (l := List.range 100) (enc := fun (i : Nat) => PV.int (0 + (i : Int))) (g := fun n => if !decide (fresh l n ∈ us) then [sv (fresh l n)] else []) (h := h)
    (evI_r1' (n := 100) (by rfl) (by decide)) (rng_items 100) (fun n hn => by
      have hn' : n < 100 := by simpa using hn
      have nd := num_dig n
      have no : NumOk (n : Int) := num_small (by omega)
      have b0 := fun m => bi_str_i m no
      have sl := fun m => slice8 (l := l) hz m
      have cs := cat_st false (l.take 8) (digN n) (by
        have := (digs_ok n hn).1
        rw [List.length_take]; omega)
      have ni := notin_loc e (fresh l n)
      rw [nd] at b0
      have fr : l.take 8 ++ digN n = fresh l n := rfl
      rw [fr] at cs
      rw [Int.zero_add]
      cases q : decide (fresh l n ∈ us) with
      | true =>
        rw [q] at ni
        generalize fresh l n = fw at *
        simp (disch := first | (simp only [List.length_append, List.length_map, List.length_cons, List.length_nil]; omega) | omega) [ss_end, ss_cons, ss_nil, s_ite, s_expr, s_set, s_asg, s_ret, s_frz, evE, evEs, evC, evCA, evCO, evAnd, evOr, evI, evO, evJs, retOf, asgn, asgns, wipe, bat, me_app0, me_ext0, mk_t0, mk_f0, ev_cat, b0, sl, cs, ni]
      | false =>
        rw [q] at ni
        generalize fresh l n = fw at *
        simp (disch := first | (simp only [List.length_append, List.length_map, List.length_cons, List.length_nil]; omega) | omega) [ss_end, ss_cons, ss_nil, s_ite, s_expr, s_set, s_asg, s_ret, s_frz, evE, evEs, evC, evCA, evCO, evAnd, evOr, evI, evO, evJs, retOf, asgn, asgns, wipe, bat, me_app0, me_ext0, mk_t0, mk_f0, ev_cat, b0, sl, cs, ni]) (by
      rw [flat_if, List.length_map]
      exact Nat.le_trans (List.length_filter_le _ _) (by decide))
  rw [flat_if] at key
  exact key
theorem unlike_ok {ns : List Int} {b : Nat} {h : Hh} {u : Nat} {us : List (List Nat)} (w : Wh ns b h) (hb : b ≤ 700000) (u0 : 0 < u) (e : h[u]? = some (.lst (us.map sv))) (hu : us.length ≤ 60) :
    ∃ l h', callAt T fuel (k + 3) 38 [.loc 0, .loc u] h = .ok (.str (st l)) h' ∧ highB l = true ∧ l ∉ us ∧ h'[u]? = some (.lst ((us ++ [l]).map sv)) ∧ Wh ns (b + 20) h' ∧ Exh (fun j => j = u) h h' := by
  obtain ⟨l, h1, e1, ⟨hl1, hl2⟩, w1, x1⟩ := plain_ok H (fuel := fuel) (k := k) (L := caps) (.inr rfl) w (by omega)
  have ul := len_ge e
  have hl : highB l = true := by unfold highB; rw [hl1, hl2]; rfl
  have f1 : h1[u]? = some (.lst (us.map sv)) := by rw [x1.2 u u0 ul (fun f => f)]; exact e
  have l10 := high_len hl
  have rv : rd (recvB .append (.loc u)) h1 = .ok () h1 := rv_loc f1 (by decide)
  have step : ∃ w, highB w = true ∧ w ∉ us ∧ (evSs ⟨callAt T fuel (k + 2), fuel⟩ G.d38_law_unlike.body [some (.loc 0), some (.loc u), none, none] >>= retOf) h = .ok (.str (st w)) (h1.set u (.lst (us.map sv ++ [.str (st w)]))) := by
    by_cases q : l ∈ us
    · have i0 := in_loc f1 l
      rw [decide_eq_true q] at i0
      have c0 := fun a0 a3 => c38 (c := ⟨callAt T fuel (k + 2), fuel⟩) f1 (l := l) (by omega) (a0 := a0) (a3 := a3)
      obtain ⟨n, hn, nm⟩ := fresh_some l (us := us) (by omega)
      have fne : ((List.range 100).filter fun n => !decide (fresh l n ∈ us)) ≠ [] := by
        intro z
        have : n ∈ ((List.range 100).filter fun n => !decide (fresh l n ∈ us)) := List.mem_filter.mpr ⟨hn, by simp [nm]⟩
        rw [z] at this; cases this
      cases z : ((List.range 100).filter fun n => !decide (fresh l n ∈ us)) with
      | nil => exact absurd z fne
      | cons y ys =>
        have hy : y ∈ ((List.range 100).filter fun n => !decide (fresh l n ∈ us)) := by rw [z]; simp
        obtain ⟨y1, y2⟩ := List.mem_filter.mp hy
        rw [z, List.map_cons] at c0
        have p0 : rd (evIdx · (.lst (sv (fresh l y) :: ys.map fun n => sv (fresh l n))) (.int 0)) = pure (sv (fresh l y)) := rd_ixl _ _ (by simp)
        have ap := me_app (.str (st (fresh l y))) f1 (by rw [List.length_map]; exact Nat.le_trans (by omega : _ ≤ 100) (by decide))
        refine ⟨fresh l y, fresh_high hl y1, by simpa using y2, ?_⟩
        generalize fresh l y = fy at *
        generalize (ys.map fun n => sv (fresh l n)) = yl at *
        simp (disch := first | (simp only [List.length_append, List.length_map, List.length_cons, List.length_nil]; omega) | omega) [ss_end, ss_cons, ss_nil, s_ite, s_expr, s_set, s_asg, s_ret, s_frz, evE, evEs, evC, evCA, evCO, evAnd, evOr, evI, evO, evJs, retOf, asgn, asgns, wipe, bat, me_app0, me_ext0, mk_t0, mk_f0, ev_cat, G.d38_law_unlike, z_caps, e1, i0, c0, p0, rv, ap]
    · have i0 := in_loc f1 l
      rw [decide_eq_false q] at i0
      have ap := me_app (.str (st l)) f1 (by rw [List.length_map]; exact Nat.le_trans (by omega : _ ≤ 100) (by decide))
      refine ⟨l, hl, q, ?_⟩
      simp (disch := first | (simp only [List.length_append, List.length_map, List.length_cons, List.length_nil]; omega) | omega) [ss_end, ss_cons, ss_nil, s_ite, s_expr, s_set, s_asg, s_ret, s_frz, evE, evEs, evC, evCA, evCO, evAnd, evOr, evI, evO, evJs, retOf, asgn, asgns, wipe, bat, me_app0, me_ext0, mk_t0, mk_f0, ev_cat, G.d38_law_unlike, z_caps, e1, i0, rv, ap]
  obtain ⟨x, hx, nx, body⟩ := step
  have ul1 := len_ge f1
  obtain ⟨h2, r1, r2, r3, r4⟩ := call_ext (X := fun j => j = u) (xs := [.loc 0, .loc u]) (k := k + 2) (fuel := fuel) (ns := ns) (b := b + 20) H.t38 rfl w.pos (v := PV.str (st x)) (h' := h1.set u (.lst (us.map sv ++ [PV.str (st x)]))) (x1.wk.trans (Exh.set h1 _ rfl)) (w1.set u0 _) body
  refine ⟨x, h2, r1, hx, nx, ?_, r3, r2⟩
  rw [r4 u ul, List.getElem?_set_self ul1, List.map_append]; rfl
end
end J

set_option autoImplicit false
set_option linter.all false
set_option maxRecDepth 100000
set_option maxHeartbeats 4000000
namespace J
open PySem
theorem alloc_s {c : Ctx} {env : En} {h : Hh} {i : Nat} (hi : i < env.length) : evS c (.set i (.list true .nil)) env h = .ok (.next, env.set i (some (.loc h.length))) (h ++ [.lst []]) := by
  rw [s_set]
  have : evE c (.list true .nil) env h = .ok (.loc h.length) (h ++ [.lst []]) := by simp (disch := first | (simp only [List.length_append, List.length_map, List.length_cons, List.length_nil]; omega) | omega) [ss_end, ss_cons, ss_nil, s_ite, s_expr, s_set, s_asg, s_ret, s_frz, evE, evEs, evC, evCA, evCO, evAnd, evOr, evI, evO, evJs, retOf, asgn, asgns, wipe, bat, me_app0, me_ext0, mk_t0, mk_f0, ev_cat]
  rw [this, kE_ok, if_pos hi]
theorem frz_s {c : Ctx} {env : En} {h : Hh} {i n : Nat} {xs : List PV} (he : env[i]? = some (some (.loc n))) (hn : h[n]? = some (.lst xs)) : evS c (.frz i) env h = .ok (.next, env.set i (some (.lst xs))) (h.set n .dead) := by
  rw [s_frz, he]
  show (match h[n]? with
      | some (.lst xs) => Out.ok (Fl.next, env.set i (some (.lst xs))) (h.set n .dead)
      | some (.dct ks vs) => .ok (.next, env.set i (some (.dct ks vs))) (h.set n .dead)
      | _ => .bad) = _
  rw [hn]
theorem al_new (h : Hh) (c : Cell) : (h ++ [c])[h.length]? = some c := by simp
theorem al_old {h : Hh} {t : Hh} {j : Nat} {c : Cell} (e : h[j]? = some c) : (h ++ t)[j]? = some c := by rw [List.getElem?_append_left (len_ge e)]; exact e
theorem set_other {h : Hh} {i j : Nat} {c d : Cell} (e : h[j]? = some d) (n : i ≠ j) : (h.set i c)[j]? = some d := by rw [List.getElem?_set_ne n]; exact e
theorem set_same {h : Hh} {i : Nat} {c d : Cell} (e : h[i]? = some d) : (h.set i c)[i]? = some c := by rw [List.getElem?_set_self (len_ge e)]
section
variable {T : Nat → Option Fd} {fuel k : Nat} (H : Hd T)
include H
theorem heads_loop {ns : List Int} {b : Nat} {h : Hh} {u : Nat} (w : Wh ns b h) (hb : b ≤ 600000) (u0 : 0 < u) (e : h[u]? = some (.lst [])) {x2 x3 x4 x5 x6 x7 x8 x9 : Option PV} :
    ∃ (hs : List (List Nat)) (x : Option PV) (h' : Hh), evS ⟨callAt T fuel (k + 3), fuel⟩ G.d39_l1 [some (.loc 0), some (.loc u), x2, x3, x4, x5, x6, x7, x8, x9] h = .ok (.next, [some (.loc 0), some (.loc u), x, x3, x4, x5, x6, x7, x8, x9]) h' ∧ h'[u]? = some (.lst (hs.map sv)) ∧ 1 ≤ hs.length ∧ hs.length ≤ 6 ∧ hs.Nodup ∧ (∀ x ∈ hs, highB x = true) ∧ Wh ns (b + 200) h' ∧ Exh (fun j => j = u) h h' := by
  obtain ⟨v, h1, e1, hv, w1, x1⟩ := drawn H (fuel := fuel) (k := k + 2) (M := 5) (m := 5) rfl w (by omega) (by decide) (by decide)
  obtain ⟨n, hn, p⟩ := pick_nat [1, 1, 2, 3, 6] hv (xs := [.int 1, .int 1, .int 2, .int 3, .int 6]) rfl
  have n6 : 1 ≤ n ∧ n ≤ 6 := by
    simp only [List.mem_cons, List.not_mem_nil, or_false] at hn
    omega
  have f1 : h1[u]? = some (.lst []) := by rw [x1.2 u u0 (len_ge e) (fun f => f)]; exact e
  obtain ⟨env', h', e2, ⟨hs, x, hx, hc, hl, hd, ha, hw, he⟩⟩ := rng_loop (c := ⟨callAt T fuel (k + 3), fuel⟩) (t := .name 2) (a := .idx (.list false (.cons (.int 1) (.cons (.int 1) (.cons (.int 2) (.cons (.int 3) (.cons (.int 6) .nil)))))) (.call 36 (.cons (.var 0) (.cons (.int 5) .nil)))) (body := G.d39_b0) (n := n) (z := h) (z1 := h1) (env := [some (.loc 0), some (.loc u), x2, x3, x4, x5, x6, x7, x8, x9])
    (P := fun i env z => ∃ (hs : List (List Nat)) (x : Option PV), env = [some (.loc 0), some (.loc u), x, x3, x4, x5, x6, x7, x8, x9] ∧ z[u]? = some (.lst (hs.map sv)) ∧ hs.length = i ∧ hs.Nodup ∧ (∀ x ∈ hs, highB x = true) ∧ Wh ns (b + 1 + 20 * i) z ∧ Exh (fun j => j = u) h z)
    (by simp (disch := first | (simp only [List.length_append, List.length_map, List.length_cons, List.length_nil]; omega) | omega) [ss_end, ss_cons, ss_nil, s_ite, s_expr, s_set, s_asg, s_ret, s_frz, evE, evEs, evC, evCA, evCO, evAnd, evOr, evI, evO, evJs, retOf, asgn, asgns, wipe, bat, me_app0, me_ext0, mk_t0, mk_f0, ev_cat, e1, p]) (by omega) ⟨[], x2, rfl, f1, rfl, List.nodup_nil, (fun _ h => absurd h List.not_mem_nil), w1, x1.wk⟩
    (fun i env z hi ⟨hs, x, hx, hc, hl, hd, ha, hw, he⟩ => by
      subst hx
      obtain ⟨l, h2, r1, r2, r3, r4, r5, r6⟩ := unlike_ok H (fuel := fuel) (k := k) hw (by omega) u0 hc (by omega)
      refine ⟨[some (.loc 0), some (.loc u), some (.int (i : Nat)), x3, x4, x5, x6, x7, x8, x9], h2, ?_, hs ++ [l], _, rfl, r4, by simp [hl], ?_, ?_, r5.mono (by omega), he.trans r6⟩
      · simp (disch := first | (simp only [List.length_append, List.length_map, List.length_cons, List.length_nil]; omega) | omega) [ss_end, ss_cons, ss_nil, s_ite, s_expr, s_set, s_asg, s_ret, s_frz, evE, evEs, evC, evCA, evCO, evAnd, evOr, evI, evO, evJs, retOf, asgn, asgns, wipe, bat, me_app0, me_ext0, mk_t0, mk_f0, ev_cat, G.d39_b0, r1]
      · rw [List.nodup_append]
        refine ⟨hd, by simp, fun a ha b hb => ?_⟩
        simp only [List.mem_cons, List.not_mem_nil, or_false] at hb
        subst hb
        intro e; subst e; exact r3 ha
      · intro y hy
        rw [List.mem_append] at hy
        rcases hy with hy | hy
        · exact ha y hy
        · simp only [List.mem_cons, List.not_mem_nil, or_false] at hy
          subst hy; exact r2)
  subst hx
  exact ⟨hs, x, h', e2, hc, by omega, by omega, hd, ha, hw.mono (by omega), he⟩
theorem fields_comp {ns : List Int} {b : Nat} {h : Hh} {so : List (List Nat)} (w : Wh ns b h) (hb : b ≤ 600000) (s0 : 0 < so.length) (s1 : so.length ≤ 20) {a1 a2 a3 a4 a5 a6 a8 a9 : Option PV} :
    ∃ (fs : List (List Nat)) (h' : Hh), evE ⟨callAt T fuel (k + 1), fuel⟩ G.d39_c2 [some (.loc 0), a1, a2, a3, a4, a5, a6, some (.lst (so.map sv)), a8, a9] h = .ok (.lst (fs.map sv)) h' ∧ fs.length ≤ 4 ∧ (∀ f ∈ fs, f ∈ so) ∧ Wh ns (b + 10) h' ∧ Exh0 h h' := by
  obtain ⟨n, h1, e1, hn, w1, x1⟩ := drawn H (fuel := fuel) (k := k) (M := 5) (m := 5) rfl w (by omega) (by decide) (by decide)
  have ln : ∀ m, evBi .len m [.lst (so.map sv)] = pure (.int (so.length : Nat)) := fun m => by rw [bi_lenl, List.length_map]
  obtain ⟨fs, h', e2, l2, hr, hw, he⟩ := comp_run (c := ⟨callAt T fuel (k + 1), fuel⟩) (own := [9]) (elt := .idx (.var 7) (.call 36 (.cons (.var 0) (.cons (.bi .len false (.cons (.var 7) .nil)) .nil)))) (t := .name 9) (it := .range1 (.call 36 (.cons (.var 0) (.cons (.int 5) .nil)))) (env := [some (.loc 0), a1, a2, a3, a4, a5, a6, some (.lst (so.map sv)), a8, a9]) (src := Src.range 0 n) (l := List.range n) (enc := fun (i : Nat) => PV.int (0 + (i : Int))) (encB := sv) (R := fun f => f ∈ so) (P := fun i z => Wh ns (b + 1 + i) z ∧ Exh0 h z) (z := h) (z1 := h1)
    (evI_r1' (n := n) (by simp (disch := first | (simp only [List.length_append, List.length_map, List.length_cons, List.length_nil]; omega) | omega) [ss_end, ss_cons, ss_nil, s_ite, s_expr, s_set, s_asg, s_ret, s_frz, evE, evEs, evC, evCA, evCO, evAnd, evOr, evI, evO, evJs, retOf, asgn, asgns, wipe, bat, me_app0, me_ext0, mk_t0, mk_f0, ev_cat, e1]) (by omega)) (rng_items n) ⟨w1, x1⟩
    (fun i a z ha ⟨hw, he⟩ => by
      have hi : i < n := by
        have := len_ge' ha
        rwa [List.length_range] at this
      obtain ⟨v, h2, r1, hv, w2, x2⟩ := drawn H (fuel := fuel) (k := k) (M := so.length) (m := so.length) rfl hw (by omega) s0 (by omega)
      obtain ⟨f, hf, p⟩ := pick_sv so hv rfl
      refine ⟨f, h2, ?_, hf, w2.mono (by omega), he.trans x2⟩
      generalize so.map sv = sm at *
      simp (disch := first | (simp only [List.length_append, List.length_map, List.length_cons, List.length_nil]; omega) | omega) [ss_end, ss_cons, ss_nil, s_ite, s_expr, s_set, s_asg, s_ret, s_frz, evE, evEs, evC, evCA, evCO, evAnd, evOr, evI, evO, evJs, retOf, asgn, asgns, wipe, bat, me_app0, me_ext0, mk_t0, mk_f0, ev_cat, ln, r1, p]) (by rw [List.length_range]; omega)
  rw [List.length_range] at l2 hw
  exact ⟨fs, h', e2, by omega, hr, hw.mono (by omega), he⟩
where
  len_ge' {α : Type} {l : List α} {i : Nat} {a : α} (h : l[i]? = some a) : i < l.length := (List.getElem?_eq_some_iff.mp h).1
end
end J

set_option autoImplicit false
set_option linter.all false
set_option maxRecDepth 100000
set_option maxHeartbeats 4000000
namespace J
open PySem
theorem mk_tf (xs : List PV) (hz : xs.length ≤ 16777216) : mkT xs = pure (.tup xs) := mk_t xs hz
theorem high_word {l : List Nat} (h : highB l = true) : wordB l = true := by unfold wordB; rw [h]; simp
theorem num_word : wordB numL = true := by decide
def MkIn (hs : List (List Nat)) (m : Mk) : Prop := MkOk m ∧ ∀ f ∈ m.2, f = numL ∨ f ∈ hs
section
variable {T : Nat → Option Fd} {fuel k : Nat} (H : Hd T)
include H
theorem maker_loop {ns : List Int} {b : Nat} {h : Hh} {hs : List (List Nat)} {um ut : Nat} {T0 : List (List Nat)} (hh : ∀ x ∈ hs, highB x = true) (hn : hs.length ≤ 6) (w : Wh ns b h) (hb : b ≤ 500000) (m0 : 0 < um) (t0 : 0 < ut) (mt : um ≠ ut) (em : h[um]? = some (.lst [])) (et : h[ut]? = some (.lst (T0.map sv))) (td : T0.Nodup) (tl : T0.length ≤ 36) {x2 a4 a5 x7 x8 a9 : Option PV} :
    ∃ (ms : List Mk) (y2 y7 y8 : Option PV) (h' : Hh), evS ⟨callAt T fuel (k + 3), fuel⟩ G.d39_l4 [some (.loc 0), some (.lst (hs.map sv)), x2, some (.loc ut), a4, a5, some (.loc um), x7, x8, a9] h = .ok (.next, [some (.loc 0), some (.lst (hs.map sv)), y2, some (.loc ut), a4, a5, some (.loc um), y7, y8, a9]) h' ∧ h'[um]? = some (.lst (ms.map encM)) ∧ h'[ut]? = some (.lst ((T0 ++ ms.map (·.1)).map sv)) ∧ 1 ≤ ms.length ∧ ms.length ≤ 6 ∧ (T0 ++ ms.map (·.1)).Nodup ∧ (∀ m ∈ ms, MkIn hs m) ∧ Wh ns (b + 300) h' ∧ Exh (fun j => j = um ∨ j = ut) h h' := by
  obtain ⟨v, h1, e1, hv, w1, x1⟩ := drawn H (fuel := fuel) (k := k + 2) (M := 4) (m := 4) rfl w (by omega) (by decide) (by decide)
  obtain ⟨n, hn4, p⟩ := pick_nat [1, 2, 3, 6] hv (xs := [.int 1, .int 2, .int 3, .int 6]) rfl
  have n6 : 1 ≤ n ∧ n ≤ 6 := by
    simp only [List.mem_cons, List.not_mem_nil, or_false] at hn4
    omega
  have fm : h1[um]? = some (.lst []) := by rw [x1.2 um m0 (len_ge em) (fun f => f)]; exact em
  have ft : h1[ut]? = some (.lst (T0.map sv)) := by rw [x1.2 ut t0 (len_ge et) (fun f => f)]; exact et
  obtain ⟨env', h', e2, ⟨ms, y2, y7, y8, hx, hm, ht, hl, hd, ha, hw, he⟩⟩ := rng_loop (c := ⟨callAt T fuel (k + 3), fuel⟩) (t := .name 2) (a := .idx (.list false (.cons (.int 1) (.cons (.int 2) (.cons (.int 3) (.cons (.int 6) .nil))))) (.call 36 (.cons (.var 0) (.cons (.int 4) .nil)))) (body := G.d39_b3) (n := n) (z := h) (z1 := h1) (env := [some (.loc 0), some (.lst (hs.map sv)), x2, some (.loc ut), a4, a5, some (.loc um), x7, x8, a9])
    (P := fun i env z => ∃ (ms : List Mk) (y2 y7 y8 : Option PV), env = [some (.loc 0), some (.lst (hs.map sv)), y2, some (.loc ut), a4, a5, some (.loc um), y7, y8, a9] ∧ z[um]? = some (.lst (ms.map encM)) ∧ z[ut]? = some (.lst ((T0 ++ ms.map (·.1)).map sv)) ∧ ms.length = i ∧ (T0 ++ ms.map (·.1)).Nodup ∧ (∀ m ∈ ms, MkIn hs m) ∧ Wh ns (b + 1 + 40 * i) z ∧ Exh (fun j => j = um ∨ j = ut) h z)
    (by simp (disch := first | (simp only [List.length_append, List.length_map, List.length_cons, List.length_nil]; omega) | omega) [ss_end, ss_cons, ss_nil, s_ite, s_expr, s_set, s_asg, s_ret, s_frz, evE, evEs, evC, evCA, evCO, evAnd, evOr, evI, evO, evJs, retOf, asgn, asgns, wipe, bat, me_app0, me_ext0, mk_t0, mk_f0, ev_cat, e1, p]) (by omega) ⟨[], x2, x7, x8, rfl, fm, by simpa using ft, rfl, by simpa using td, (fun _ h => absurd h List.not_mem_nil), w1, x1.wk⟩
    (fun i env z hi ⟨ms, y2, y7, y8, hx, hm, ht, hl, hd, ha, hw, he⟩ => by
      subst hx
      have so : [sv numL] ++ hs.map sv = (numL :: hs).map sv := rfl
      obtain ⟨fs, h2, e2, l2, hf, w2, x2⟩ := fields_comp H (fuel := fuel) (k := k + 2) (so := numL :: hs) hw (by omega) (by simp) (by simp only [List.length_cons]; omega) (a1 := some (.lst (hs.map sv))) (a2 := some (.int (i : Nat))) (a3 := some (.loc ut)) (a4 := a4) (a5 := a5) (a6 := some (.loc um)) (a8 := y8) (a9 := a9)
      have gm : h2[um]? = some (.lst (ms.map encM)) := by rw [x2.2 um m0 (len_ge hm) (fun f => f)]; exact hm
      have gt : h2[ut]? = some (.lst ((T0 ++ ms.map (·.1)).map sv)) := by rw [x2.2 ut t0 (len_ge ht) (fun f => f)]; exact ht
      obtain ⟨l, h3, r1, r2, r3, r4, r5, r6⟩ := unlike_ok H (fuel := fuel) (k := k) w2 (by omega) t0 gt (by rw [List.length_append, List.length_map]; omega)
      have km : h3[um]? = some (.lst (ms.map encM)) := by rw [r6.2 um m0 (len_ge gm) (fun f => mt f)]; exact gm
      have rv : rd (recvB .append (.loc um)) h2 = .ok () h2 := rv_loc gm (by decide)
      have bt : ∀ m, evBi .tuple m [.lst (fs.map sv)] = pure (.tup (fs.map sv)) := fun m => bi_tup m _ (by rw [List.length_map]; exact sizeL_10 (by omega))
      have ap := me_app (.tup [.str (st l), .tup (fs.map sv)]) km (by rw [List.length_map]; exact Nat.le_trans (by omega : _ ≤ 100) (by decide))
      refine ⟨[some (.loc 0), some (.lst (hs.map sv)), some (.int (i : Nat)), some (.loc ut), a4, a5, some (.loc um), some (.lst ((numL :: hs).map sv)), some (.lst (fs.map sv)), a9], h3.set um (.lst (ms.map encM ++ [.tup [.str (st l), .tup (fs.map sv)]])), ?_, ms ++ [(l, fs)], _, _, _, rfl, ?_, ?_, by simp [hl], ?_, ?_, (r5.set m0 _).mono (by omega), (he.trans x2.wk).trans ((r6.weak fun j hj => .inr hj).trans (Exh.set _ _ (.inl rfl)))⟩
      · have hsl : (hs.map sv).length ≤ 6 := by rw [List.length_map]; exact hn
        rw [List.map_cons] at e2 ⊢
        generalize hs.map sv = hv at *
        generalize fs.map sv = fv at *
        generalize ms.map encM = mv at *
        simp (disch := first | (simp only [List.length_append, List.length_map, List.length_cons, List.length_nil]; omega) | omega) [ss_end, ss_cons, ss_nil, s_ite, s_expr, s_set, s_asg, s_ret, s_frz, evE, evEs, evC, evCA, evCO, evAnd, evOr, evI, evO, evJs, retOf, asgn, asgns, wipe, bat, me_app0, me_ext0, mk_t0, mk_f0, ev_cat, G.d39_b3, s_num, e2, r1, rv, bt, ap, mk_tf]
      · rw [set_same km, List.map_append]; rfl
      · rw [set_other r4 mt]
        simp
      · have e4 : T0 ++ (ms ++ [(l, fs)]).map (·.1) = (T0 ++ ms.map (·.1)) ++ [l] := by simp
        rw [e4, List.nodup_append]
        refine ⟨hd, by simp, fun a ha b hb => ?_⟩
        simp only [List.mem_cons, List.not_mem_nil, or_false] at hb
        subst hb
        intro e; subst e; exact r3 ha
      · intro m hm
        rw [List.mem_append] at hm
        rcases hm with hm | hm
        · exact ha m hm
        · simp only [List.mem_cons, List.not_mem_nil, or_false] at hm
          subst hm
          refine ⟨⟨r2, l2, fun f hm => ?_⟩, fun f hm => ?_⟩
          · have := hf f hm
            rw [List.mem_cons] at this
            rcases this with rfl | this
            · exact num_word
            · exact high_word (hh f this)
          · have := hf f hm
            rw [List.mem_cons] at this
            exact this)
  subst hx
  exact ⟨ms, y2, y7, y8, h', e2, hm, ht, by omega, by omega, hd, ha, hw.mono (by omega), he⟩
omit H in
theorem names_snoc (ks : List Kd) (q : Kd) : namesK (ks ++ [q]) = namesK ks ++ [q.1] := by simp [namesK]
omit H in
theorem titles_snoc (ks : List Kd) (q : Kd) : titlesK (ks ++ [q]) = titlesK ks ++ q.2.map (·.1) := by simp [titlesK]
omit H in
theorem words_snoc (ks : List Kd) (q : Kd) : wordsK (ks ++ [q]) = wordsK ks ++ q.2.flatMap (·.2) := by simp [wordsK]
omit H in
theorem titles_le6 {ks : List Kd} (h : ∀ q ∈ ks, KdOk q) : (titlesK ks).length ≤ ks.length * 6 := flat_le fun q hq => by
  rw [List.length_map]; exact (h q hq).l
theorem kind_loop {ns : List Int} {b : Nat} {h : Hh} {hs : List (List Nat)} {ut uk : Nat} (hh : ∀ x ∈ hs, highB x = true) (hn : hs.length ≤ 6) (w : Wh ns b h) (hb : b ≤ 400000) (t0 : 0 < ut) (k0 : 0 < uk) (tk : ut ≠ uk) (et : h[ut]? = some (.lst [])) (ek : h[uk]? = some (.lst [])) {x2 x5 x6 x7 x8 : Option PV} :
    ∃ (ks : List Kd) (y2 y5 y6 y7 y8 : Option PV) (h' : Hh), evS ⟨callAt T fuel (k + 3), fuel⟩ G.d39_l6 [some (.loc 0), some (.lst (hs.map sv)), x2, some (.loc ut), some (.loc uk), x5, x6, x7, x8, none] h = .ok (.next, [some (.loc 0), some (.lst (hs.map sv)), y2, some (.loc ut), some (.loc uk), y5, y6, y7, y8, none]) h' ∧ h'[uk]? = some (.lst (ks.map encK)) ∧ namesK ks = hs ∧ (titlesK ks).Nodup ∧ (∀ q ∈ ks, KdOk q) ∧ (∀ x ∈ wordsK ks, x = numL ∨ x ∈ hs) ∧ Wh ns (b + 2000) h' ∧ Exh (fun j => j = ut ∨ j = uk) h h' := by
  obtain ⟨env', h', e, ⟨ks, y2, y5, y6, y7, y8, hx, hk, ht, hl, hnm, hd, ha, hwd, hw, he⟩⟩ := for_run (src := .seq (.lst (hs.map sv))) (body := fun x env => opt (asgn (.name 5) x env) >>= fun env' => evSs ⟨callAt T fuel (k + 3), fuel⟩ G.d39_b5 env') (l := hs) (enc := sv)
    (P := fun i env z => ∃ (ks : List Kd) (y2 y5 y6 y7 y8 : Option PV), env = [some (.loc 0), some (.lst (hs.map sv)), y2, some (.loc ut), some (.loc uk), y5, y6, y7, y8, none] ∧ z[uk]? = some (.lst (ks.map encK)) ∧ z[ut]? = some (.lst ((titlesK ks).map sv)) ∧ ks.length = i ∧ namesK ks = hs.take i ∧ (titlesK ks).Nodup ∧ (∀ q ∈ ks, KdOk q) ∧ (∀ x ∈ wordsK ks, x = numL ∨ x ∈ hs) ∧ Wh ns (b + 300 * i) z ∧ Exh (fun j => j = ut ∨ j = uk) h z) rfl
    (fun i hd0 env z hm ⟨ks, y2, y5, y6, y7, y8, hx, hk, ht, hl, hnm, hd, ha, hwd, hw, he⟩ => by
      subst hx
      have hi : i < hs.length := (List.getElem?_eq_some_iff.mp hm).1
      have mh : hd0 ∈ hs := List.mem_of_getElem? hm
      have lk := len_ge hk
      have lt := len_ge ht
      have tl := titles_le6 ha
      obtain ⟨ms, v2, v7, v8, h2, e2, em, et2, m1, m6, md, mi, w2, x2⟩ := maker_loop H (fuel := fuel) (k := k) (h := z ++ [.lst []]) (um := z.length) (ut := ut) (T0 := titlesK ks) hh hn (hw.app _) (by omega) (hw.pos) t0 (by omega) (al_new z _) (al_old ht) hd (by omega) (x2 := y2) (a4 := some (.loc uk)) (a5 := some (sv hd0)) (x7 := y7) (x8 := y8) (a9 := none)
      have kk : h2[uk]? = some (.lst (ks.map encK)) := by
        rw [x2.2 uk k0 (by rw [List.length_append]; omega) (fun f => by rcases f with f | f <;> omega)]
        exact al_old hk
      have kk2 : (h2.set z.length .dead)[uk]? = some (.lst (ks.map encK)) := set_other kk (by omega)
      have tt2 : (h2.set z.length .dead)[ut]? = some (.lst ((titlesK ks ++ ms.map (·.1)).map sv)) := set_other et2 (by omega)
      have rv : rd (recvB .append (.loc uk)) (h2.set z.length .dead) = .ok () (h2.set z.length .dead) := rv_loc kk2 (by decide)
      have bt : ∀ m, evBi .tuple m [.lst (ms.map encM)] = pure (.tup (ms.map encM)) := fun m => bi_tup m _ (by rw [List.length_map]; exact sizeL_10 (by omega))
      have ap := me_app (.tup [.str (st hd0), .tup (ms.map encM)]) kk2 (by rw [List.length_map]; exact Nat.le_trans (by omega : _ ≤ 100) (by decide))
      have q1 := alloc_s (c := ⟨callAt T fuel (k + 3), fuel⟩) (env := [some (.loc 0), some (.lst (hs.map sv)), y2, some (.loc ut), some (.loc uk), some (sv hd0), y6, y7, y8, none]) (h := z) (i := 6) (by simp)
      have q3 := frz_s (c := ⟨callAt T fuel (k + 3), fuel⟩) (env := [some (.loc 0), some (.lst (hs.map sv)), v2, some (.loc ut), some (.loc uk), some (sv hd0), some (.loc z.length), v7, v8, none]) (h := h2) (i := 6) rfl em
      have q4 : evS ⟨callAt T fuel (k + 3), fuel⟩ (.expr (.me .append (.var 4) (.cons (.tup (.cons (.var 5) (.cons (.bi .tuple false (.cons (.var 6) .nil)) .nil))) .nil))) [some (.loc 0), some (.lst (hs.map sv)), v2, some (.loc ut), some (.loc uk), some (sv hd0), some (.lst (ms.map encM)), v7, v8, none] (h2.set z.length .dead) = .ok (.next, [some (.loc 0), some (.lst (hs.map sv)), v2, some (.loc ut), some (.loc uk), some (sv hd0), some (.lst (ms.map encM)), v7, v8, none]) ((h2.set z.length .dead).set uk (.lst (ks.map encK ++ [.tup [.str (st hd0), .tup (ms.map encM)]]))) := by
        generalize h2.set z.length .dead = h3 at *
        generalize ms.map encM = mv at *
        simp (disch := first | (simp only [List.length_append, List.length_map, List.length_cons, List.length_nil]; omega) | omega) [ss_end, ss_cons, ss_nil, s_ite, s_expr, s_set, s_asg, s_ret, s_frz, evE, evEs, evC, evCA, evCO, evAnd, evOr, evI, evO, evJs, retOf, asgn, asgns, wipe, bat, me_app0, me_ext0, mk_t0, mk_f0, ev_cat, rv, bt, ap, mk_tf]
      have sh : G.d39_b5 = .cons (.set 6 (.list true .nil)) (.cons G.d39_l4 (.cons (.frz 6) (.cons (.expr (.me .append (.var 4) (.cons (.tup (.cons (.var 5) (.cons (.bi .tuple false (.cons (.var 6) .nil)) .nil))) .nil))) .nil))) := rfl
      refine ⟨[some (.loc 0), some (.lst (hs.map sv)), v2, some (.loc ut), some (.loc uk), some (sv hd0), some (.lst (ms.map encM)), v7, v8, none], (h2.set z.length .dead).set uk (.lst (ks.map encK ++ [.tup [.str (st hd0), .tup (ms.map encM)]])), ?_, ks ++ [(hd0, ms)], _, _, _, _, _, rfl, ?_, ?_, by simp [hl], ?_, ?_, ?_, ?_, ((w2.set hw.pos _).set k0 _).mono (by omega), ?_⟩
      · show evSs ⟨callAt T fuel (k + 3), fuel⟩ G.d39_b5 [some (.loc 0), some (.lst (hs.map sv)), y2, some (.loc ut), some (.loc uk), some (sv hd0), y6, y7, y8, none] z = _
        rw [sh, ss_cons, q1, kon_next, ss_cons]
        show kon _ _ (evS ⟨callAt T fuel (k + 3), fuel⟩ G.d39_l4 [some (.loc 0), some (.lst (hs.map sv)), y2, some (.loc ut), some (.loc uk), some (sv hd0), some (.loc z.length), y7, y8, none] (z ++ [.lst []])) = _
        rw [e2, kon_next, ss_cons, q3, kon_next, ss_cons]
        show kon _ _ (evS ⟨callAt T fuel (k + 3), fuel⟩ _ [some (.loc 0), some (.lst (hs.map sv)), v2, some (.loc ut), some (.loc uk), some (sv hd0), some (.lst (ms.map encM)), v7, v8, none] (h2.set z.length .dead)) = _
        rw [q4, kon_next, ss_nil]
      · rw [set_same kk2, List.map_append]; rfl
      · rw [set_other tt2 (by omega), titles_snoc]
      · rw [names_snoc, hnm, List.take_add_one, hm]; rfl
      · rw [titles_snoc]; exact md
      · intro q hq
        rw [List.mem_append] at hq
        rcases hq with hq | hq
        · exact ha q hq
        · simp only [List.mem_cons, List.not_mem_nil, or_false] at hq
          subst hq
          exact ⟨hh _ mh, m1, m6, fun f hf => (mi f hf).1⟩
      · intro x hx
        rw [words_snoc, List.mem_append] at hx
        rcases hx with hx | hx
        · exact hwd x hx
        · obtain ⟨m, hm, hx⟩ := List.mem_flatMap.mp hx
          exact (mi m hm).2 x hx
      · refine he.trans ?_
        refine Exh.low (Exh.app (fun j => j = ut ∨ j = uk) z [.lst []]) (X := fun j => j = z.length ∨ j = ut ∨ j = uk) ?_ fun j hj hx => ?_
        · refine (x2.weak fun j hj => ?_).trans ((Exh.set _ _ (.inl rfl)).trans (Exh.set _ _ (.inr (.inr rfl))))
          rcases hj with rfl | rfl
          · exact .inl rfl
          · exact .inr (.inl rfl)
        · rcases hx with rfl | hx
          · omega
          · exact hx)
    (env := [some (.loc 0), some (.lst (hs.map sv)), x2, some (.loc ut), some (.loc uk), x5, x6, x7, x8, none]) (h := h) ⟨[], x2, x5, x6, x7, x8, rfl, ek, et, rfl, rfl, List.nodup_nil, (fun _ h => absurd h List.not_mem_nil), (fun _ h => absurd h List.not_mem_nil), w, Exh.refl _⟩
  subst hx
  rw [List.take_length] at hnm
  refine ⟨ks, y2, y5, y6, y7, y8, h', rng_loop.for_eq' ?_ e, hk, hnm, hd, ha, hwd, hw.mono (by omega), he⟩
  simp (disch := first | (simp only [List.length_append, List.length_map, List.length_cons, List.length_nil]; omega) | omega) [ss_end, ss_cons, ss_nil, s_ite, s_expr, s_set, s_asg, s_ret, s_frz, evE, evEs, evC, evCA, evCO, evAnd, evOr, evI, evO, evJs, retOf, asgn, asgns, wipe, bat, me_app0, me_ext0, mk_t0, mk_f0, ev_cat]
end
end J

set_option autoImplicit false
set_option linter.all false
set_option maxRecDepth 100000
set_option maxHeartbeats 4000000
namespace J
open PySem
section
variable {T : Nat → Option Fd} {fuel k : Nat} (H : Hd T)
include H
theorem kinds_ok {ns : List Int} {b : Nat} {h : Hh} (w : Wh ns b h) (hb : b ≤ 300000) : ∃ (ks : List Kd) (h' : Hh), callAt T fuel (k + 4) 39 [.loc 0] h = .ok (.tup (ks.map encK)) h' ∧ KsOk ks ∧ Wh ns (b + 3000) h' ∧ Exh0 h h' := by
  have hp := w.pos
  obtain ⟨hs, x, h2, e2, f2, l1, l6, hd, ha, w2, x2⟩ := heads_loop H (fuel := fuel) (k := k) (h := h ++ [.lst []]) (u := h.length) (w.app _) (by omega) hp (al_new h _) (x2 := none) (x3 := none) (x4 := none) (x5 := none) (x6 := none) (x7 := none) (x8 := none) (x9 := none)
  have q1 := alloc_s (c := ⟨callAt T fuel (k + 3), fuel⟩) (env := [some (.loc 0), none, none, none, none, none, none, none, none, none]) (h := h) (i := 1) (by simp)
  have q3 := frz_s (c := ⟨callAt T fuel (k + 3), fuel⟩) (env := [some (.loc 0), some (.loc h.length), x, none, none, none, none, none, none, none]) (h := h2) (i := 1) rfl f2
  have g2 := x2.1
  rw [List.length_append] at g2
  obtain ⟨h3, e3⟩ : ∃ z, z = h2.set h.length .dead := ⟨_, rfl⟩
  have w3 : Wh ns (b + 200) h3 := by rw [e3]; exact w2.set hp _
  have g3 : h3.length = h2.length := by rw [e3, List.length_set]
  rw [← e3] at q3
  have q4 := alloc_s (c := ⟨callAt T fuel (k + 3), fuel⟩) (env := [some (.loc 0), some (.lst (hs.map sv)), x, none, none, none, none, none, none, none]) (h := h3) (i := 3) (by simp)
  obtain ⟨h4, e4⟩ : ∃ z, z = h3 ++ [Cell.lst []] := ⟨_, rfl⟩
  rw [← e4] at q4
  have g4 : h4.length = h3.length + 1 := by rw [e4, List.length_append]; rfl
  have q5 := alloc_s (c := ⟨callAt T fuel (k + 3), fuel⟩) (env := [some (.loc 0), some (.lst (hs.map sv)), x, some (.loc h3.length), none, none, none, none, none, none]) (h := h4) (i := 4) (by simp)
  have t4 : h4[h3.length]? = some (.lst []) := by rw [e4]; exact al_new h3 _
  obtain ⟨ks, y2, y5, y6, y7, y8, h6, e6, f6, nm, td, ka, kw, w6, x6⟩ := kind_loop H (fuel := fuel) (k := k) (h := h4 ++ [.lst []]) (ut := h3.length) (uk := h4.length) ha l6 (((by rw [e4]; exact w3.app _) : Wh ns (b + 200) h4).app _) (by omega) (by omega) (by omega) (by omega) (al_old t4) (al_new h4 _) (x2 := x) (x5 := none) (x6 := none) (x7 := none) (x8 := none)
  have q7 := frz_s (c := ⟨callAt T fuel (k + 3), fuel⟩) (env := [some (.loc 0), some (.lst (hs.map sv)), y2, some (.loc h3.length), some (.loc h4.length), y5, y6, y7, y8, none]) (h := h6) (i := 4) rfl f6
  have kl : ks.length = hs.length := by
    have : (namesK ks).length = ks.length := by simp [namesK]
    rw [← this, nm]
  have bt : ∀ m, evBi .tuple m [.lst (ks.map encK)] = pure (.tup (ks.map encK)) := fun m => bi_tup m _ (by rw [List.length_map]; exact sizeL_10 (by omega))
  have q8 : ∀ z, evS ⟨callAt T fuel (k + 3), fuel⟩ (.ret (.bi .tuple false (.cons (.var 4) .nil))) [some (.loc 0), some (.lst (hs.map sv)), y2, some (.loc h3.length), some (.lst (ks.map encK)), y5, y6, y7, y8, none] z = .ok (.ret (.tup (ks.map encK)), [some (.loc 0), some (.lst (hs.map sv)), y2, some (.loc h3.length), some (.lst (ks.map encK)), y5, y6, y7, y8, none]) z := fun z => by
    generalize ks.map encK = kv at *
    simp (disch := first | (simp only [List.length_append, List.length_map, List.length_cons, List.length_nil]; omega) | omega) [ss_end, ss_cons, ss_nil, s_ite, s_expr, s_set, s_asg, s_ret, s_frz, evE, evEs, evC, evCA, evCO, evAnd, evOr, evI, evO, evJs, retOf, asgn, asgns, wipe, bat, me_app0, me_ext0, mk_t0, mk_f0, ev_cat, bt]
  have sh : G.d39_law_any_kinds.body = .cons (.set 1 (.list true .nil)) (.cons G.d39_l1 (.cons (.frz 1) (.cons (.set 3 (.list true .nil)) (.cons (.set 4 (.list true .nil)) (.cons G.d39_l6 (.cons (.frz 4) (.cons (.ret (.bi .tuple false (.cons (.var 4) .nil))) .nil))))))) := rfl
  have body : (evSs ⟨callAt T fuel (k + 3), fuel⟩ G.d39_law_any_kinds.body [some (.loc 0), none, none, none, none, none, none, none, none, none] >>= retOf) h = .ok (.tup (ks.map encK)) (h6.set h4.length .dead) := by
    rw [ss_end, sh, ss_cons, q1, kon_next, ss_cons]
    show kend (kon _ _ (evS ⟨callAt T fuel (k + 3), fuel⟩ G.d39_l1 [some (.loc 0), some (.loc h.length), none, none, none, none, none, none, none, none] (h ++ [.lst []]))) = _
    rw [e2, kon_next, ss_cons, q3, kon_next, ss_cons]
    show kend (kon _ _ (evS ⟨callAt T fuel (k + 3), fuel⟩ (.set 3 (.list true .nil)) [some (.loc 0), some (.lst (hs.map sv)), x, none, none, none, none, none, none, none] h3)) = _
    rw [q4, kon_next, ss_cons]
    show kend (kon _ _ (evS ⟨callAt T fuel (k + 3), fuel⟩ (.set 4 (.list true .nil)) [some (.loc 0), some (.lst (hs.map sv)), x, some (.loc h3.length), none, none, none, none, none, none] h4)) = _
    rw [q5, kon_next, ss_cons]
    show kend (kon _ _ (evS ⟨callAt T fuel (k + 3), fuel⟩ G.d39_l6 [some (.loc 0), some (.lst (hs.map sv)), x, some (.loc h3.length), some (.loc h4.length), none, none, none, none, none] (h4 ++ [.lst []]))) = _
    rw [e6, kon_next, ss_cons, q7, kon_next, ss_cons]
    show kend (kon _ _ (evS ⟨callAt T fuel (k + 3), fuel⟩ _ [some (.loc 0), some (.lst (hs.map sv)), y2, some (.loc h3.length), some (.lst (ks.map encK)), y5, y6, y7, y8, none] (h6.set h4.length .dead))) = _
    rw [q8, kon_ret, kend_ret]
  have xf : Exh0 h (h6.set h4.length .dead) := by
    refine Exh.low (Exh.app (fun _ => False) h [.lst []]) (X := fun j => h.length ≤ j) ?_ fun j hj hx => absurd hj (by omega)
    refine (x2.weak fun j hj => by omega).trans ?_
    refine Exh.trans (b := h3) (by rw [e3]; exact Exh.set h2 _ (Nat.le_refl _)) ?_
    refine Exh.trans (b := h4 ++ [.lst []]) (by rw [e4, List.append_assoc]; exact Exh.app _ _ _) ?_
    exact (x6.weak fun j hj => by rcases hj with rfl | rfl <;> omega).trans (Exh.set h6 _ (by omega))
  obtain ⟨h9, r1, r2, r3, r4⟩ := call_ext (X := fun _ => False) (xs := [.loc 0]) (k := k + 3) (fuel := fuel) (ns := ns) (b := b + 3000) (v := .tup (ks.map encK)) H.t39 rfl hp xf ((w6.set (by omega) _).mono (by omega)) body
  exact ⟨ks, h9, r1, ⟨by omega, by omega, ka, by rw [nm]; exact hd, td, by rw [nm]; exact kw⟩, r3, r2⟩
end
end J

set_option autoImplicit false
set_option linter.all false
set_option maxRecDepth 100000
set_option maxHeartbeats 4000000
namespace J
open PySem
theorem len_loc {h : Hh} {u : Nat} {xs : List PV} (e : h[u]? = some (.lst xs)) (m : Bool) : evBi .len m [.loc u] h = .ok (.int (xs.length : Nat)) h := by
  show (rd (getS · (.loc u)) >>= fun xs => pure (PV.int xs.length)) h = _
  have : rd (getS · (.loc u)) h = .ok xs h := by
    show opt (getL h (.loc u)) h = _
    simp [getL, e]
  rw [bat, this]; rfl
theorem mul_loc {h : Hh} {u : Nat} {xs : List PV} (e : h[u]? = some (.lst xs)) {k : Nat} (hk : k ≤ 1000) (hx : xs.length ≤ 1000) {K : Int} (hK : K = (k : Int)) : evBin .mul true (.loc u) (.int K) h = .ok (.loc h.length) (h ++ [.lst (List.replicate k xs).flatten]) := by
  subst hK
  have g : rd (getL · (.loc u)) h = .ok xs h := by
    show opt (getL h (.loc u)) h = _
    simp [getL, e]
  have kt : (k : Int).toNat = k := by omega
  have lf : (List.replicate k xs).flatten.length = k * xs.length := by simp
  have p1 : xs.length * k ≤ 1000000 := Nat.le_trans (Nat.mul_le_mul hx hk) (by decide)
  have p2 : (List.replicate k xs).flatten.length ≤ 16777216 := by rw [lf, Nat.mul_comm]; omega
  show (rd (getL · (.loc u)) >>= fun xs => if (k : Int) < 2 ^ 62 ∧ -(2 ^ 62) < (k : Int) ∧ xs.length * (k : Int).toNat ≤ sizeL then mkL true (List.replicate (k : Int).toNat xs).flatten else bad) h = _
  rw [bat, g]
  show (if (k : Int) < 2 ^ 62 ∧ -(2 ^ 62) < (k : Int) ∧ xs.length * (k : Int).toNat ≤ sizeL then mkL true (List.replicate (k : Int).toNat xs).flatten else bad) h = _
  rw [if_pos ⟨by omega, by omega, by rw [kt]; exact Nat.le_trans p1 (by decide)⟩, kt, mk_t0 _ _ p2]
theorem rep_map {α β : Type} (k : Nat) (l : List α) (f : α → β) : (List.replicate k (l.map f)).flatten = ((List.replicate k l).flatten).map f := by
  induction k with
  | zero => rfl
  | succ k ih => rw [List.replicate_succ, List.replicate_succ, List.flatten_cons, List.flatten_cons, List.map_append, ih]
theorem rep_mem {α : Type} {k : Nat} {l : List α} {x : α} (h : x ∈ (List.replicate k l).flatten) : x ∈ l := by
  rw [List.mem_flatten] at h
  obtain ⟨y, hy, hx⟩ := h
  rw [List.eq_of_mem_replicate hy] at hx
  exact hx
theorem z_hold' : Str.ofString "hold" = Str.ofString "hold" := rfl
section
variable {T : Nat → Option Fd} {fuel k : Nat} (H : Hd T)
include H
theorem regs_drawn {ns : List Int} {b m : Nat} {h : Hh} {M : Int} (hM : M = (m : Int)) (hm : m ≤ 10) (w : Wh ns b h) (hb : b ≤ 900000) : ∃ (l : List Int) (h' : Hh), callAt T fuel (k + 2) 41 [.loc 0, .int M] h = .ok (ivs l) h' ∧ Regs l m ∧ Wh ns (b + 20) h' ∧ Exh0 h h' := by
  obtain ⟨n, h1, e1, hn, w1, x1⟩ := drawn H (fuel := fuel) (k := k) (M := M + 1) (m := m + 1) (by rw [hM]; rfl) w (by omega) (by omega) (by omega)
  obtain ⟨rs, h', e2, l2, hr, hw, he⟩ := comp_run (c := ⟨callAt T fuel (k + 1), fuel⟩) (own := [2]) (elt := .call 36 (.cons (.var 0) (.cons (.int 32) .nil))) (t := .name 2) (it := .range1 (.call 36 (.cons (.var 0) (.cons (.bin .add false (.var 1) (.int 1)) .nil)))) (env := [some (.loc 0), some (.int M), none]) (src := Src.range 0 n) (l := List.range n) (enc := fun (i : Nat) => PV.int (0 + (i : Int))) (encB := PV.int) (R := Reg) (P := fun i z => Wh ns (b + 1 + i) z ∧ Exh0 h z) (z := h) (z1 := h1)
    (evI_r1' (n := n) (by simp (disch := first | (simp only [List.length_append, List.length_map, List.length_cons, List.length_nil]; omega) | omega) [ss_end, ss_cons, ss_nil, s_ite, s_expr, s_set, s_asg, s_ret, s_frz, evE, evEs, evC, evCA, evCO, evAnd, evOr, evI, evO, evJs, retOf, asgn, asgns, wipe, bat, me_app0, me_ext0, mk_t0, mk_f0, ev_cat, e1]) (by omega)) (rng_items n) ⟨w1, x1⟩
    (fun i a z ha ⟨hw, he⟩ => by
      have hi : i < n := by
        have := fields_comp.len_ge' ha
        rwa [List.length_range] at this
      obtain ⟨v, h2, r1, hv, w2, x2⟩ := drawn H (fuel := fuel) (k := k) (M := 32) (m := 32) rfl hw (by omega) (by decide) (by decide)
      refine ⟨(v : Int), h2, ?_, ⟨by omega, by omega⟩, w2.mono (by omega), he.trans x2⟩
      simp (disch := first | (simp only [List.length_append, List.length_map, List.length_cons, List.length_nil]; omega) | omega) [ss_end, ss_cons, ss_nil, s_ite, s_expr, s_set, s_asg, s_ret, s_frz, evE, evEs, evC, evCA, evCO, evAnd, evOr, evI, evO, evJs, retOf, asgn, asgns, wipe, bat, me_app0, me_ext0, mk_t0, mk_f0, ev_cat, r1]) (by rw [List.length_range]; omega)
  rw [List.length_range] at l2 hw
  have bt : ∀ m, evBi .tuple m [.lst (rs.map PV.int)] = pure (.tup (rs.map PV.int)) := fun m => bi_tup m _ (by rw [List.length_map]; exact sizeL_10 (by omega))
  have e3 : evE ⟨callAt T fuel (k + 1), fuel⟩ G.d41_c0 [some (.loc 0), some (.int M), none] h = .ok (.lst (rs.map PV.int)) h' := e2
  have body : (evSs ⟨callAt T fuel (k + 1), fuel⟩ G.d41_law_any_registers.body [some (.loc 0), some (.int M), none] >>= retOf) h = .ok (ivs rs) h' := by
    unfold ivs
    generalize rs.map PV.int = rv at *
    simp (disch := first | (simp only [List.length_append, List.length_map, List.length_cons, List.length_nil]; omega) | omega) [ss_end, ss_cons, ss_nil, s_ite, s_expr, s_set, s_asg, s_ret, s_frz, evE, evEs, evC, evCA, evCO, evAnd, evOr, evI, evO, evJs, retOf, asgn, asgns, wipe, bat, me_app0, me_ext0, mk_t0, mk_f0, ev_cat, G.d41_law_any_registers, e3, bt]
  obtain ⟨h9, r1, r2, r3, r4⟩ := call_ext (X := fun _ => False) (xs := [.loc 0, .int M]) (k := k + 1) (fuel := fuel) (ns := ns) (b := b + 20) (v := ivs rs) H.t41 rfl w.pos he (hw.mono (by omega)) body
  exact ⟨rs, h9, r1, ⟨by omega, hr⟩, r3, r2⟩
theorem deed_loop {ns : List Int} {b : Nat} {h : Hh} {u : Nat} (w : Wh ns b h) (hb : b ≤ 900000) (u0 : 0 < u) (e : h[u]? = some (.lst [])) {x1 x3 x4 : Option PV} :
    ∃ (ds : List Dd) (y3 y4 : Option PV) (h' : Hh), evS ⟨callAt T fuel (k + 1), fuel⟩ G.d40_l1 [some (.loc 0), x1, some (.loc u), x3, x4] h = .ok (.next, [some (.loc 0), x1, some (.loc u), y3, y4]) h' ∧ h'[u]? = some (.lst (ds.map encD)) ∧ ds.length ≤ 3 ∧ (∀ d ∈ ds, DdOk d) ∧ Wh ns (b + 15) h' ∧ Exh (fun j => j = u) h h' := by
  obtain ⟨v, h1, e1, hv, w1, x1'⟩ := drawn H (fuel := fuel) (k := k) (M := 5) (m := 5) rfl w (by omega) (by decide) (by decide)
  obtain ⟨n, hn, p⟩ := pick_nat [0, 0, 1, 2, 3] hv (xs := [.int 0, .int 0, .int 1, .int 2, .int 3]) rfl
  have n3 : n ≤ 3 := by
    simp only [List.mem_cons, List.not_mem_nil, or_false] at hn
    omega
  have f1 : h1[u]? = some (.lst []) := by rw [x1'.2 u u0 (len_ge e) (fun f => f)]; exact e
  obtain ⟨env', h', e2, ⟨ds, y3, y4, hx, hc, hl, ha, hw, he⟩⟩ := rng_loop (c := ⟨callAt T fuel (k + 1), fuel⟩) (t := .name 3) (a := .idx (.list false (.cons (.int 0) (.cons (.int 0) (.cons (.int 1) (.cons (.int 2) (.cons (.int 3) .nil)))))) (.call 36 (.cons (.var 0) (.cons (.int 5) .nil)))) (body := G.d40_b0) (n := n) (z := h) (z1 := h1) (env := [some (.loc 0), x1, some (.loc u), x3, x4])
    (P := fun i env z => ∃ (ds : List Dd) (y3 y4 : Option PV), env = [some (.loc 0), x1, some (.loc u), y3, y4] ∧ z[u]? = some (.lst (ds.map encD)) ∧ ds.length = i ∧ (∀ d ∈ ds, DdOk d) ∧ Wh ns (b + 1 + 3 * i) z ∧ Exh (fun j => j = u) h z)
    (by simp (disch := first | (simp only [List.length_append, List.length_map, List.length_cons, List.length_nil]; omega) | omega) [ss_end, ss_cons, ss_nil, s_ite, s_expr, s_set, s_asg, s_ret, s_frz, evE, evEs, evC, evCA, evCO, evAnd, evOr, evI, evO, evJs, retOf, asgn, asgns, wipe, bat, me_app0, me_ext0, mk_t0, mk_f0, ev_cat, e1, p]) (by omega) ⟨[], x3, x4, rfl, f1, rfl, (fun _ h => absurd h List.not_mem_nil), w1, x1'.wk⟩
    (fun i env z hi ⟨ds, y3, y4, hx, hc, hl, ha, hw, he⟩ => by
      subst hx
      obtain ⟨r, h2, r1, hr, w2, x2⟩ := drawn H (fuel := fuel) (k := k) (M := 32) (m := 32) rfl hw (by omega) (by decide) (by decide)
      obtain ⟨g, h3, r2, hg, w3, x3⟩ := drawn H (fuel := fuel) (k := k) (M := 5) (m := 5) rfl w2 (by omega) (by decide) (by decide)
      obtain ⟨v, h4, r3, hv, w4, x4⟩ := drawn H (fuel := fuel) (k := k) (M := 3) (m := 3) rfl w3 (by omega) (by decide) (by decide)
      have c2 : h2[u]? = some (.lst (ds.map encD)) := by rw [x2.2 u u0 (len_ge hc) (fun f => f)]; exact hc
      have c3 : h3[u]? = some (.lst (ds.map encD)) := by rw [x3.2 u u0 (len_ge c2) (fun f => f)]; exact c2
      have c4 : h4[u]? = some (.lst (ds.map encD)) := by rw [x4.2 u u0 (len_ge c3) (fun f => f)]; exact c3
      have hf := ev_fdivi false (i := (r : Int)) (j := 2) (by decide) (by decide)
      obtain ⟨d, hd, p⟩ : ∃ d : Dd, DdOk d ∧ rd (evIdx · (.lst [.tup [.str (Str.ofString "hold"), .int (r : Nat)], .tup [.str (Str.ofString "drop"), .int (r : Nat)], .tup [.str (Str.ofString "free"), .int ((r : Int) / 2), .int (g : Nat)]]) (.int (v : Nat))) = pure (encD d) := by
        match v, hv with
        | 0, _ => exact ⟨.hold r, ⟨by omega, by omega⟩, pick_l rfl⟩
        | 1, _ => exact ⟨.drop r, ⟨by omega, by omega⟩, pick_l rfl⟩
        | 2, _ => exact ⟨.free ((r : Int) / 2) g, ⟨⟨by omega, by omega⟩, by omega, by omega⟩, pick_l rfl⟩
      have rv : rd (recvB .append (.loc u)) h2 = .ok () h2 := rv_loc c2 (by decide)
      have ap := me_app (encD d) c4 (by rw [List.length_map]; exact Nat.le_trans (by omega : _ ≤ 100) (by decide))
      refine ⟨[some (.loc 0), x1, some (.loc u), some (.int (i : Nat)), some (.int (r : Nat))], h4.set u (.lst (ds.map encD ++ [encD d])), ?_, ds ++ [d], _, _, rfl, ?_, by simp [hl], ?_, (w4.set u0 _).mono (by omega), (he.trans ((x2.trans x3).trans x4).wk).trans (Exh.set _ _ rfl)⟩
      · generalize encD d = dv at *
        generalize ds.map encD = lv at *
        simp (disch := first | (simp only [List.length_append, List.length_map, List.length_cons, List.length_nil]; omega) | omega) [ss_end, ss_cons, ss_nil, s_ite, s_expr, s_set, s_asg, s_ret, s_frz, evE, evEs, evC, evCA, evCO, evAnd, evOr, evI, evO, evJs, retOf, asgn, asgns, wipe, bat, me_app0, me_ext0, mk_t0, mk_f0, ev_cat, G.d40_b0, r1, r2, r3, rv, hf, mk_tf, p, ap]
      · rw [set_same c4, List.map_append]; rfl
      · intro y hy
        rw [List.mem_append] at hy
        rcases hy with hy | hy
        · exact ha y hy
        · simp only [List.mem_cons, List.not_mem_nil, or_false] at hy
          subst hy; exact hd)
  subst hx
  exact ⟨ds, y3, y4, h', e2, hc, by omega, ha, hw.mono (by omega), he⟩
theorem deeds_drawn {ns : List Int} {b : Nat} {h : Hh} (may : Bool) (w : Wh ns b h) (hb : b ≤ 800000) : ∃ (ds : List Dd) (h' : Hh), callAt T fuel (k + 2) 40 [.loc 0, .bl may] h = .ok (encDs ds) h' ∧ DsOk ds ∧ Wh ns (b + 20) h' ∧ Exh0 h h' := by
  have hp := w.pos
  have q1 := alloc_s (c := ⟨callAt T fuel (k + 1), fuel⟩) (env := [some (.loc 0), some (.bl may), none, none, none]) (h := h) (i := 2) (by simp)
  obtain ⟨ds, y3, y4, h2, e2, f2, l3, ha, w2, x2⟩ := deed_loop H (fuel := fuel) (k := k) (h := h ++ [.lst []]) (u := h.length) (w.app _) (by omega) hp (al_new h _) (x1 := some (.bl may)) (x3 := none) (x4 := none)
  have g2 := x2.1
  rw [List.length_append] at g2
  have ln := len_loc f2
  rw [List.length_map] at ln
  have lite : G.d40_law_any_deeds.body = .cons (.set 2 (.list true .nil)) (.cons G.d40_l1 (.cons (.ite (.and (.cons (.val (.var 1)) (.cons (.val (.cmp .eq (.bi .len false (.cons (.var 2) .nil)) (.int 3))) (.cons (.val (.cmp .eq (.call 36 (.cons (.var 0) (.cons (.int 6) .nil))) (.int 0))) .nil)))) (.cons (.set 2 (.bin .mul true (.var 2) (.int 20))) .nil) .nil) (.cons (.frz 2) (.cons (.ret (.bi .tuple false (.cons (.var 2) .nil))) .nil)))) := rfl
  have mid : ∃ (es : List Dd) (u' : Nat) (h3 : Hh), evS ⟨callAt T fuel (k + 1), fuel⟩ (.ite (.and (.cons (.val (.var 1)) (.cons (.val (.cmp .eq (.bi .len false (.cons (.var 2) .nil)) (.int 3))) (.cons (.val (.cmp .eq (.call 36 (.cons (.var 0) (.cons (.int 6) .nil))) (.int 0))) .nil)))) (.cons (.set 2 (.bin .mul true (.var 2) (.int 20))) .nil) .nil) [some (.loc 0), some (.bl may), some (.loc h.length), y3, y4] h2 = .ok (.next, [some (.loc 0), some (.bl may), some (.loc u'), y3, y4]) h3 ∧ h.length ≤ u' ∧ h3[u']? = some (.lst (es.map encD)) ∧ DsOk es ∧ Wh ns (b + 20) h3 ∧ Exh0 h2 h3 := by
    by_cases c : may = true
    · subst c
      by_cases l : ds.length = 3
      · obtain ⟨v, h3, r3, hv, w3, x3⟩ := drawn H (fuel := fuel) (k := k) (M := 6) (m := 6) rfl w2 (by omega) (by decide) (by decide)
        have f3 : h3[h.length]? = some (.lst (ds.map encD)) := by rw [x3.2 _ hp (len_ge f2) (fun f => f)]; exact f2
        rw [l] at ln
        by_cases z : v = 0
        · subst z
          have ml := mul_loc f3 (k := 20) (by decide) (by rw [List.length_map]; omega) (K := 20) rfl
          refine ⟨(List.replicate 20 ds).flatten, h3.length, h3 ++ [.lst (List.replicate 20 (ds.map encD)).flatten], ?_, by have := x3.1; omega, ?_, ⟨by simp [l], fun d hd => ha d (rep_mem hd)⟩, (w3.app _).mono (by omega), x3.trans (Exh.app _ _ _)⟩
          · have r3' : callAt T fuel (k + 1) 36 [.loc 0, .int 6] h2 = .ok (.int 0) h3 := r3
            generalize (List.replicate 20 (ds.map encD)).flatten = fl at *
            simp (disch := first | (simp only [List.length_append, List.length_map, List.length_cons, List.length_nil]; omega) | omega) [ss_end, ss_cons, ss_nil, s_ite, s_expr, s_set, s_asg, s_ret, s_frz, evE, evEs, evC, evCA, evCO, evAnd, evOr, evI, evO, evJs, retOf, asgn, asgns, wipe, bat, me_app0, me_ext0, mk_t0, mk_f0, ev_cat, ln, r3', ml]
          · rw [al_new, rep_map]
        · have t1 : rd (evCmp .eq (.int (v : Nat)) (.int 0)) = pure false := by
            show rd (fun h => some (decide ((v : Int) = 0))) = _
            have : decide ((v : Int) = 0) = false := by simp; omega
            rw [this]; rfl
          refine ⟨ds, h.length, h3, ?_, Nat.le_refl _, f3, ⟨by omega, ha⟩, w3.mono (by omega), x3⟩
          simp (disch := first | (simp only [List.length_append, List.length_map, List.length_cons, List.length_nil]; omega) | omega) [ss_end, ss_cons, ss_nil, s_ite, s_expr, s_set, s_asg, s_ret, s_frz, evE, evEs, evC, evCA, evCO, evAnd, evOr, evI, evO, evJs, retOf, asgn, asgns, wipe, bat, me_app0, me_ext0, mk_t0, mk_f0, ev_cat, ln, r3, t1]
      · have t1 : rd (evCmp .eq (.int (ds.length : Nat)) (.int 3)) = pure false := by
          show rd (fun h => some (decide ((ds.length : Int) = 3))) = _
          have : decide ((ds.length : Int) = 3) = false := by simp; omega
          rw [this]; rfl
        refine ⟨ds, h.length, h2, ?_, Nat.le_refl _, f2, ⟨by omega, ha⟩, w2.mono (by omega), Exh.refl _⟩
        simp (disch := first | (simp only [List.length_append, List.length_map, List.length_cons, List.length_nil]; omega) | omega) [ss_end, ss_cons, ss_nil, s_ite, s_expr, s_set, s_asg, s_ret, s_frz, evE, evEs, evC, evCA, evCO, evAnd, evOr, evI, evO, evJs, retOf, asgn, asgns, wipe, bat, me_app0, me_ext0, mk_t0, mk_f0, ev_cat, ln, t1]
    · have cf : may = false := by simpa using c
      subst cf
      refine ⟨ds, h.length, h2, ?_, Nat.le_refl _, f2, ⟨by omega, ha⟩, w2.mono (by omega), Exh.refl _⟩
      simp (disch := first | (simp only [List.length_append, List.length_map, List.length_cons, List.length_nil]; omega) | omega) [ss_end, ss_cons, ss_nil, s_ite, s_expr, s_set, s_asg, s_ret, s_frz, evE, evEs, evC, evCA, evCO, evAnd, evOr, evI, evO, evJs, retOf, asgn, asgns, wipe, bat, me_app0, me_ext0, mk_t0, mk_f0, ev_cat]
  obtain ⟨es, u', h3, e3, uu, f3, de, w3, x3⟩ := mid
  have q4 := frz_s (c := ⟨callAt T fuel (k + 1), fuel⟩) (env := [some (.loc 0), some (.bl may), some (.loc u'), y3, y4]) (h := h3) (i := 2) rfl f3
  have bt : ∀ m, evBi .tuple m [.lst (es.map encD)] = pure (.tup (es.map encD)) := fun m => bi_tup m _ (by rw [List.length_map]; exact sizeL_10 (by have := de.1; omega))
  have q5 : ∀ z, evS ⟨callAt T fuel (k + 1), fuel⟩ (.ret (.bi .tuple false (.cons (.var 2) .nil))) [some (.loc 0), some (.bl may), some (.lst (es.map encD)), y3, y4] z = .ok (.ret (encDs es), [some (.loc 0), some (.bl may), some (.lst (es.map encD)), y3, y4]) z := fun z => by
    unfold encDs
    generalize es.map encD = kv at *
    simp (disch := first | (simp only [List.length_append, List.length_map, List.length_cons, List.length_nil]; omega) | omega) [ss_end, ss_cons, ss_nil, s_ite, s_expr, s_set, s_asg, s_ret, s_frz, evE, evEs, evC, evCA, evCO, evAnd, evOr, evI, evO, evJs, retOf, asgn, asgns, wipe, bat, me_app0, me_ext0, mk_t0, mk_f0, ev_cat, bt]
  have body : (evSs ⟨callAt T fuel (k + 1), fuel⟩ G.d40_law_any_deeds.body [some (.loc 0), some (.bl may), none, none, none] >>= retOf) h = .ok (encDs es) (h3.set u' .dead) := by
    rw [ss_end, lite, ss_cons, q1, kon_next, ss_cons]
    show kend (kon _ _ (evS ⟨callAt T fuel (k + 1), fuel⟩ G.d40_l1 [some (.loc 0), some (.bl may), some (.loc h.length), none, none] (h ++ [.lst []]))) = _
    rw [e2, kon_next, ss_cons, e3, kon_next, ss_cons, q4, kon_next, ss_cons]
    show kend (kon _ _ (evS ⟨callAt T fuel (k + 1), fuel⟩ _ [some (.loc 0), some (.bl may), some (.lst (es.map encD)), y3, y4] (h3.set u' .dead))) = _
    rw [q5, kon_ret, kend_ret]
  have xf : Exh0 h (h3.set u' .dead) := by
    refine Exh.low (Exh.app (fun _ => False) h [.lst []]) (X := fun j => h.length ≤ j) ?_ fun j hj hx => absurd hj (by omega)
    exact ((x2.weak fun j hj => by omega).trans x3.wk).trans (Exh.set h3 _ uu)
  obtain ⟨h9, r1, r2, r3, r4⟩ := call_ext (X := fun _ => False) (xs := [.loc 0, .bl may]) (k := k + 1) (fuel := fuel) (ns := ns) (b := b + 20) (v := encDs es) H.t40 rfl hp xf (w3.set (by omega) _) body
  exact ⟨es, h9, r1, de, r3, r2⟩
end
end J

set_option autoImplicit false
set_option linter.all false
set_option maxRecDepth 100000
set_option maxHeartbeats 4000000
namespace J
open PySem
@[simp] theorem lx0 (x : PV) (t : List PV) : rd (evIdx · (.lst (x :: t)) (.int 0)) = pure x := rd_ixl _ _ (by simp)
@[simp] theorem lx1 (x y : PV) (t : List PV) : rd (evIdx · (.lst (x :: y :: t)) (.int 1)) = pure y := rd_ixl _ _ (by simp)
theorem pick_int (ns : List Int) {v : Nat} (hv : v < ns.length) {xs : List PV} (hx : xs = ns.map PV.int) : ∃ n ∈ ns, rd (evIdx · (.lst xs) (.int (v : Nat))) = pure (.int n) := by
  subst hx
  exact ⟨ns[v], List.getElem_mem hv, pick_l (by rw [List.getElem?_map, List.getElem?_eq_getElem hv]; rfl)⟩
theorem tup_add (m : Bool) (xs ys : List PV) : evBin .add m (.tup xs) (.tup ys) = mkT (xs ++ ys) := rfl
theorem pow12 (m : Bool) : evBin .pow m (.int 10) (.int 12) = pure (.int 1000000000000) := rfl
/-- the row's tail behind its first draws -/
def rest42 : Ss := match G.d42_law_any_row.body with | .cons _ (.cons _ (.cons _ (.cons _ (.cons _ (.cons _ (.cons _ r)))))) => r | _ => .nil
def head42 (r : Ss) : Ss := match G.d42_law_any_row.body with | .cons a (.cons b (.cons c (.cons d (.cons e (.cons f (.cons g _)))))) => .cons a (.cons b (.cons c (.cons d (.cons e (.cons f (.cons g r)))))) | _ => .nil
def env42 (be : PV) (r a f : Int) (ed : PV) (p : Int) (tk : PV) : En := [some (.loc 0), some be, some (.int r), some (.int a), some (.int f), some (.tup [ed]), some (.int p), some tk, none, none, none, none, none]
section
variable {T : Nat → Option Fd} {fuel k : Nat} (H : Hd T)
include H
theorem row_head {ns : List Int} {b : Nat} {h : Hh} (w : Wh ns b h) (hb : b ≤ 700000) (rr : Ss) : ∃ (be : List Dd) (r a f : Int) (e : List Dd) (p : Nat) (tk : Option Int) (h' : Hh), evSs ⟨callAt T fuel (k + 3), fuel⟩ (head42 rr) [some (.loc 0), none, none, none, none, none, none, none, none, none, none, none, none] h = evSs ⟨callAt T fuel (k + 3), fuel⟩ rr (env42 (encDs be) r a f (encDs e) p (tokV tk)) h' ∧ DsOk be ∧ Reg r ∧ Reg a ∧ Nxt f ∧ DsOk e ∧ p < 8 ∧ (∀ i, tk = some i → Tok' i) ∧ Wh ns (b + 50) h' ∧ Exh0 h h' := by
  obtain ⟨be, h1, e1, d1, w1, x1⟩ := deeds_drawn H (fuel := fuel) (k := k + 1) true w (by omega)
  obtain ⟨r, h2, e2, v2, w2, x2⟩ := drawn H (fuel := fuel) (k := k + 2) (M := 32) (m := 32) rfl w1 (by omega) (by decide) (by decide)
  obtain ⟨a, h3, e3, v3, w3, x3⟩ := drawn H (fuel := fuel) (k := k + 2) (M := 32) (m := 32) rfl w2 (by omega) (by decide) (by decide)
  obtain ⟨f, h4, e4, v4, w4, x4⟩ := drawn H (fuel := fuel) (k := k + 2) (M := 60) (m := 60) rfl w3 (by omega) (by decide) (by decide)
  obtain ⟨e, h5, e5, d5, w5, x5⟩ := deeds_drawn H (fuel := fuel) (k := k + 1) (decide (be = [])) w4 (by omega)
  obtain ⟨p, h6, e6, v6, w6, x6⟩ := drawn H (fuel := fuel) (k := k + 2) (M := 8) (m := 8) rfl w5 (by omega) (by decide) (by decide)
  obtain ⟨t, h7, e7, v7, w7, x7⟩ := drawn H (fuel := fuel) (k := k + 2) (M := 16) (m := 16) rfl w6 (by omega) (by decide) (by decide)
  obtain ⟨s, h8, e8, v8, w8, x8⟩ := drawn H (fuel := fuel) (k := k + 2) (M := 2) (m := 2) rfl w7 (by omega) (by decide) (by decide)
  have u := eq_unit be
  obtain ⟨tk, ht, pk⟩ : ∃ tk : Option Int, (∀ i, tk = some i → Tok' i) ∧ rd (evIdx · (.lst [.non, .int (t : Nat)]) (.int (s : Nat))) = pure (tokV tk) := by
    match s, v8 with
    | 0, _ => exact ⟨none, (fun _ h => by cases h), pick_l rfl⟩
    | 1, _ => exact ⟨some t, (fun i hi => by cases hi; exact ⟨by omega, by omega⟩), pick_l rfl⟩
  refine ⟨be, r, a, f, e, p, tk, h8, ?_, d1, ⟨by omega, by omega⟩, ⟨by omega, by omega⟩, ⟨by omega, by omega⟩, d5, v6, ht, w8.mono (by omega), ((((((x1.trans x2).trans x3).trans x4).trans x5).trans x6).trans x7).trans x8⟩
  unfold env42
  generalize encDs be = bv at *
  generalize encDs e = ev at *
  generalize tokV tk = tv at *
  simp (disch := first | (simp only [List.length_append, List.length_map, List.length_cons, List.length_nil]; omega) | omega) [ss_end, ss_cons, ss_nil, s_ite, s_expr, s_set, s_asg, s_ret, s_frz, evE, evEs, evC, evCA, evCO, evAnd, evOr, evI, evO, evJs, retOf, asgn, asgns, wipe, bat, me_app0, me_ext0, mk_t0, mk_f0, ev_cat, head42, G.d42_law_any_row, e1, e2, e3, e4, u, mk_t_nil, e5, mk_tf, e6, e7, e8, pk]
end
end J

set_option autoImplicit false
set_option linter.all false
set_option maxRecDepth 100000
set_option maxHeartbeats 4000000
namespace J
open PySem
/-- what the row's def gives -/
def RowOut (T : Nat → Option Fd) (fuel k : Nat) (ns : List Int) (b : Nat) (h : Hh) (env : En) : Prop := ∃ (q : Rw) (pl : Pl) (env' : En) (h' : Hh), evSs ⟨callAt T fuel (k + 3), fuel⟩ rest42 env h = .ok (.ret (.lst [encR q, encPl pl]), env') h' ∧ RwOk q ∧ PlOk q pl ∧ Wh ns (b + 300) h' ∧ Exh0 h h'
theorem in12 (i : Int) : rd (evCmp .isin (.int i) (.tup [.int 1, .int 2])) = pure (decide (1 = i) || decide (2 = i)) := by
  rw [rd_int _ rfl rfl]
  simp [eqP]
  rfl
theorem mt12 : mkT [.int 1, .int 2] = pure (.tup [.int 1, .int 2]) := mk_t _ (by decide)
section
variable {T : Nat → Option Fd} {fuel k : Nat} (H : Hd T)
include H
theorem row_number {ns : List Int} {b : Nat} {h : Hh} {be e : List Dd} {r a f : Int} {tk : Option Int} (w : Wh ns b h) (hb : b ≤ 700000) (db : DsOk be) (de : DsOk e) (hr : Reg r) (ha : Reg a) (hf : Nxt f) : RowOut T fuel k ns b h (env42 (encDs be) r a f (encDs e) 0 (tokV tk)) := by
  obtain ⟨x, h1, e1, v1, w1, x1⟩ := drawn H (fuel := fuel) (k := k + 2) (M := 2000000000001) (m := 2000000000001) rfl w (by omega) (by decide) (by decide)
  obtain ⟨v, h2, e2, v2, w2, x2⟩ := drawn H (fuel := fuel) (k := k + 2) (M := 6) (m := 6) rfl w1 (by omega) (by decide) (by decide)
  obtain ⟨n, hn, p⟩ := pick_int [0, -1, 1000000000000, -1000000000000, 7, (x : Int) - 1000000000000] v2 (xs := [.int 0, .int (-1), .int 1000000000000, .int (-1000000000000), .int 7, .int ((x : Int) - 1000000000000)]) rfl
  have nb : -1000000000000 ≤ n ∧ n ≤ 1000000000000 := by
    simp only [List.mem_cons, List.not_mem_nil, or_false] at hn
    omega
  have m1 := fun z => ev_muli z (i := 2) (j := 1000000000000) (mul_s _ _ (by decide))
  refine ⟨.number r n f, ⟨be, none, [e]⟩, [some (.loc 0), some (encDs be), some (.int r), some (.int a), some (.int f), some (.tup [encDs e]), some (.int 0), some (tokV tk), some (.int n), none, none, none, none], h2, ?_, ⟨hr, nb, hf⟩, ⟨db, (fun _ h => by cases h), rfl, fun x hx => by rw [List.mem_singleton] at hx; subst hx; exact de⟩, w2.mono (by omega), x1.trans x2⟩
  simp only [encR, encPl, env42, List.map_cons, List.map_nil]
  generalize encDs be = bv at *
  generalize encDs e = ev at *
  generalize tokV tk = tv at *
  simp (disch := first | (simp only [List.length_append, List.length_map, List.length_cons, List.length_nil]; omega) | omega) [ss_end, ss_cons, ss_nil, s_ite, s_expr, s_set, s_asg, s_ret, s_frz, evE, evEs, evC, evCA, evCO, evAnd, evOr, evI, evO, evJs, retOf, asgn, asgns, wipe, bat, me_app0, me_ext0, mk_t0, mk_f0, ev_cat, rest42, G.d42_law_any_row, pow12, m1, e1, e2, p, mk_tf, tokV]
theorem row_arith (s : Bool) {ns : List Int} {b : Nat} {h : Hh} {be e : List Dd} {r a f : Int} {tk : Option Int} (w : Wh ns b h) (hb : b ≤ 700000) (db : DsOk be) (de : DsOk e) (hr : Reg r) (ha : Reg a) (hf : Nxt f) : RowOut T fuel k ns b h (env42 (encDs be) r a f (encDs e) (if s then 2 else 1) (tokV tk)) := by
  obtain ⟨x, h1, e1, v1, w1, x1⟩ := drawn H (fuel := fuel) (k := k + 2) (M := 32) (m := 32) rfl w (by omega) (by decide) (by decide)
  refine ⟨.arith s r a x f, ⟨be, none, [e]⟩, env42 (encDs be) r a f (encDs e) (if s then 2 else 1) (tokV tk), h1, ?_, ⟨hr, ha, ⟨by omega, by omega⟩, hf⟩, ⟨db, (fun _ h => by cases h), rfl, fun x hx => by rw [List.mem_singleton] at hx; subst hx; exact de⟩, w1.mono (by omega), x1⟩
  have i1 := in12 1
  have i2 := in12 2
  cases s with
  | false =>
    simp only [encR, encPl, env42, List.map_cons, List.map_nil, Bool.false_eq_true, if_false]
    generalize encDs be = bv at *
    generalize encDs e = ev at *
    generalize tokV tk = tv at *
    simp (disch := first | (simp only [List.length_append, List.length_map, List.length_cons, List.length_nil]; omega) | omega) [ss_end, ss_cons, ss_nil, s_ite, s_expr, s_set, s_asg, s_ret, s_frz, evE, evEs, evC, evCA, evCO, evAnd, evOr, evI, evO, evJs, retOf, asgn, asgns, wipe, bat, me_app0, me_ext0, mk_t0, mk_f0, ev_cat, rest42, G.d42_law_any_row, mt12, i1, i2, e1, mk_tf, tokV]
  | true =>
    simp only [encR, encPl, env42, List.map_cons, List.map_nil, if_true]
    generalize encDs be = bv at *
    generalize encDs e = ev at *
    generalize tokV tk = tv at *
    simp (disch := first | (simp only [List.length_append, List.length_map, List.length_cons, List.length_nil]; omega) | omega) [ss_end, ss_cons, ss_nil, s_ite, s_expr, s_set, s_asg, s_ret, s_frz, evE, evEs, evC, evCA, evCO, evAnd, evOr, evI, evO, evJs, retOf, asgn, asgns, wipe, bat, me_app0, me_ext0, mk_t0, mk_f0, ev_cat, rest42, G.d42_law_any_row, mt12, i1, i2, e1, mk_tf, tokV]
theorem row_less {ns : List Int} {b : Nat} {h : Hh} {be e : List Dd} {r a f : Int} {tk : Option Int} (w : Wh ns b h) (hb : b ≤ 700000) (db : DsOk be) (de : DsOk e) (hr : Reg r) (ha : Reg a) (hf : Nxt f) : RowOut T fuel k ns b h (env42 (encDs be) r a f (encDs e) 3 (tokV tk)) := by
  obtain ⟨x, h1, e1, v1, w1, x1⟩ := drawn H (fuel := fuel) (k := k + 2) (M := 60) (m := 60) rfl w (by omega) (by decide) (by decide)
  obtain ⟨e2, h2, r2, d2, w2, x2⟩ := deeds_drawn H (fuel := fuel) (k := k + 1) false w1 (by omega)
  have i3 := in12 3
  refine ⟨.less r a f x, ⟨be, none, [e, e2]⟩, env42 (encDs be) r a f (encDs e) 3 (tokV tk), h2, ?_, ⟨hr, ha, hf, ⟨by omega, by omega⟩⟩, ⟨db, (fun _ h => by cases h), rfl, fun x hx => by
    rw [List.mem_cons, List.mem_singleton] at hx
    rcases hx with rfl | rfl
    · exact de
    · exact d2⟩, w2.mono (by omega), x1.trans x2⟩
  simp only [encR, encPl, env42, List.map_cons, List.map_nil]
  generalize encDs be = bv at *
  generalize encDs e = ev at *
  generalize encDs e2 = ev2 at *
  generalize tokV tk = tv at *
  simp (disch := first | (simp only [List.length_append, List.length_map, List.length_cons, List.length_nil]; omega) | omega) [ss_end, ss_cons, ss_nil, s_ite, s_expr, s_set, s_asg, s_ret, s_frz, evE, evEs, evC, evCA, evCO, evAnd, evOr, evI, evO, evJs, retOf, asgn, asgns, wipe, bat, me_app0, me_ext0, mk_t0, mk_f0, ev_cat, rest42, G.d42_law_any_row, mt12, i3, e1, r2, mk_tf, tup_add, tokV]
theorem row_make {ns : List Int} {b : Nat} {h : Hh} {be e : List Dd} {r a f : Int} {tk : Option Int} (w : Wh ns b h) (hb : b ≤ 700000) (db : DsOk be) (de : DsOk e) (hr : Reg r) (ha : Reg a) (hf : Nxt f) (ht : ∀ i, tk = some i → Tok' i) : RowOut T fuel k ns b h (env42 (encDs be) r a f (encDs e) 4 (tokV tk)) := by
  obtain ⟨l, h1, e1, ⟨l1, l2⟩, w1, x1⟩ := plain_ok H (fuel := fuel) (k := k + 1) (L := caps) (.inr rfl) w (by omega)
  obtain ⟨rs, h2, e2, g2, w2, x2⟩ := regs_drawn H (fuel := fuel) (k := k + 1) (M := 4) (m := 4) rfl (by decide) w1 (by omega)
  have i4 := in12 4
  refine ⟨.make r l rs f, ⟨be, tk, [e]⟩, [some (.loc 0), some (encDs be), some (.int r), some (.int a), some (.int f), some (.tup [encDs e]), some (.int 4), some (tokV tk), none, some (.str (st l)), none, none, none], h2, ?_, ⟨hr, by unfold highB; rw [l1, l2]; rfl, g2, hf⟩, ⟨db, (fun i hi => ⟨rfl, ht i hi⟩), rfl, fun x hx => by rw [List.mem_singleton] at hx; subst hx; exact de⟩, w2.mono (by omega), x1.trans x2⟩
  simp only [encR, encPl, env42, List.map_cons, List.map_nil]
  generalize encDs be = bv at *
  generalize encDs e = ev at *
  generalize tokV tk = tv at *
  simp (disch := first | (simp only [List.length_append, List.length_map, List.length_cons, List.length_nil]; omega) | omega) [ss_end, ss_cons, ss_nil, s_ite, s_expr, s_set, s_asg, s_ret, s_frz, evE, evEs, evC, evCA, evCO, evAnd, evOr, evI, evO, evJs, retOf, asgn, asgns, wipe, bat, me_app0, me_ext0, mk_t0, mk_f0, ev_cat, rest42, G.d42_law_any_row, mt12, i4, z_caps, e1, e2, mk_tf]
theorem row_call {ns : List Int} {b : Nat} {h : Hh} {be e : List Dd} {r a f : Int} {tk : Option Int} (w : Wh ns b h) (hb : b ≤ 700000) (db : DsOk be) (de : DsOk e) (hr : Reg r) (ha : Reg a) (hf : Nxt f) : RowOut T fuel k ns b h (env42 (encDs be) r a f (encDs e) 5 (tokV tk)) := by
  obtain ⟨l, h1, e1, ⟨l1, l2⟩, w1, x1⟩ := plain_ok H (fuel := fuel) (k := k + 1) (L := smalls) (.inl rfl) w (by omega)
  obtain ⟨rs, h2, e2, g2, w2, x2⟩ := regs_drawn H (fuel := fuel) (k := k + 1) (M := 8) (m := 8) rfl (by decide) w1 (by omega)
  have i5 := in12 5
  refine ⟨.call r l rs f, ⟨be, none, [e]⟩, [some (.loc 0), some (encDs be), some (.int r), some (.int a), some (.int f), some (.tup [encDs e]), some (.int 5), some (tokV tk), none, some (.str (st l)), none, none, none], h2, ?_, ⟨hr, by unfold lowB; rw [l1, l2]; rfl, g2, hf⟩, ⟨db, (fun _ h => by cases h), rfl, fun x hx => by rw [List.mem_singleton] at hx; subst hx; exact de⟩, w2.mono (by omega), x1.trans x2⟩
  simp only [encR, encPl, env42, List.map_cons, List.map_nil]
  generalize encDs be = bv at *
  generalize encDs e = ev at *
  generalize tokV tk = tv at *
  simp (disch := first | (simp only [List.length_append, List.length_map, List.length_cons, List.length_nil]; omega) | omega) [ss_end, ss_cons, ss_nil, s_ite, s_expr, s_set, s_asg, s_ret, s_frz, evE, evEs, evC, evCA, evCO, evAnd, evOr, evI, evO, evJs, retOf, asgn, asgns, wipe, bat, me_app0, me_ext0, mk_t0, mk_f0, ev_cat, rest42, G.d42_law_any_row, mt12, i5, z_smalls, e1, e2, mk_tf, tokV]
theorem row_give {ns : List Int} {b : Nat} {h : Hh} {be e : List Dd} {r a f : Int} {tk : Option Int} (w : Wh ns b h) (db : DsOk be) (hr : Reg r) : RowOut T fuel k ns b h (env42 (encDs be) r a f (encDs e) 6 (tokV tk)) := by
  have i6 := in12 6
  refine ⟨.give r, ⟨be, none, []⟩, env42 (encDs be) r a f (encDs e) 6 (tokV tk), h, ?_, hr, ⟨db, (fun _ h => by cases h), rfl, fun x hx => absurd hx List.not_mem_nil⟩, w.mono (by omega), Exh.refl _⟩
  simp only [encR, encPl, env42, List.map_nil]
  generalize encDs be = bv at *
  generalize encDs e = ev at *
  generalize tokV tk = tv at *
  simp (disch := first | (simp only [List.length_append, List.length_map, List.length_cons, List.length_nil]; omega) | omega) [ss_end, ss_cons, ss_nil, s_ite, s_expr, s_set, s_asg, s_ret, s_frz, evE, evEs, evC, evCA, evCO, evAnd, evOr, evI, evO, evJs, retOf, asgn, asgns, wipe, bat, me_app0, me_ext0, mk_t0, mk_f0, ev_cat, rest42, G.d42_law_any_row, mt12, i6, mk_t_nil, mk_tf, tokV]
theorem lots_comp {ns : List Int} {b : Nat} {h : Hh} (w : Wh ns b h) (hb : b ≤ 700000) {a1 a2 a3 a4 a5 a6 a7 a8 a9 a10 a11 a12 : Option PV} :
    ∃ (ls : List (List Int × Int)) (h' : Hh), evE ⟨callAt T fuel (k + 3), fuel⟩ G.d42_c0 [some (.loc 0), a1, a2, a3, a4, a5, a6, a7, a8, a9, a10, a11, a12] h = .ok (.lst (ls.map encL)) h' ∧ 1 ≤ ls.length ∧ ls.length ≤ 6 ∧ (∀ q ∈ ls, Regs q.1 4 ∧ Nxt q.2) ∧ Wh ns (b + 140) h' ∧ Exh0 h h' := by
  obtain ⟨n, h1, e1, hn, w1, x1⟩ := drawn H (fuel := fuel) (k := k + 2) (M := 6) (m := 6) rfl w (by omega) (by decide) (by decide)
  obtain ⟨ls, h', e2, l2, hr, hw, he⟩ := comp_run (c := ⟨callAt T fuel (k + 3), fuel⟩) (own := [11]) (elt := .tup (.cons (.call 41 (.cons (.var 0) (.cons (.int 4) .nil))) (.cons (.call 36 (.cons (.var 0) (.cons (.int 60) .nil))) .nil))) (t := .name 11) (it := .range1 (.bin .add false (.int 1) (.call 36 (.cons (.var 0) (.cons (.int 6) .nil))))) (env := [some (.loc 0), a1, a2, a3, a4, a5, a6, a7, a8, a9, a10, a11, a12]) (src := Src.range 0 (1 + n)) (l := List.range (1 + n)) (enc := fun (i : Nat) => PV.int (0 + (i : Int))) (encB := encL) (R := fun q => Regs q.1 4 ∧ Nxt q.2) (P := fun i z => Wh ns (b + 1 + 21 * i) z ∧ Exh0 h z) (z := h) (z1 := h1)
    (evI_r1' (n := 1 + n) (by
      have : ((1 + n : Nat) : Int) = 1 + (n : Int) := by omega
      rw [this]
      simp (disch := first | (simp only [List.length_append, List.length_map, List.length_cons, List.length_nil]; omega) | omega) [ss_end, ss_cons, ss_nil, s_ite, s_expr, s_set, s_asg, s_ret, s_frz, evE, evEs, evC, evCA, evCO, evAnd, evOr, evI, evO, evJs, retOf, asgn, asgns, wipe, bat, me_app0, me_ext0, mk_t0, mk_f0, ev_cat, e1]) (by omega)) (rng_items (1 + n)) ⟨w1, x1⟩
    (fun i a z ha ⟨hw, he⟩ => by
      have hi : i < 1 + n := by
        have := fields_comp.len_ge' ha
        rwa [List.length_range] at this
      obtain ⟨rs, h2, r2, g2, w2, x2⟩ := regs_drawn H (fuel := fuel) (k := k + 1) (M := 4) (m := 4) rfl (by decide) hw (by omega)
      obtain ⟨v, h3, r3, hv, w3, x3⟩ := drawn H (fuel := fuel) (k := k + 2) (M := 60) (m := 60) rfl w2 (by omega) (by decide) (by decide)
      refine ⟨(rs, (v : Int)), h3, ?_, ⟨g2, ⟨by omega, by omega⟩⟩, w3.mono (by omega), (he.trans x2).trans x3⟩
      simp (disch := first | (simp only [List.length_append, List.length_map, List.length_cons, List.length_nil]; omega) | omega) [ss_end, ss_cons, ss_nil, s_ite, s_expr, s_set, s_asg, s_ret, s_frz, evE, evEs, evC, evCA, evCO, evAnd, evOr, evI, evO, evJs, retOf, asgn, asgns, wipe, bat, me_app0, me_ext0, mk_t0, mk_f0, ev_cat, encL, r2, r3, mk_tf]) (by rw [List.length_range]; omega)
  rw [List.length_range] at l2 hw
  exact ⟨ls, h', e2, by omega, by omega, hr, hw.mono (by omega), he⟩
theorem edges_comp {ns : List Int} {b : Nat} {h : Hh} {ls : List (List Int × Int)} (hl : ls.length ≤ 6) (w : Wh ns b h) (hb : b ≤ 700000) {a1 a2 a3 a4 a5 a6 a7 a8 a9 a11 a12 : Option PV} :
    ∃ (es : List (List Dd)) (h' : Hh), evE ⟨callAt T fuel (k + 3), fuel⟩ G.d42_c1 [some (.loc 0), a1, a2, a3, a4, a5, a6, a7, a8, a9, some (.lst (ls.map encL)), a11, a12] h = .ok (.lst (es.map encDs)) h' ∧ es.length = ls.length ∧ (∀ e ∈ es, DsOk e) ∧ Wh ns (b + 120) h' ∧ Exh0 h h' := by
  obtain ⟨es, h', e2, l2, hr, hw, he⟩ := comp_run (c := ⟨callAt T fuel (k + 3), fuel⟩) (own := [12]) (elt := .call 40 (.cons (.var 0) (.cons (.bl false) .nil))) (t := .name 12) (it := .val (.var 10)) (env := [some (.loc 0), a1, a2, a3, a4, a5, a6, a7, a8, a9, some (.lst (ls.map encL)), a11, a12]) (src := .seq (.lst (ls.map encL))) (l := ls) (enc := encL) (encB := encDs) (R := DsOk) (P := fun i z => Wh ns (b + 20 * i) z ∧ Exh0 h z) (z := h) (z1 := h)
    (by simp (disch := first | (simp only [List.length_append, List.length_map, List.length_cons, List.length_nil]; omega) | omega) [ss_end, ss_cons, ss_nil, s_ite, s_expr, s_set, s_asg, s_ret, s_frz, evE, evEs, evC, evCA, evCO, evAnd, evOr, evI, evO, evJs, retOf, asgn, asgns, wipe, bat, me_app0, me_ext0, mk_t0, mk_f0, ev_cat]) rfl ⟨w, Exh.refl _⟩
    (fun i a z ha ⟨hw, he⟩ => by
      have hi : i < ls.length := fields_comp.len_ge' ha
      obtain ⟨ds, h2, r2, d2, w2, x2⟩ := deeds_drawn H (fuel := fuel) (k := k + 1) false hw (by omega)
      refine ⟨ds, h2, ?_, d2, w2.mono (by omega), he.trans x2⟩
      generalize ls.map encL = lv at *
      simp (disch := first | (simp only [List.length_append, List.length_map, List.length_cons, List.length_nil]; omega) | omega) [ss_end, ss_cons, ss_nil, s_ite, s_expr, s_set, s_asg, s_ret, s_frz, evE, evEs, evC, evCA, evCO, evAnd, evOr, evI, evO, evJs, retOf, asgn, asgns, wipe, bat, me_app0, me_ext0, mk_t0, mk_f0, ev_cat, r2]) (by omega)
  exact ⟨es, h', e2, l2, hr, hw.mono (by omega), he⟩
theorem row_match {ns : List Int} {b : Nat} {h : Hh} {be e : List Dd} {r a f : Int} {tk : Option Int} (w : Wh ns b h) (hb : b ≤ 600000) (db : DsOk be) (hr : Reg r) (ht : ∀ i, tk = some i → Tok' i) : RowOut T fuel k ns b h (env42 (encDs be) r a f (encDs e) 7 (tokV tk)) := by
  obtain ⟨ls, h1, e1, l1, l6, g1, w1, x1⟩ := lots_comp H (fuel := fuel) (k := k) w (by omega) (a1 := some (encDs be)) (a2 := some (.int r)) (a3 := some (.int a)) (a4 := some (.int f)) (a5 := some (.tup [encDs e])) (a6 := some (.int 7)) (a7 := some (tokV tk)) (a8 := none) (a9 := none) (a10 := none) (a11 := none) (a12 := none)
  obtain ⟨es, h2, e2, l2, g2, w2, x2⟩ := edges_comp H (fuel := fuel) (k := k) l6 w1 (by omega) (a1 := some (encDs be)) (a2 := some (.int r)) (a3 := some (.int a)) (a4 := some (.int f)) (a5 := some (.tup [encDs e])) (a6 := some (.int 7)) (a7 := some (tokV tk)) (a8 := none) (a9 := none) (a11 := none) (a12 := none)
  have i7 := in12 7
  have b1 : ∀ m, evBi .tuple m [.lst (ls.map encL)] = pure (.tup (ls.map encL)) := fun m => bi_tup m _ (by rw [List.length_map]; exact sizeL_10 (by omega))
  have b2 : ∀ m, evBi .tuple m [.lst (es.map encDs)] = pure (.tup (es.map encDs)) := fun m => bi_tup m _ (by rw [List.length_map]; exact sizeL_10 (by omega))
  refine ⟨.mtch r ls, ⟨be, tk, es⟩, [some (.loc 0), some (encDs be), some (.int r), some (.int a), some (.int f), some (.tup [encDs e]), some (.int 7), some (tokV tk), none, none, some (.lst (ls.map encL)), none, none], h2, ?_, ⟨hr, l1, l6, g1⟩, ⟨db, (fun i hi => ⟨rfl, ht i hi⟩), by simp [nexts, l2], g2⟩, w2.mono (by omega), x1.trans x2⟩
  simp only [encR, encPl, env42]
  generalize encDs be = bv at *
  generalize encDs e = ev at *
  generalize tokV tk = tv at *
  generalize ls.map encL = lv at *
  generalize es.map encDs = sv2 at *
  simp (disch := first | (simp only [List.length_append, List.length_map, List.length_cons, List.length_nil]; omega) | omega) [ss_end, ss_cons, ss_nil, s_ite, s_expr, s_set, s_asg, s_ret, s_frz, evE, evEs, evC, evCA, evCO, evAnd, evOr, evI, evO, evJs, retOf, asgn, asgns, wipe, bat, me_app0, me_ext0, mk_t0, mk_f0, ev_cat, rest42, G.d42_law_any_row, mt12, i7, e1, e2, b1, b2, mk_tf]
theorem row_drawn {ns : List Int} {b : Nat} {h : Hh} (w : Wh ns b h) (hb : b ≤ 500000) : ∃ (q : Rw) (pl : Pl) (h' : Hh), callAt T fuel (k + 4) 42 [.loc 0] h = .ok (.lst [encR q, encPl pl]) h' ∧ RwOk q ∧ PlOk q pl ∧ Wh ns (b + 400) h' ∧ Exh0 h h' := by
  obtain ⟨be, r, a, f, e, p, tk, h1, e1, db, hr, ha, hf, de, hp, ht, w1, x1⟩ := row_head H (fuel := fuel) (k := k) w (by omega) rest42
  have out : RowOut T fuel k ns (b + 50) h1 (env42 (encDs be) r a f (encDs e) p (tokV tk)) := by
    match p, hp with
    | 0, _ => exact row_number H w1 (by omega) db de hr ha hf
    | 1, _ => exact row_arith H false w1 (by omega) db de hr ha hf
    | 2, _ => exact row_arith H true w1 (by omega) db de hr ha hf
    | 3, _ => exact row_less H w1 (by omega) db de hr ha hf
    | 4, _ => exact row_make H w1 (by omega) db de hr ha hf ht
    | 5, _ => exact row_call H w1 (by omega) db de hr ha hf
    | 6, _ => exact row_give H w1 db hr
    | 7, _ => exact row_match H w1 (by omega) db hr ht
  obtain ⟨q, pl, env', h2, e2, ho, po, w2, x2⟩ := out
  have sh : G.d42_law_any_row.body = head42 rest42 := rfl
  have body : (evSs ⟨callAt T fuel (k + 3), fuel⟩ G.d42_law_any_row.body [some (.loc 0), none, none, none, none, none, none, none, none, none, none, none, none] >>= retOf) h = .ok (.lst [encR q, encPl pl]) h2 := by
    rw [ss_end, sh, e1, e2, kend_ret]
  obtain ⟨h9, r1, r2, r3, r4⟩ := call_ext (X := fun _ => False) (xs := [.loc 0]) (k := k + 3) (fuel := fuel) (ns := ns) (b := b + 400) (v := .lst [encR q, encPl pl]) H.t42 rfl w.pos (x1.trans x2) (w2.mono (by omega)) body
  exact ⟨q, pl, h9, r1, ho, po, r3, r2⟩
end
end J

set_option autoImplicit false
set_option linter.all false
set_option maxRecDepth 100000
set_option maxHeartbeats 4000000
namespace J
open PySem
theorem mul_val {xs : List PV} {k : Nat} (hk : k ≤ 1000) (hx : xs.length ≤ 1000) {K : Int} (hK : K = (k : Int)) : evBin .mul false (.lst xs) (.int K) = pure (.lst (List.replicate k xs).flatten) := by
  subst hK
  have kt : (k : Int).toNat = k := by omega
  have lf : (List.replicate k xs).flatten.length = k * xs.length := by simp
  have p1 : xs.length * k ≤ 1000000 := Nat.le_trans (Nat.mul_le_mul hx hk) (by decide)
  have p2 : (List.replicate k xs).flatten.length ≤ 16777216 := by rw [lf, Nat.mul_comm]; omega
  have g : rd (getL · (.lst xs)) = (pure xs : M (List PV)) := rfl
  show (rd (getL · (.lst xs)) >>= fun xs => if (k : Int) < 2 ^ 62 ∧ -(2 ^ 62) < (k : Int) ∧ xs.length * (k : Int).toNat ≤ sizeL then mkL false (List.replicate (k : Int).toNat xs).flatten else bad) = _
  rw [g, pb]
  rw [if_pos ⟨by omega, by omega, by rw [kt]; exact Nat.le_trans p1 (by decide)⟩, kt, mk_f0 _ p2]
theorem ints_map {α : Type} (l : List α) (f : α → Int) : intsOf (l.map fun a => PV.int (f a)) = some (l.map f) := by
  induction l with
  | nil => rfl
  | cons a l ih => simp [intsOf, ih]
theorem bi_maxN {α : Type} (m : Bool) {l : List α} (f : α → Int) (h : l ≠ []) : ∃ v, evBi .max1 m [.lst (l.map fun a => PV.int (f a))] = pure (.int v) := by
  cases q : l.map f with
  | nil => exact absurd (List.map_eq_nil_iff.mp q) h
  | cons x xs =>
    refine ⟨xs.foldl max x, ?_⟩
    show (rd (getL · (.lst (l.map fun a => PV.int (f a)))) >>= fun xs => opt (intsOf xs) >>= fun ns => opt (maxI ns) >>= fun k => pure (PV.int k)) = _
    show (opt (intsOf (l.map fun a => PV.int (f a))) >>= fun ns => opt (maxI ns) >>= fun k => pure (PV.int k)) = _
    rw [ints_map, q]
    rfl
abbrev RP := Rw × Pl
def encB2 (x : RP) : PV := .lst [encR x.1, encPl x.2]
def RPOk (x : RP) : Prop := RwOk x.1 ∧ PlOk x.1 x.2
abbrev FP := Fn × FPl
def FPOk (x : FP) : Prop := FnOk' x.1 ∧ FPlOk x.1.rows x.2
section
variable {c : Ctx}
theorem c43_0 {ks : List Kd} (hl : ks.length ≤ 6) {a0 a2 a3 a4 a5 a6 a7 a8 a9 a10 a11 a12 a13 : Option PV} : evE c G.d43_c0 [a0, some (.tup (ks.map encK)), a2, a3, a4, a5, a6, a7, a8, a9, a10, a11, a12, a13] = pure (.lst ((namesK ks).map sv)) := by
  have e : (namesK ks).map sv = ks.map fun q => sv q.1 := by rw [namesK, List.map_map]; rfl
  rw [e]
  refine comp_m (src := .seq (.tup (ks.map encK))) ?_ rfl (sizeL_10 (by omega)) fun q hq => ?_
  · simp [evSs, evS, evE, evEs, evC, evCA, evCO, evAnd, evOr, evI, evO, evJs, retOf, asgn, asgns, wipe, J.ba]
  · simp [evSs, evS, evE, evEs, evC, evCA, evCO, evAnd, evOr, evI, evO, evJs, retOf, asgn, asgns, wipe, J.ba, encK]
theorem c43_3 {bs : List RP} (hl : bs.length ≤ 60) {a0 a1 a2 a3 a4 a5 a6 a7 a9 a10 a11 a12 a13 : Option PV} : evE c G.d43_c3 [a0, a1, a2, a3, a4, a5, a6, a7, some (.lst (bs.map encB2)), a9, a10, a11, a12, a13] = pure (.lst (bs.map fun x => .int (x.2.before.length : Nat))) := by
  refine comp_m (src := .seq (.lst (bs.map encB2))) ?_ rfl (sizeL_10 (by omega)) fun q hq => ?_
  · simp [evSs, evS, evE, evEs, evC, evCA, evCO, evAnd, evOr, evI, evO, evJs, retOf, asgn, asgns, wipe, J.ba]
  · have l : ∀ m, evBi .len m [encDs q.2.before] = pure (.int (q.2.before.length : Nat)) := fun m => by
      show evBi .len m [.tup (q.2.before.map encD)] = _
      rw [bi_lent, List.length_map]
    simp [evSs, evS, evE, evEs, evC, evCA, evCO, evAnd, evOr, evI, evO, evJs, retOf, asgn, asgns, wipe, J.ba, encB2, encPl, l]
theorem c43_4 {bs : List RP} (hl : bs.length ≤ 60) {a0 a1 a2 a3 a4 a5 a6 a7 a9 a10 a11 a12 a13 : Option PV} : evE c G.d43_c4 [a0, a1, a2, a3, a4, a5, a6, a7, some (.lst (bs.map encB2)), a9, a10, a11, a12, a13] = pure (.lst ((bs.map (·.1)).map encR)) := by
  rw [List.map_map]
  refine comp_m (src := .seq (.lst (bs.map encB2))) ?_ rfl (sizeL_10 (by omega)) fun q hq => ?_
  · simp [evSs, evS, evE, evEs, evC, evCA, evCO, evAnd, evOr, evI, evO, evJs, retOf, asgn, asgns, wipe, J.ba]
  · simp [evSs, evS, evE, evEs, evC, evCA, evCO, evAnd, evOr, evI, evO, evJs, retOf, asgn, asgns, wipe, J.ba, encB2]
theorem c43_5 {bs : List RP} (hl : bs.length ≤ 60) {a0 a1 a2 a3 a4 a5 a6 a7 a9 a10 a11 a12 a13 : Option PV} : evE c G.d43_c5 [a0, a1, a2, a3, a4, a5, a6, a7, some (.lst (bs.map encB2)), a9, a10, a11, a12, a13] = pure (.lst ((bs.map (·.2)).map encPl)) := by
  rw [List.map_map]
  refine comp_m (src := .seq (.lst (bs.map encB2))) ?_ rfl (sizeL_10 (by omega)) fun q hq => ?_
  · simp [evSs, evS, evE, evEs, evC, evCA, evCO, evAnd, evOr, evI, evO, evJs, retOf, asgn, asgns, wipe, J.ba]
  · simp [evSs, evS, evE, evEs, evC, evCA, evCO, evAnd, evOr, evI, evO, evJs, retOf, asgn, asgns, wipe, J.ba, encB2]
/-- the functions are in a cell here -/
theorem c43_8 {h : Hh} {u : Nat} {fs : List FP} (e : h[u]? = some (.lst (fs.map fun x => encF x.1))) (hl : fs.length ≤ 60) {a0 a1 a2 a4 a5 a6 a7 a8 a9 a10 a11 a12 a13 : Option PV} : evE c G.d43_c8 [a0, a1, a2, some (.loc u), a4, a5, a6, a7, a8, a9, a10, a11, a12, a13] h = .ok (.lst (fs.map fun x => .int (x.1.rows.length : Nat))) h := by
  have it : ∀ i, item h (.seq (.loc u)) i = some ((fs.map fun x => encF x.1)[i]?) := fun i => by
    show (getS h (.loc u)).map (fun xs => xs[i]?) = _
    have : getS h (.loc u) = some (fs.map fun x => encF x.1) := by show getL h (.loc u) = _; simp [getL, e]
    rw [this]; rfl
  have tn : turns h (.seq (.loc u)) = fs.length + 1 := by
    show ((getS h (.loc u)).getD []).length + 1 = _
    have : getS h (.loc u) = some (fs.map fun x => encF x.1) := by show getL h (.loc u) = _; simp [getL, e]
    rw [this]; simp
  have go : ∀ n i, fs.length + 1 ≤ n + i → i ≤ fs.length → compGo (.seq (.loc u)) (fun x => opt (asgn (.name 13) x (wipe [a0, a1, a2, some (.loc u), a4, a5, a6, a7, a8, a9, a10, a11, a12, a13] [13])) >>= fun env' => evCA c .nil env' >>= fun b => if b then (evE c (.bi .len false (.cons (.idx (.var 13) (.int 3)) .nil)) env' >>= fun y => pure [y]) else pure []) n i h = .ok ((fs.drop i).map fun x => .int (x.1.rows.length : Nat)) h := by
    intro n
    induction n with
    | zero => intro i hi hi'; omega
    | succ n ih =>
      intro i hi hi'
      simp only [compGo, it, List.getElem?_map]
      cases q : fs[i]? with
      | none =>
        have : fs.length ≤ i := by simpa using q
        rw [List.drop_eq_nil_of_le this]; rfl
      | some x =>
        have hi2 : i < fs.length := (List.getElem?_eq_some_iff.mp q).1
        have ex : fs[i] = x := (List.getElem?_eq_some_iff.mp q).2
        have eb : (opt (asgn (.name 13) (encF x.1) (wipe [a0, a1, a2, some (.loc u), a4, a5, a6, a7, a8, a9, a10, a11, a12, a13] [13])) >>= fun env' => evCA c .nil env' >>= fun b => if b then (evE c (.bi .len false (.cons (.idx (.var 13) (.int 3)) .nil)) env' >>= fun y => pure [y]) else pure []) = (pure [.int (x.1.rows.length : Nat)] : M (List PV)) := by
          have l : ∀ m, evBi .len m [.tup (x.1.rows.map encR)] = pure (.int (x.1.rows.length : Nat)) := fun m => by rw [bi_lent, List.length_map]
          simp only [encF]
          generalize x.1.rows.map encR = rv at *
          simp [evSs, evS, evE, evEs, evC, evCA, evCO, evAnd, evOr, evI, evO, evJs, retOf, asgn, asgns, wipe, J.ba, l]
        simp only [Option.map_some]
        rw [eb, bat]
        show (compGo (.seq (.loc u)) _ n (i + 1) >>= fun zs => pure ([PV.int (x.1.rows.length : Nat)] ++ zs)) h = _
        rw [bat, ih (i + 1) (by omega) hi2, List.drop_eq_getElem_cons hi2, ex]
        rfl
  have g := go (turns h (.seq (.loc u))) 0 (by rw [tn]; omega) (Nat.zero_le _)
  rw [List.drop_zero] at g
  show (nox (evI c (.val (.var 3)) (wipe [a0, a1, a2, some (.loc u), a4, a5, a6, a7, a8, a9, a10, a11, a12, a13] [13]) >>= fun src => fun h => compGo src (fun x => opt (asgn (.name 13) x (wipe [a0, a1, a2, some (.loc u), a4, a5, a6, a7, a8, a9, a10, a11, a12, a13] [13])) >>= fun env' => evCA c .nil env' >>= fun b => if b then (evE c (.bi .len false (.cons (.idx (.var 13) (.int 3)) .nil)) env' >>= fun y => pure [y]) else pure []) (turns h src) 0 h) >>= fun xs => mkL false xs) h = _
  have hi : evI c (.val (.var 3)) (wipe [a0, a1, a2, some (.loc u), a4, a5, a6, a7, a8, a9, a10, a11, a12, a13] [13]) h = .ok (.seq (.loc u)) h := by
    have i0 : rd (item · (.seq (.loc u)) 0) h = .ok ((fs.map fun x => encF x.1)[0]?) h := by
      show opt (item h (.seq (.loc u)) 0) h = _
      rw [it]; rfl
    simp (disch := first | (simp only [List.length_append, List.length_map, List.length_cons, List.length_nil]; omega) | omega) [ss_end, ss_cons, ss_nil, s_ite, s_expr, s_set, s_asg, s_ret, s_frz, evE, evEs, evC, evCA, evCO, evAnd, evOr, evI, evO, evJs, retOf, asgn, asgns, wipe, bat, me_app0, me_ext0, mk_t0, mk_f0, ev_cat, i0]
  have e1 : (evI c (.val (.var 3)) (wipe [a0, a1, a2, some (.loc u), a4, a5, a6, a7, a8, a9, a10, a11, a12, a13] [13]) >>= fun src => fun h => compGo src (fun x => opt (asgn (.name 13) x (wipe [a0, a1, a2, some (.loc u), a4, a5, a6, a7, a8, a9, a10, a11, a12, a13] [13])) >>= fun env' => evCA c .nil env' >>= fun b => if b then (evE c (.bi .len false (.cons (.idx (.var 13) (.int 3)) .nil)) env' >>= fun y => pure [y]) else pure []) (turns h src) 0 h) h = .ok (fs.map fun x => .int (x.1.rows.length : Nat)) h := by
    rw [bat, hi]
    exact g
  have e2 : nox (evI c (.val (.var 3)) (wipe [a0, a1, a2, some (.loc u), a4, a5, a6, a7, a8, a9, a10, a11, a12, a13] [13]) >>= fun src => fun h => compGo src (fun x => opt (asgn (.name 13) x (wipe [a0, a1, a2, some (.loc u), a4, a5, a6, a7, a8, a9, a10, a11, a12, a13] [13])) >>= fun env' => evCA c .nil env' >>= fun b => if b then (evE c (.bi .len false (.cons (.idx (.var 13) (.int 3)) .nil)) env' >>= fun y => pure [y]) else pure []) (turns h src) 0 h) h = .ok (fs.map fun x => .int (x.1.rows.length : Nat)) h := by
    unfold nox
    rw [e1]
  rw [bat, e2]
  show mkL false (fs.map fun x => PV.int (x.1.rows.length : Nat)) h = _
  rw [mk_f0 _ (by rw [List.length_map]; omega)]; rfl
end
section
variable {T : Nat → Option Fd} {fuel k : Nat} (H : Hd T)
include H
theorem params_comp {ns : List Int} {b : Nat} {h : Hh} {so : List (List Nat)} (w : Wh ns b h) (hb : b ≤ 600000) (s0 : 0 < so.length) (s1 : so.length ≤ 20) {a1 a3 a4 a5 a6 a7 a8 a9 a10 a11 a12 a13 : Option PV} :
    ∃ (ps : List (List Nat)) (h' : Hh), evE ⟨callAt T fuel (k + 1), fuel⟩ G.d43_c1 [some (.loc 0), a1, some (.lst (so.map sv)), a3, a4, a5, a6, a7, a8, a9, a10, a11, a12, a13] h = .ok (.lst (ps.map sv)) h' ∧ ps.length ≤ 8 ∧ (∀ f ∈ ps, f ∈ so) ∧ Wh ns (b + 20) h' ∧ Exh0 h h' := by
  obtain ⟨n, h1, e1, hn, w1, x1⟩ := drawn H (fuel := fuel) (k := k) (M := 9) (m := 9) rfl w (by omega) (by decide) (by decide)
  have ln : ∀ m, evBi .len m [.lst (so.map sv)] = pure (.int (so.length : Nat)) := fun m => by rw [bi_lenl, List.length_map]
  obtain ⟨ps, h', e2, l2, hr, hw, he⟩ := comp_run (c := ⟨callAt T fuel (k + 1), fuel⟩) (own := [10]) (elt := .idx (.var 2) (.call 36 (.cons (.var 0) (.cons (.bi .len false (.cons (.var 2) .nil)) .nil)))) (t := .name 10) (it := .range1 (.call 36 (.cons (.var 0) (.cons (.int 9) .nil)))) (env := [some (.loc 0), a1, some (.lst (so.map sv)), a3, a4, a5, a6, a7, a8, a9, a10, a11, a12, a13]) (src := Src.range 0 n) (l := List.range n) (enc := fun (i : Nat) => PV.int (0 + (i : Int))) (encB := sv) (R := fun f => f ∈ so) (P := fun i z => Wh ns (b + 1 + i) z ∧ Exh0 h z) (z := h) (z1 := h1)
    (evI_r1' (n := n) (by simp (disch := first | (simp only [List.length_append, List.length_map, List.length_cons, List.length_nil]; omega) | omega) [ss_end, ss_cons, ss_nil, s_ite, s_expr, s_set, s_asg, s_ret, s_frz, evE, evEs, evC, evCA, evCO, evAnd, evOr, evI, evO, evJs, retOf, asgn, asgns, wipe, bat, me_app0, me_ext0, mk_t0, mk_f0, ev_cat, e1]) (by omega)) (rng_items n) ⟨w1, x1⟩
    (fun i a z ha ⟨hw, he⟩ => by
      have hi : i < n := by
        have := fields_comp.len_ge' ha
        rwa [List.length_range] at this
      obtain ⟨v, h2, r1, hv, w2, x2⟩ := drawn H (fuel := fuel) (k := k) (M := so.length) (m := so.length) rfl hw (by omega) s0 (by omega)
      obtain ⟨f, hf, p⟩ := pick_sv so hv rfl
      refine ⟨f, h2, ?_, hf, w2.mono (by omega), he.trans x2⟩
      generalize so.map sv = sm at *
      simp (disch := first | (simp only [List.length_append, List.length_map, List.length_cons, List.length_nil]; omega) | omega) [ss_end, ss_cons, ss_nil, s_ite, s_expr, s_set, s_asg, s_ret, s_frz, evE, evEs, evC, evCA, evCO, evAnd, evOr, evI, evO, evJs, retOf, asgn, asgns, wipe, bat, me_app0, me_ext0, mk_t0, mk_f0, ev_cat, ln, r1, p]) (by rw [List.length_range]; omega)
  rw [List.length_range] at l2 hw
  exact ⟨ps, h', e2, by omega, hr, hw.mono (by omega), he⟩
theorem both_comp {ns : List Int} {b : Nat} {h : Hh} (w : Wh ns b h) (hb : b ≤ 400000) {a1 a2 a3 a4 a5 a6 a7 a8 a9 a10 a11 a12 a13 : Option PV} :
    ∃ (bs : List RP) (h' : Hh), evE ⟨callAt T fuel (k + 4), fuel⟩ G.d43_c2 [some (.loc 0), a1, a2, a3, a4, a5, a6, a7, a8, a9, a10, a11, a12, a13] h = .ok (.lst (bs.map encB2)) h' ∧ 1 ≤ bs.length ∧ bs.length ≤ 5 ∧ (∀ x ∈ bs, RPOk x) ∧ Wh ns (b + 2100) h' ∧ Exh0 h h' := by
  obtain ⟨n, h1, e1, hn, w1, x1⟩ := drawn H (fuel := fuel) (k := k + 3) (M := 5) (m := 5) rfl w (by omega) (by decide) (by decide)
  obtain ⟨bs, h', e2, l2, hr, hw, he⟩ := comp_run (c := ⟨callAt T fuel (k + 4), fuel⟩) (own := [10]) (elt := .call 42 (.cons (.var 0) .nil)) (t := .name 10) (it := .range1 (.bin .add false (.int 1) (.call 36 (.cons (.var 0) (.cons (.int 5) .nil))))) (env := [some (.loc 0), a1, a2, a3, a4, a5, a6, a7, a8, a9, a10, a11, a12, a13]) (src := Src.range 0 (1 + n)) (l := List.range (1 + n)) (enc := fun (i : Nat) => PV.int (0 + (i : Int))) (encB := encB2) (R := RPOk) (P := fun i z => Wh ns (b + 1 + 400 * i) z ∧ Exh0 h z) (z := h) (z1 := h1)
    (evI_r1' (n := 1 + n) (by
      have : ((1 + n : Nat) : Int) = 1 + (n : Int) := by omega
      rw [this]
      simp (disch := first | (simp only [List.length_append, List.length_map, List.length_cons, List.length_nil]; omega) | omega) [ss_end, ss_cons, ss_nil, s_ite, s_expr, s_set, s_asg, s_ret, s_frz, evE, evEs, evC, evCA, evCO, evAnd, evOr, evI, evO, evJs, retOf, asgn, asgns, wipe, bat, me_app0, me_ext0, mk_t0, mk_f0, ev_cat, e1]) (by omega)) (rng_items (1 + n)) ⟨w1, x1⟩
    (fun i a z ha ⟨hw, he⟩ => by
      have hi : i < 1 + n := by
        have := fields_comp.len_ge' ha
        rwa [List.length_range] at this
      obtain ⟨q, pl, h2, r2, o1, o2, w2, x2⟩ := row_drawn H (fuel := fuel) (k := k) hw (by omega)
      refine ⟨(q, pl), h2, ?_, ⟨o1, o2⟩, w2.mono (by omega), he.trans x2⟩
      simp only [encB2]
      generalize encR q = qv at *
      generalize encPl pl = pv at *
      simp (disch := first | (simp only [List.length_append, List.length_map, List.length_cons, List.length_nil]; omega) | omega) [ss_end, ss_cons, ss_nil, s_ite, s_expr, s_set, s_asg, s_ret, s_frz, evE, evEs, evC, evCA, evCO, evAnd, evOr, evI, evO, evJs, retOf, asgn, asgns, wipe, bat, me_app0, me_ext0, mk_t0, mk_f0, ev_cat, r2]) (by rw [List.length_range]; omega)
  rw [List.length_range] at l2 hw
  exact ⟨bs, h', e2, by omega, by omega, hr, hw.mono (by omega), he⟩
end
end J

set_option autoImplicit false
set_option linter.all false
set_option maxRecDepth 100000
set_option maxHeartbeats 4000000
namespace J
open PySem
def encFs (fs : List FP) : Cell := .lst (fs.map fun x => encF x.1)
def encPs (fs : List FP) : Cell := .lst (fs.map fun x => encFP x.2)
/-- the def's test of the rows -/
def rep43 : S := match G.d43_b6 with | .cons _ (.cons _ (.cons _ (.cons s _))) => s | _ => .pass
def putF : S := match G.d43_b6 with | .cons _ (.cons _ (.cons _ (.cons _ (.cons s _)))) => s | _ => .pass
def putP : S := match G.d43_b6 with | .cons _ (.cons _ (.cons _ (.cons _ (.cons _ (.cons s _))))) => s | _ => .pass
section
variable {T : Nat → Option Fd} {fuel k : Nat} (H : Hd T)
include H
theorem rep_ok {ns : List Int} {b : Nat} {h : Hh} {bs : List RP} (w : Wh ns b h) (hb : b ≤ 300000) (l1 : 1 ≤ bs.length) (l5 : bs.length ≤ 5) (ho : ∀ x ∈ bs, RPOk x) {a1 a2 a3 a4 a5 a6 a7 a9 a10 a11 a12 a13 : Option PV} :
    ∃ (cs : List RP) (h' : Hh), evS ⟨callAt T fuel (k + 4), fuel⟩ rep43 [some (.loc 0), a1, a2, a3, a4, a5, a6, a7, some (.lst (bs.map encB2)), a9, a10, a11, a12, a13] h = .ok (.next, [some (.loc 0), a1, a2, a3, a4, a5, a6, a7, some (.lst (cs.map encB2)), a9, a10, a11, a12, a13]) h' ∧ 1 ≤ cs.length ∧ cs.length ≤ 60 ∧ (∀ x ∈ cs, RPOk x) ∧ Wh ns (b + 1) h' ∧ Exh0 h h' := by
  have sh : rep43 = .ite (.and (.cons (.val (.cmp .eq (.bi .len false (.cons (.var 8) .nil)) (.int 5))) (.cons (.val (.cmp .lt (.bi .max1 false (.cons G.d43_c3 .nil)) (.int 4))) (.cons (.val (.cmp .eq (.call 36 (.cons (.var 0) (.cons (.int 6) .nil))) (.int 0))) .nil)))) (.cons (.set 8 (.bin .mul false (.var 8) (.int 12))) .nil) .nil := rfl
  have ln : ∀ m, evBi .len m [.lst (bs.map encB2)] = pure (.int (bs.length : Nat)) := fun m => by rw [bi_lenl, List.length_map]
  have tt : ∀ (i j : Int) (p : Bool), decide (i = j) = p → rd (evCmp .eq (.int i) (.int j)) = pure p := fun i j p e => by rw [← e]; rfl
  have tl : ∀ (i j : Int) (p : Bool), decide (i < j) = p → rd (evCmp .lt (.int i) (.int j)) = pure p := fun i j p e => by rw [← e]; rfl
  by_cases c5 : bs.length = 5
  · have ne : bs ≠ [] := fun z => by rw [z] at c5; cases c5
    obtain ⟨mx, m0⟩ := bi_maxN false (fun x : RP => ((x.2.before.length : Nat) : Int)) ne
    have c3 := c43_3 (c := ⟨callAt T fuel (k + 4), fuel⟩) (bs := bs) (by omega) (a0 := some (.loc 0)) (a1 := a1) (a2 := a2) (a3 := a3) (a4 := a4) (a5 := a5) (a6 := a6) (a7 := a7) (a9 := a9) (a10 := a10) (a11 := a11) (a12 := a12) (a13 := a13)
    have t0 := tt bs.length 5 true (by simp [c5])
    by_cases c4 : mx < 4
    · have t1 := tl mx 4 true (by simp [c4])
      obtain ⟨v, h1, e1, hv, w1, x1⟩ := drawn H (fuel := fuel) (k := k + 3) (M := 6) (m := 6) rfl w (by omega) (by decide) (by decide)
      by_cases z : v = 0
      · subst z
        have e1' : callAt T fuel (k + 4) 36 [.loc 0, .int 6] h = .ok (.int 0) h1 := e1
        have mv := mul_val (xs := bs.map encB2) (k := 12) (by decide) (by rw [List.length_map]; omega) (K := 12) rfl
        rw [rep_map] at mv
        refine ⟨(List.replicate 12 bs).flatten, h1, ?_, by simp [c5], by simp [c5], fun x hx => ho x (rep_mem hx), w1, x1⟩
        rw [sh]
        generalize ((List.replicate 12 bs).flatten).map encB2 = cv at *
        generalize bs.map encB2 = bv at *
        generalize (bs.map fun x : RP => PV.int ((x.2.before.length : Nat) : Int)) = lv at *
        simp (disch := first | (simp only [List.length_append, List.length_map, List.length_cons, List.length_nil]; omega) | omega) [ss_end, ss_cons, ss_nil, s_ite, s_expr, s_set, s_asg, s_ret, s_frz, evE, evEs, evC, evCA, evCO, evAnd, evOr, evI, evO, evJs, retOf, asgn, asgns, wipe, bat, me_app0, me_ext0, mk_t0, mk_f0, ev_cat, ln, t0, c3, m0, t1, e1', mv]
      · have t2 := tt v 0 false (by simp; omega)
        refine ⟨bs, h1, ?_, l1, by omega, ho, w1, x1⟩
        rw [sh]
        generalize bs.map encB2 = bv at *
        generalize (bs.map fun x : RP => PV.int ((x.2.before.length : Nat) : Int)) = lv at *
        simp (disch := first | (simp only [List.length_append, List.length_map, List.length_cons, List.length_nil]; omega) | omega) [ss_end, ss_cons, ss_nil, s_ite, s_expr, s_set, s_asg, s_ret, s_frz, evE, evEs, evC, evCA, evCO, evAnd, evOr, evI, evO, evJs, retOf, asgn, asgns, wipe, bat, me_app0, me_ext0, mk_t0, mk_f0, ev_cat, ln, t0, c3, m0, t1, e1, t2]
    · have t1 := tl mx 4 false (by simp; omega)
      refine ⟨bs, h, ?_, l1, by omega, ho, w.mono (by omega), Exh.refl _⟩
      rw [sh]
      generalize bs.map encB2 = bv at *
      generalize (bs.map fun x : RP => PV.int ((x.2.before.length : Nat) : Int)) = lv at *
      simp (disch := first | (simp only [List.length_append, List.length_map, List.length_cons, List.length_nil]; omega) | omega) [ss_end, ss_cons, ss_nil, s_ite, s_expr, s_set, s_asg, s_ret, s_frz, evE, evEs, evC, evCA, evCO, evAnd, evOr, evI, evO, evJs, retOf, asgn, asgns, wipe, bat, me_app0, me_ext0, mk_t0, mk_f0, ev_cat, ln, t0, c3, m0, t1]
  · have t0 := tt bs.length 5 false (by simp; omega)
    refine ⟨bs, h, ?_, l1, by omega, ho, w.mono (by omega), Exh.refl _⟩
    rw [sh]
    generalize bs.map encB2 = bv at *
    simp (disch := first | (simp only [List.length_append, List.length_map, List.length_cons, List.length_nil]; omega) | omega) [ss_end, ss_cons, ss_nil, s_ite, s_expr, s_set, s_asg, s_ret, s_frz, evE, evEs, evC, evCA, evCO, evAnd, evOr, evI, evO, evJs, retOf, asgn, asgns, wipe, bat, me_app0, me_ext0, mk_t0, mk_f0, ev_cat, ln, t0]
theorem fn_drawn {ns : List Int} {b : Nat} {h : Hh} {so : List (List Nat)} {uf up : Nat} {fs : List FP} (s0 : 0 < so.length) (s1 : so.length ≤ 20) (sw : ∀ x ∈ so, wordB x = true) (w : Wh ns b h) (hb : b ≤ 200000) (f0 : 0 < uf) (p0 : 0 < up) (ne : uf ≠ up) (cf : h[uf]? = some (encFs fs)) (cp : h[up]? = some (encPs fs)) (fl : fs.length ≤ 20) {a1 a5 x6 x7 x8 : Option PV} :
    ∃ (x : FP) (y6 y7 y8 : Option PV) (h' : Hh), evSs ⟨callAt T fuel (k + 4), fuel⟩ G.d43_b6 [some (.loc 0), a1, some (.lst (so.map sv)), some (.loc uf), some (.loc up), a5, x6, x7, x8, none, none, none, none, none] h = .ok (.next, [some (.loc 0), a1, some (.lst (so.map sv)), some (.loc uf), some (.loc up), a5, y6, y7, y8, none, none, none, none, none]) h' ∧ h'[uf]? = some (encFs (fs ++ [x])) ∧ h'[up]? = some (encPs (fs ++ [x])) ∧ FPOk x ∧ Wh ns (b + 2300) h' ∧ Exh (fun j => j = uf ∨ j = up) h h' := by
  obtain ⟨nm, h1, e1, ⟨n1, n2⟩, w1, x1⟩ := plain_ok H (fuel := fuel) (k := k + 2) (L := smalls) (.inl rfl) w (by omega)
  obtain ⟨ps, h2, e2, p8, pm, w2, x2⟩ := params_comp H (fuel := fuel) (k := k + 3) (so := so) w1 (by omega) s0 s1 (a1 := a1) (a3 := some (.loc uf)) (a4 := some (.loc up)) (a5 := a5) (a6 := some (sv nm)) (a7 := x7) (a8 := x8) (a9 := none) (a10 := none) (a11 := none) (a12 := none) (a13 := none)
  obtain ⟨bs, h3, e3, b1, b5, bo, w3, x3⟩ := both_comp H (fuel := fuel) (k := k) w2 (by omega) (a1 := a1) (a2 := some (.lst (so.map sv))) (a3 := some (.loc uf)) (a4 := some (.loc up)) (a5 := a5) (a6 := some (sv nm)) (a7 := some (.tup (ps.map sv))) (a8 := x8) (a9 := none) (a10 := none) (a11 := none) (a12 := none) (a13 := none)
  obtain ⟨cs, h4, e4, l1, l60, co, w4, x4⟩ := rep_ok H (fuel := fuel) (k := k) w3 (by omega) b1 b5 bo (a1 := a1) (a2 := some (.lst (so.map sv))) (a3 := some (.loc uf)) (a4 := some (.loc up)) (a5 := a5) (a6 := some (sv nm)) (a7 := some (.tup (ps.map sv))) (a9 := none) (a10 := none) (a11 := none) (a12 := none) (a13 := none)
  obtain ⟨v, h5, e5, hv, w5, x5⟩ := drawn H (fuel := fuel) (k := k + 3) (M := so.length) (m := so.length) rfl w4 (by omega) s0 (by omega)
  obtain ⟨rs, rm, pr⟩ := pick_sv so hv rfl
  have x14 : Exh0 h h4 := ((x1.trans x2).trans x3).trans x4
  have cf4 : h4[uf]? = some (encFs fs) := by rw [x14.2 uf f0 (len_ge cf) (fun f => f)]; exact cf
  have cf5 : h5[uf]? = some (encFs fs) := by rw [x5.2 uf f0 (len_ge cf4) (fun f => f)]; exact cf4
  have cp4 : h4[up]? = some (encPs fs) := by rw [x14.2 up p0 (len_ge cp) (fun f => f)]; exact cp
  have cp5 : h5[up]? = some (encPs fs) := by rw [x5.2 up p0 (len_ge cp4) (fun f => f)]; exact cp4
  have ln : ∀ m, evBi .len m [.lst (so.map sv)] = pure (.int (so.length : Nat)) := fun m => by rw [bi_lenl, List.length_map]
  have rv : rd (recvB .append (.loc uf)) h4 = .ok () h4 := rv_loc cf4 (by decide)
  have c4 := c43_4 (c := ⟨callAt T fuel (k + 4), fuel⟩) (bs := cs) l60 (a0 := some (.loc 0)) (a1 := a1) (a2 := some (.lst (so.map sv))) (a3 := some (.loc uf)) (a4 := some (.loc up)) (a5 := a5) (a6 := some (sv nm)) (a7 := some (.tup (ps.map sv))) (a9 := none) (a10 := none) (a11 := none) (a12 := none) (a13 := none)
  have c5 := c43_5 (c := ⟨callAt T fuel (k + 4), fuel⟩) (bs := cs) l60 (a0 := some (.loc 0)) (a1 := a1) (a2 := some (.lst (so.map sv))) (a3 := some (.loc uf)) (a4 := some (.loc up)) (a5 := a5) (a6 := some (sv nm)) (a7 := some (.tup (ps.map sv))) (a9 := none) (a10 := none) (a11 := none) (a12 := none) (a13 := none)
  have bt4 : ∀ m, evBi .tuple m [.lst ((cs.map (·.1)).map encR)] = pure (.tup ((cs.map (·.1)).map encR)) := fun m => bi_tup m _ (by rw [List.length_map, List.length_map]; exact sizeL_10 (by omega))
  have bt5 : ∀ m, evBi .tuple m [.lst ((cs.map (·.2)).map encPl)] = pure (.tup ((cs.map (·.2)).map encPl)) := fun m => bi_tup m _ (by rw [List.length_map, List.length_map]; exact sizeL_10 (by omega))
  have btp : ∀ m, evBi .tuple m [.lst (ps.map sv)] = pure (.tup (ps.map sv)) := fun m => bi_tup m _ (by rw [List.length_map]; exact sizeL_10 (by omega))
  have ap := me_app (encF ⟨nm, ps, rs, cs.map (·.1)⟩) cf5 (by rw [List.length_map]; exact Nat.le_trans (by omega : _ ≤ 100) (by decide))
  have q5 : evS ⟨callAt T fuel (k + 4), fuel⟩ putF [some (.loc 0), a1, some (.lst (so.map sv)), some (.loc uf), some (.loc up), a5, some (sv nm), some (.tup (ps.map sv)), some (.lst (cs.map encB2)), none, none, none, none, none] h4 = .ok (.next, [some (.loc 0), a1, some (.lst (so.map sv)), some (.loc uf), some (.loc up), a5, some (sv nm), some (.tup (ps.map sv)), some (.lst (cs.map encB2)), none, none, none, none, none]) (h5.set uf (.lst (fs.map (fun x => encF x.1) ++ [encF ⟨nm, ps, rs, cs.map (·.1)⟩]))) := by
    have sh : putF = .expr (.me .append (.var 3) (.cons (.tup (.cons (.var 6) (.cons (.var 7) (.cons (.idx (.var 2) (.call 36 (.cons (.var 0) (.cons (.bi .len false (.cons (.var 2) .nil)) .nil)))) (.cons (.bi .tuple false (.cons G.d43_c4 .nil)) .nil))))) .nil)) := rfl
    rw [sh]
    simp only [encF] at ap ⊢
    generalize (cs.map (·.1)).map encR = v1 at *
    generalize cs.map encB2 = v2 at *
    generalize so.map sv = v3 at *
    generalize ps.map sv = v4 at *
    generalize (fs.map fun x : FP => PV.tup [PV.str (st x.1.name), .tup (x.1.params.map sv), .str (st x.1.result), .tup (x.1.rows.map encR)]) = v5 at *
    simp (disch := first | (simp only [List.length_append, List.length_map, List.length_cons, List.length_nil]; omega) | omega) [ss_end, ss_cons, ss_nil, s_ite, s_expr, s_set, s_asg, s_ret, s_frz, evE, evEs, evC, evCA, evCO, evAnd, evOr, evI, evO, evJs, retOf, asgn, asgns, wipe, bat, me_app0, me_ext0, mk_t0, mk_f0, ev_cat, rv, ln, e5, pr, c4, bt4, mk_tf, ap]
  obtain ⟨h6, d6⟩ : ∃ z, z = h5.set uf (.lst (fs.map (fun x => encF x.1) ++ [encF ⟨nm, ps, rs, cs.map (·.1)⟩])) := ⟨_, rfl⟩
  rw [← d6] at q5
  have w6 : Wh ns (b + 20 + 20 + 2100 + 1 + 1) h6 := by rw [d6]; exact w5.set f0 _
  have cp6 : h6[up]? = some (encPs fs) := by rw [d6]; exact set_other cp5 ne
  have cf6 : h6[uf]? = some (.lst (fs.map (fun x => encF x.1) ++ [encF ⟨nm, ps, rs, cs.map (·.1)⟩])) := by rw [d6]; exact set_same cf5
  obtain ⟨en, h7, e7, d7, w7, x7⟩ := deeds_drawn H (fuel := fuel) (k := k + 2) true w6 (by omega)
  have cp7 : h7[up]? = some (encPs fs) := by rw [x7.2 up p0 (len_ge cp6) (fun f => f)]; exact cp6
  have cf7 : h7[uf]? = some (.lst (fs.map (fun x => encF x.1) ++ [encF ⟨nm, ps, rs, cs.map (·.1)⟩])) := by rw [x7.2 uf f0 (len_ge cf6) (fun f => f)]; exact cf6
  have rv6 : rd (recvB .append (.loc up)) h6 = .ok () h6 := rv_loc cp6 (by decide)
  have ap7 := me_app (encFP ⟨en, cs.map (·.2)⟩) cp7 (by rw [List.length_map]; exact Nat.le_trans (by omega : _ ≤ 100) (by decide))
  have q6 : evS ⟨callAt T fuel (k + 4), fuel⟩ putP [some (.loc 0), a1, some (.lst (so.map sv)), some (.loc uf), some (.loc up), a5, some (sv nm), some (.tup (ps.map sv)), some (.lst (cs.map encB2)), none, none, none, none, none] h6 = .ok (.next, [some (.loc 0), a1, some (.lst (so.map sv)), some (.loc uf), some (.loc up), a5, some (sv nm), some (.tup (ps.map sv)), some (.lst (cs.map encB2)), none, none, none, none, none]) (h7.set up (.lst (fs.map (fun x => encFP x.2) ++ [encFP ⟨en, cs.map (·.2)⟩]))) := by
    have sh : putP = .expr (.me .append (.var 4) (.cons (.tup (.cons (.call 40 (.cons (.var 0) (.cons (.bl true) .nil))) (.cons (.bi .tuple false (.cons G.d43_c5 .nil)) .nil))) .nil)) := rfl
    rw [sh]
    simp only [encFP] at ap7 ⊢
    generalize (cs.map (·.2)).map encPl = v1 at *
    generalize cs.map encB2 = v2 at *
    generalize so.map sv = v3 at *
    generalize ps.map sv = v4 at *
    generalize encDs en = ev at *
    generalize (fs.map fun x : FP => PV.tup [encDs x.2.entry, PV.tup (x.2.places.map encPl)]) = v5 at *
    simp (disch := first | (simp only [List.length_append, List.length_map, List.length_cons, List.length_nil]; omega) | omega) [ss_end, ss_cons, ss_nil, s_ite, s_expr, s_set, s_asg, s_ret, s_frz, evE, evEs, evC, evCA, evCO, evAnd, evOr, evI, evO, evJs, retOf, asgn, asgns, wipe, bat, me_app0, me_ext0, mk_t0, mk_f0, ev_cat, rv6, e7, c5, bt5, mk_tf, ap7]
  have sh : G.d43_b6 = .cons (.set 6 (.call 37 (.cons (.var 0) (.cons (.str (Str.ofString "abcdefghijklmnopqrstuvwxyz")) .nil)))) (.cons (.set 7 (.bi .tuple false (.cons G.d43_c1 .nil))) (.cons (.set 8 G.d43_c2) (.cons rep43 (.cons putF (.cons putP .nil))))) := rfl
  refine ⟨(⟨nm, ps, rs, cs.map (·.1)⟩, ⟨en, cs.map (·.2)⟩), some (sv nm), some (.tup (ps.map sv)), some (.lst (cs.map encB2)), h7.set up (.lst (fs.map (fun x => encFP x.2) ++ [encFP ⟨en, cs.map (·.2)⟩])), ?_, ?_, ?_, ⟨?_, ?_⟩, (w7.set p0 _).mono (by omega), ?_⟩
  · rw [sh]
    generalize rep43 = g1 at *
    generalize putF = g2 at *
    generalize putP = g3 at *
    generalize so.map sv = v3 at *
    generalize ps.map sv = v4 at *
    generalize bs.map encB2 = v5 at *
    generalize cs.map encB2 = v6 at *
    generalize h7.set up (.lst (fs.map (fun x => encFP x.2) ++ [encFP ⟨en, cs.map (·.2)⟩])) = h8 at *
    simp (disch := first | (simp only [List.length_append, List.length_map, List.length_cons, List.length_nil]; omega) | omega) [ss_end, ss_cons, ss_nil, s_ite, s_expr, s_set, s_asg, s_ret, s_frz, evE, evEs, evC, evCA, evCO, evAnd, evOr, evI, evO, evJs, retOf, asgn, asgns, wipe, bat, me_app0, me_ext0, mk_t0, mk_f0, ev_cat, z_smalls, e1, e2, btp, e3, e4, q5, q6]
  · rw [set_other cf7 (fun e => ne e.symm)]
    simp [encFs]
  · rw [set_same cp7]
    simp [encPs]
  · refine ⟨by unfold lowB; rw [n1, n2]; rfl, p8, fun x hx => sw x (pm x hx), sw rs rm, by rw [List.length_map]; exact l1, by rw [List.length_map]; exact l60, fun q hq => ?_⟩
    obtain ⟨x, hx, rfl⟩ := List.mem_map.mp hq
    exact (co x hx).1
  · refine ⟨d7, by rw [List.length_map, List.length_map], fun y hy => ?_⟩
    have hy' : y ∈ (cs.map (·.1)).zip (cs.map (·.2)) := hy
    rw [List.zip_map'] at hy'
    obtain ⟨x, hx, rfl⟩ := List.mem_map.mp hy'
    exact (co x hx).2
  · refine (x14.trans x5).wk.trans ?_
    refine Exh.trans (b := h6) (by rw [d6]; exact Exh.set h5 _ (.inl rfl)) ?_
    exact x7.wk.trans (Exh.set h7 _ (.inr rfl))
end
end J

set_option autoImplicit false
set_option linter.all false
set_option maxRecDepth 100000
set_option maxHeartbeats 4000000
namespace J
open PySem
def rep43b : S := match G.d43_law_any.body with | .cons _ (.cons _ (.cons _ (.cons _ (.cons _ (.cons s _))))) => s | _ => .pass
theorem zip_fs {l : List FP} {x : Fn × FPl} (h : x ∈ (l.map (·.1)).zip (l.map (·.2))) : x ∈ l := by
  rw [List.zip_map'] at h
  obtain ⟨y, hy, rfl⟩ := List.mem_map.mp h
  exact hy
section
variable {T : Nat → Option Fd} {fuel k : Nat} (H : Hd T)
include H
theorem fns_loop {ns : List Int} {b : Nat} {h : Hh} {so : List (List Nat)} {uf up : Nat} (s0 : 0 < so.length) (s1 : so.length ≤ 20) (sw : ∀ x ∈ so, wordB x = true) (w : Wh ns b h) (hb : b ≤ 100000) (f0 : 0 < uf) (p0 : 0 < up) (ne : uf ≠ up) (cf : h[uf]? = some (.lst [])) (cp : h[up]? = some (.lst [])) {a1 x5 x6 x7 x8 : Option PV} :
    ∃ (fs : List FP) (y5 y6 y7 y8 : Option PV) (h' : Hh), evS ⟨callAt T fuel (k + 4), fuel⟩ G.d43_l7 [some (.loc 0), a1, some (.lst (so.map sv)), some (.loc uf), some (.loc up), x5, x6, x7, x8, none, none, none, none, none] h = .ok (.next, [some (.loc 0), a1, some (.lst (so.map sv)), some (.loc uf), some (.loc up), y5, y6, y7, y8, none, none, none, none, none]) h' ∧ h'[uf]? = some (encFs fs) ∧ h'[up]? = some (encPs fs) ∧ 1 ≤ fs.length ∧ fs.length ≤ 3 ∧ (∀ x ∈ fs, FPOk x) ∧ Wh ns (b + 7000) h' ∧ Exh (fun j => j = uf ∨ j = up) h h' := by
  obtain ⟨v, h1, e1, hv, w1, x1⟩ := drawn H (fuel := fuel) (k := k + 3) (M := 4) (m := 4) rfl w (by omega) (by decide) (by decide)
  obtain ⟨n, hn4, p⟩ := pick_nat [1, 1, 2, 3] hv (xs := [.int 1, .int 1, .int 2, .int 3]) rfl
  have n3 : 1 ≤ n ∧ n ≤ 3 := by
    simp only [List.mem_cons, List.not_mem_nil, or_false] at hn4
    omega
  have gf : h1[uf]? = some (.lst []) := by rw [x1.2 uf f0 (len_ge cf) (fun f => f)]; exact cf
  have gp : h1[up]? = some (.lst []) := by rw [x1.2 up p0 (len_ge cp) (fun f => f)]; exact cp
  obtain ⟨env', h', e2, ⟨fs, y5, y6, y7, y8, hx, hf, hp, hl, ha, hw, he⟩⟩ := rng_loop (c := ⟨callAt T fuel (k + 4), fuel⟩) (t := .name 5) (a := .idx (.list false (.cons (.int 1) (.cons (.int 1) (.cons (.int 2) (.cons (.int 3) .nil))))) (.call 36 (.cons (.var 0) (.cons (.int 4) .nil)))) (body := G.d43_b6) (n := n) (z := h) (z1 := h1) (env := [some (.loc 0), a1, some (.lst (so.map sv)), some (.loc uf), some (.loc up), x5, x6, x7, x8, none, none, none, none, none])
    (P := fun i env z => ∃ (fs : List FP) (y5 y6 y7 y8 : Option PV), env = [some (.loc 0), a1, some (.lst (so.map sv)), some (.loc uf), some (.loc up), y5, y6, y7, y8, none, none, none, none, none] ∧ z[uf]? = some (encFs fs) ∧ z[up]? = some (encPs fs) ∧ fs.length = i ∧ (∀ x ∈ fs, FPOk x) ∧ Wh ns (b + 1 + 2300 * i) z ∧ Exh (fun j => j = uf ∨ j = up) h z)
    (by simp (disch := first | (simp only [List.length_append, List.length_map, List.length_cons, List.length_nil]; omega) | omega) [ss_end, ss_cons, ss_nil, s_ite, s_expr, s_set, s_asg, s_ret, s_frz, evE, evEs, evC, evCA, evCO, evAnd, evOr, evI, evO, evJs, retOf, asgn, asgns, wipe, bat, me_app0, me_ext0, mk_t0, mk_f0, ev_cat, e1, p]) (by omega) ⟨[], x5, x6, x7, x8, rfl, gf, gp, rfl, (fun _ h => absurd h List.not_mem_nil), w1, x1.wk⟩
    (fun i env z hi ⟨fs, y5, y6, y7, y8, hx, hf, hp, hl, ha, hw, he⟩ => by
      subst hx
      obtain ⟨x, v6, v7, v8, h2, r2, r3, r4, r5, w2, x2⟩ := fn_drawn H (fuel := fuel) (k := k) s0 s1 sw hw (by omega) f0 p0 ne hf hp (by omega) (a1 := a1) (a5 := some (.int (i : Nat))) (x6 := y6) (x7 := y7) (x8 := y8)
      refine ⟨_, h2, r2, fs ++ [x], _, _, _, _, rfl, r3, r4, by simp [hl], ?_, w2.mono (by omega), he.trans x2⟩
      intro y hy
      rw [List.mem_append] at hy
      rcases hy with hy | hy
      · exact ha y hy
      · rw [List.mem_singleton] at hy
        subst hy; exact r5)
  subst hx
  exact ⟨fs, y5, y6, y7, y8, h', e2, hf, hp, by omega, by omega, ha, hw.mono (by omega), he⟩
theorem rep_all {ns : List Int} {b : Nat} {h : Hh} {uf up : Nat} {fs : List FP} (w : Wh ns b h) (hb : b ≤ 200000) (f0 : 0 < uf) (p0 : 0 < up) (cf : h[uf]? = some (encFs fs)) (cp : h[up]? = some (encPs fs)) (l1 : 1 ≤ fs.length) (l3 : fs.length ≤ 3) (ho : ∀ x ∈ fs, FPOk x) {L : Nat} (lf : L ≤ uf) (lp : L ≤ up) (ne : uf ≠ up) {a1 a2 a5 a6 a7 a8 a9 a10 a11 a12 a13 : Option PV} :
    ∃ (gs : List FP) (vf vp : Nat) (h' : Hh), evS ⟨callAt T fuel (k + 4), fuel⟩ rep43b [some (.loc 0), a1, a2, some (.loc uf), some (.loc up), a5, a6, a7, a8, a9, a10, a11, a12, a13] h = .ok (.next, [some (.loc 0), a1, a2, some (.loc vf), some (.loc vp), a5, a6, a7, a8, a9, a10, a11, a12, a13]) h' ∧ h'[vf]? = some (encFs gs) ∧ h'[vp]? = some (encPs gs) ∧ 1 ≤ gs.length ∧ gs.length ≤ 12 ∧ (∀ x ∈ gs, FPOk x) ∧ L ≤ vf ∧ L ≤ vp ∧ vf ≠ vp ∧ Wh ns (b + 1) h' ∧ Exh0 h h' := by
  have sh : rep43b = .ite (.and (.cons (.val (.cmp .eq (.bi .len false (.cons (.var 3) .nil)) (.int 3))) (.cons (.val (.cmp .lt (.bi .max1 false (.cons G.d43_c8 .nil)) (.int 6))) (.cons (.val (.cmp .eq (.call 36 (.cons (.var 0) (.cons (.int 8) .nil))) (.int 0))) .nil)))) (.cons (.set 3 (.bin .mul true (.var 3) (.int 4))) (.cons (.set 4 (.bin .mul true (.var 4) (.int 4))) .nil)) .nil := rfl
  have ln := len_loc (show h[uf]? = some (.lst (fs.map fun x => encF x.1)) from cf)
  rw [List.length_map] at ln
  have tt : ∀ (i j : Int) (p : Bool), decide (i = j) = p → rd (evCmp .eq (.int i) (.int j)) = pure p := fun i j p e => by rw [← e]; rfl
  have tl : ∀ (i j : Int) (p : Bool), decide (i < j) = p → rd (evCmp .lt (.int i) (.int j)) = pure p := fun i j p e => by rw [← e]; rfl
  by_cases c5 : fs.length = 3
  · have nn : fs ≠ [] := fun z => by rw [z] at c5; cases c5
    obtain ⟨mx, m0⟩ := bi_maxN false (fun x : FP => ((x.1.rows.length : Nat) : Int)) nn
    have c3 := c43_8 (c := ⟨callAt T fuel (k + 4), fuel⟩) (h := h) (u := uf) (fs := fs) cf (by omega) (a0 := some (.loc 0)) (a1 := a1) (a2 := a2) (a4 := some (.loc up)) (a5 := a5) (a6 := a6) (a7 := a7) (a8 := a8) (a9 := a9) (a10 := a10) (a11 := a11) (a12 := a12) (a13 := a13)
    have t0 := tt fs.length 3 true (by simp [c5])
    by_cases c4 : mx < 6
    · have t1 := tl mx 6 true (by simp [c4])
      obtain ⟨v, h1, e1, hv, w1, x1⟩ := drawn H (fuel := fuel) (k := k + 3) (M := 8) (m := 8) rfl w (by omega) (by decide) (by decide)
      have cf1 : h1[uf]? = some (encFs fs) := by rw [x1.2 uf f0 (len_ge cf) (fun f => f)]; exact cf
      have cp1 : h1[up]? = some (encPs fs) := by rw [x1.2 up p0 (len_ge cp) (fun f => f)]; exact cp
      by_cases z : v = 0
      · subst z
        have e1' : callAt T fuel (k + 4) 36 [.loc 0, .int 8] h = .ok (.int 0) h1 := e1
        have m1 := mul_loc (show h1[uf]? = some (.lst (fs.map fun x => encF x.1)) from cf1) (k := 4) (by decide) (by rw [List.length_map]; omega) (K := 4) rfl
        have cp2 : (h1 ++ [Cell.lst (List.replicate 4 (fs.map fun x => encF x.1)).flatten])[up]? = some (encPs fs) := al_old cp1
        have m2 := mul_loc (show (h1 ++ [Cell.lst (List.replicate 4 (fs.map fun x => encF x.1)).flatten])[up]? = some (.lst (fs.map fun x => encFP x.2)) from cp2) (k := 4) (by decide) (by rw [List.length_map]; omega) (K := 4) rfl
        rw [rep_map] at m1 m2
        rw [rep_map] at m2
        obtain ⟨h2, d2⟩ : ∃ z, z = h1 ++ [Cell.lst ((List.replicate 4 fs).flatten.map fun x => encF x.1)] := ⟨_, rfl⟩
        rw [← d2] at m1 m2
        have g2 : h2.length = h1.length + 1 := by rw [d2, List.length_append]; rfl
        have g1 := len_ge cf1
        have g1' := len_ge cp1
        refine ⟨(List.replicate 4 fs).flatten, h1.length, h2.length, h2 ++ [.lst ((List.replicate 4 fs).flatten.map fun x => encFP x.2)], ?_, ?_, al_new h2 _, by simp [c5], by simp [c5], fun x hx => ho x (rep_mem hx), by omega, by omega, by omega, ?_, ?_⟩
        · rw [sh]
          generalize ((List.replicate 4 fs).flatten.map fun x : FP => encF x.1) = v1 at *
          generalize ((List.replicate 4 fs).flatten.map fun x : FP => encFP x.2) = v2 at *
          generalize (fs.map fun x : FP => PV.int ((x.1.rows.length : Nat) : Int)) = v3 at *
          simp (disch := first | (simp only [List.length_append, List.length_map, List.length_cons, List.length_nil]; omega) | omega) [ss_end, ss_cons, ss_nil, s_ite, s_expr, s_set, s_asg, s_ret, s_frz, evE, evEs, evC, evCA, evCO, evAnd, evOr, evI, evO, evJs, retOf, asgn, asgns, wipe, bat, me_app0, me_ext0, mk_t0, mk_f0, ev_cat, ln, t0, c3, m0, t1, e1', m1, m2]
        · refine al_old ?_
          rw [d2]; exact al_new h1 _
        · rw [d2]; exact (w1.app _).app _
        · refine x1.trans (Exh.trans (b := h2) (by rw [d2]; exact Exh.app _ _ _) (Exh.app _ _ _))
      · have t2 := tt v 0 false (by simp; omega)
        refine ⟨fs, uf, up, h1, ?_, cf1, cp1, l1, by omega, ho, lf, lp, ne, w1, x1⟩
        rw [sh]
        generalize (fs.map fun x : FP => PV.int ((x.1.rows.length : Nat) : Int)) = lv at *
        simp (disch := first | (simp only [List.length_append, List.length_map, List.length_cons, List.length_nil]; omega) | omega) [ss_end, ss_cons, ss_nil, s_ite, s_expr, s_set, s_asg, s_ret, s_frz, evE, evEs, evC, evCA, evCO, evAnd, evOr, evI, evO, evJs, retOf, asgn, asgns, wipe, bat, me_app0, me_ext0, mk_t0, mk_f0, ev_cat, ln, t0, c3, m0, t1, e1, t2]
    · have t1 := tl mx 6 false (by simp; omega)
      refine ⟨fs, uf, up, h, ?_, cf, cp, l1, by omega, ho, lf, lp, ne, w.mono (by omega), Exh.refl _⟩
      rw [sh]
      generalize (fs.map fun x : FP => PV.int ((x.1.rows.length : Nat) : Int)) = lv at *
      simp (disch := first | (simp only [List.length_append, List.length_map, List.length_cons, List.length_nil]; omega) | omega) [ss_end, ss_cons, ss_nil, s_ite, s_expr, s_set, s_asg, s_ret, s_frz, evE, evEs, evC, evCA, evCO, evAnd, evOr, evI, evO, evJs, retOf, asgn, asgns, wipe, bat, me_app0, me_ext0, mk_t0, mk_f0, ev_cat, ln, t0, c3, m0, t1]
  · have t0 := tt fs.length 3 false (by simp; omega)
    refine ⟨fs, uf, up, h, ?_, cf, cp, l1, by omega, ho, lf, lp, ne, w.mono (by omega), Exh.refl _⟩
    rw [sh]
    simp (disch := first | (simp only [List.length_append, List.length_map, List.length_cons, List.length_nil]; omega) | omega) [ss_end, ss_cons, ss_nil, s_ite, s_expr, s_set, s_asg, s_ret, s_frz, evE, evEs, evC, evCA, evCO, evAnd, evOr, evI, evO, evJs, retOf, asgn, asgns, wipe, bat, me_app0, me_ext0, mk_t0, mk_f0, ev_cat, ln, t0]
theorem any_ok {ns : List Int} {b : Nat} {h : Hh} (w : Wh ns b h) (hb : b ≤ 50000) : ∃ (p : Pr) (q : List FPl) (h' : Hh), callAt T fuel (k + 5) 43 [.loc 0] h = .ok (.lst [encP p, encPP q]) h' ∧ PrOk p ∧ PPOk p q ∧ Wh ns (b + 20000) h' ∧ Exh0 h h' := by
  have hp := w.pos
  obtain ⟨ks, h1, e1, ko, w1, x1⟩ := kinds_ok H (fuel := fuel) (k := k) w (by omega)
  obtain ⟨nm, h2, e2, ⟨n1, n2⟩, w2, x2⟩ := plain_ok H (fuel := fuel) (k := k + 2) (L := caps) (.inr rfl) w1 (by omega)
  have nmh : highB nm = true := by unfold highB; rw [n1, n2]; rfl
  obtain ⟨so, dso⟩ : ∃ z, z = namesK ks ++ [numL, nm] := ⟨_, rfl⟩
  have kl : (namesK ks).length ≤ 6 := by simp only [namesK, List.length_map]; exact ko.l
  have sl : so.length ≤ 8 := by rw [dso]; simp only [List.length_append, List.length_cons, List.length_nil]; omega
  have s0 : 0 < so.length := by rw [dso]; simp
  have sw : ∀ x ∈ so, wordB x = true := fun x hx => by
    rw [dso, List.mem_append] at hx
    rcases hx with hx | hx
    · obtain ⟨q, hq, rfl⟩ := List.mem_map.mp hx
      exact high_word (ko.w q hq).t
    · simp only [List.mem_cons, List.not_mem_nil, or_false] at hx
      rcases hx with rfl | rfl
      · exact num_word
      · exact high_word nmh
  have g1 := x1.1
  have g2 := x2.1
  have q3 := alloc_s (c := ⟨callAt T fuel (k + 4), fuel⟩) (env := [some (.loc 0), some (.tup (ks.map encK)), some (.lst (so.map sv)), none, none, none, none, none, none, none, none, none, none, none]) (h := h2) (i := 3) (by simp)
  obtain ⟨h3, d3⟩ : ∃ z, z = h2 ++ [Cell.lst []] := ⟨_, rfl⟩
  rw [← d3] at q3
  have g3 : h3.length = h2.length + 1 := by rw [d3, List.length_append]; rfl
  have w3 : Wh ns (b + 3000 + 20) h3 := by rw [d3]; exact w2.app _
  have f3 : h3[h2.length]? = some (.lst []) := by rw [d3]; exact al_new h2 _
  have q4 := alloc_s (c := ⟨callAt T fuel (k + 4), fuel⟩) (env := [some (.loc 0), some (.tup (ks.map encK)), some (.lst (so.map sv)), some (.loc h2.length), none, none, none, none, none, none, none, none, none, none]) (h := h3) (i := 4) (by simp)
  obtain ⟨h4, d4⟩ : ∃ z, z = h3 ++ [Cell.lst []] := ⟨_, rfl⟩
  rw [← d4] at q4
  have w4 : Wh ns (b + 3000 + 20) h4 := by rw [d4]; exact w3.app _
  have f4 : h4[h2.length]? = some (.lst []) := by rw [d4]; exact al_old f3
  have p4 : h4[h3.length]? = some (.lst []) := by rw [d4]; exact al_new h3 _
  obtain ⟨fs, y5, y6, y7, y8, h5, e5, f5, p5, fl1, fl3, fo, w5, x5⟩ := fns_loop H (fuel := fuel) (k := k) (so := so) s0 (by omega) sw w4 (by omega) (by omega) (by omega) (by omega) f4 p4 (a1 := some (.tup (ks.map encK))) (x5 := none) (x6 := none) (x7 := none) (x8 := none)
  obtain ⟨gs, vf, vp, h6, e6, f6, p6, l1, l12, go, vf0, vp0, vne, w6, x6⟩ := rep_all H (fuel := fuel) (k := k) w5 (by omega) (by omega) (by omega) f5 p5 fl1 fl3 fo (L := h2.length) (Nat.le_refl _) (by omega) (by omega) (a1 := some (.tup (ks.map encK))) (a2 := some (.lst (so.map sv))) (a5 := y5) (a6 := y6) (a7 := y7) (a8 := y8) (a9 := none) (a10 := none) (a11 := none) (a12 := none) (a13 := none)
  have q7 := frz_s (c := ⟨callAt T fuel (k + 4), fuel⟩) (env := [some (.loc 0), some (.tup (ks.map encK)), some (.lst (so.map sv)), some (.loc vf), some (.loc vp), y5, y6, y7, y8, none, none, none, none, none]) (h := h6) (i := 3) rfl (show h6[vf]? = some (.lst (gs.map fun x => encF x.1)) from f6)
  have p7 : (h6.set vf .dead)[vp]? = some (encPs gs) := set_other p6 vne
  have q8 := frz_s (c := ⟨callAt T fuel (k + 4), fuel⟩) (env := [some (.loc 0), some (.tup (ks.map encK)), some (.lst (so.map sv)), some (.lst (gs.map fun x => encF x.1)), some (.loc vp), y5, y6, y7, y8, none, none, none, none, none]) (h := h6.set vf .dead) (i := 4) rfl (show (h6.set vf .dead)[vp]? = some (.lst (gs.map fun x => encFP x.2)) from p7)
  have b1 : ∀ m, evBi .tuple m [.lst (gs.map fun x => encF x.1)] = pure (.tup (gs.map fun x => encF x.1)) := fun m => bi_tup m _ (by rw [List.length_map]; exact sizeL_10 (by omega))
  have b2 : ∀ m, evBi .tuple m [.lst (gs.map fun x => encFP x.2)] = pure (.tup (gs.map fun x => encFP x.2)) := fun m => bi_tup m _ (by rw [List.length_map]; exact sizeL_10 (by omega))
  have q9 : ∀ z, evS ⟨callAt T fuel (k + 4), fuel⟩ (.ret (.list false (.cons (.tup (.cons (.var 1) (.cons (.bi .tuple false (.cons (.var 3) .nil)) .nil))) (.cons (.bi .tuple false (.cons (.var 4) .nil)) .nil)))) [some (.loc 0), some (.tup (ks.map encK)), some (.lst (so.map sv)), some (.lst (gs.map fun x => encF x.1)), some (.lst (gs.map fun x => encFP x.2)), y5, y6, y7, y8, none, none, none, none, none] z = .ok (.ret (.lst [.tup [.tup (ks.map encK), .tup (gs.map fun x => encF x.1)], .tup (gs.map fun x => encFP x.2)]), [some (.loc 0), some (.tup (ks.map encK)), some (.lst (so.map sv)), some (.lst (gs.map fun x => encF x.1)), some (.lst (gs.map fun x => encFP x.2)), y5, y6, y7, y8, none, none, none, none, none]) z := fun z => by
    generalize (gs.map fun x : FP => encF x.1) = v1 at *
    generalize (gs.map fun x : FP => encFP x.2) = v2 at *
    generalize ks.map encK = v3 at *
    generalize so.map sv = v4 at *
    simp (disch := first | (simp only [List.length_append, List.length_map, List.length_cons, List.length_nil]; omega) | omega) [ss_end, ss_cons, ss_nil, s_ite, s_expr, s_set, s_asg, s_ret, s_frz, evE, evEs, evC, evCA, evCO, evAnd, evOr, evI, evO, evJs, retOf, asgn, asgns, wipe, bat, me_app0, me_ext0, mk_t0, mk_f0, ev_cat, b1, b2, mk_tf]
  have c0 := c43_0 (c := ⟨callAt T fuel (k + 4), fuel⟩) (ks := ks) ko.l (a0 := some (.loc 0)) (a2 := none) (a3 := none) (a4 := none) (a5 := none) (a6 := none) (a7 := none) (a8 := none) (a9 := none) (a10 := none) (a11 := none) (a12 := none) (a13 := none)
  have q1 : evS ⟨callAt T fuel (k + 4), fuel⟩ (.set 1 (.call 39 (.cons (.var 0) .nil))) [some (.loc 0), none, none, none, none, none, none, none, none, none, none, none, none, none] h = .ok (.next, [some (.loc 0), some (.tup (ks.map encK)), none, none, none, none, none, none, none, none, none, none, none, none]) h1 := by
    generalize ks.map encK = v3 at *
    simp (disch := first | (simp only [List.length_append, List.length_map, List.length_cons, List.length_nil]; omega) | omega) [ss_end, ss_cons, ss_nil, s_ite, s_expr, s_set, s_asg, s_ret, s_frz, evE, evEs, evC, evCA, evCO, evAnd, evOr, evI, evO, evJs, retOf, asgn, asgns, wipe, bat, me_app0, me_ext0, mk_t0, mk_f0, ev_cat, e1]
  have q2 : evS ⟨callAt T fuel (k + 4), fuel⟩ (.set 2 (.bin .add false G.d43_c0 (.list false (.cons (.str (Str.ofString "number")) (.cons (.call 37 (.cons (.var 0) (.cons (.str (Str.ofString "ABCDEFGHIJKLMNOPQRSTUVWXYZ")) .nil))) .nil))))) [some (.loc 0), some (.tup (ks.map encK)), none, none, none, none, none, none, none, none, none, none, none, none] h1 = .ok (.next, [some (.loc 0), some (.tup (ks.map encK)), some (.lst (so.map sv)), none, none, none, none, none, none, none, none, none, none, none]) h2 := by
    have e : so.map sv = (namesK ks).map sv ++ [sv numL, sv nm] := by rw [dso, List.map_append]; rfl
    have ll : ((namesK ks).map sv).length ≤ 6 := by rw [List.length_map]; exact kl
    rw [e]
    generalize (namesK ks).map sv = v2 at *
    generalize ks.map encK = v3 at *
    simp (disch := first | (simp only [List.length_append, List.length_map, List.length_cons, List.length_nil]; omega) | omega) [ss_end, ss_cons, ss_nil, s_ite, s_expr, s_set, s_asg, s_ret, s_frz, evE, evEs, evC, evCA, evCO, evAnd, evOr, evI, evO, evJs, retOf, asgn, asgns, wipe, bat, me_app0, me_ext0, mk_t0, mk_f0, ev_cat, c0, s_num, z_caps, e2]
  have sh : G.d43_law_any.body = .cons (.set 1 (.call 39 (.cons (.var 0) .nil))) (.cons (.set 2 (.bin .add false G.d43_c0 (.list false (.cons (.str (Str.ofString "number")) (.cons (.call 37 (.cons (.var 0) (.cons (.str (Str.ofString "ABCDEFGHIJKLMNOPQRSTUVWXYZ")) .nil))) .nil))))) (.cons (.set 3 (.list true .nil)) (.cons (.set 4 (.list true .nil)) (.cons G.d43_l7 (.cons rep43b (.cons (.frz 3) (.cons (.frz 4) (.cons (.ret (.list false (.cons (.tup (.cons (.var 1) (.cons (.bi .tuple false (.cons (.var 3) .nil)) .nil))) (.cons (.bi .tuple false (.cons (.var 4) .nil)) .nil)))) .nil)))))))) := rfl
  have body : (evSs ⟨callAt T fuel (k + 4), fuel⟩ G.d43_law_any.body [some (.loc 0), none, none, none, none, none, none, none, none, none, none, none, none, none] >>= retOf) h = .ok (.lst [.tup [.tup (ks.map encK), .tup (gs.map fun x => encF x.1)], .tup (gs.map fun x => encFP x.2)]) ((h6.set vf .dead).set vp .dead) := by
    rw [ss_end, sh, ss_cons, q1, kon_next, ss_cons, q2, kon_next, ss_cons, q3, kon_next, ss_cons]
    show kend (kon _ _ (evS ⟨callAt T fuel (k + 4), fuel⟩ (.set 4 (.list true .nil)) [some (.loc 0), some (.tup (ks.map encK)), some (.lst (so.map sv)), some (.loc h2.length), none, none, none, none, none, none, none, none, none, none] h3)) = _
    rw [q4, kon_next, ss_cons]
    show kend (kon _ _ (evS ⟨callAt T fuel (k + 4), fuel⟩ G.d43_l7 [some (.loc 0), some (.tup (ks.map encK)), some (.lst (so.map sv)), some (.loc h2.length), some (.loc h3.length), none, none, none, none, none, none, none, none, none] h4)) = _
    rw [e5, kon_next, ss_cons, e6, kon_next, ss_cons, q7, kon_next, ss_cons]
    show kend (kon _ _ (evS ⟨callAt T fuel (k + 4), fuel⟩ (.frz 4) [some (.loc 0), some (.tup (ks.map encK)), some (.lst (so.map sv)), some (.lst (gs.map fun x => encF x.1)), some (.loc vp), y5, y6, y7, y8, none, none, none, none, none] (h6.set vf .dead))) = _
    rw [q8, kon_next, ss_cons]
    show kend (kon _ _ (evS ⟨callAt T fuel (k + 4), fuel⟩ _ [some (.loc 0), some (.tup (ks.map encK)), some (.lst (so.map sv)), some (.lst (gs.map fun x => encF x.1)), some (.lst (gs.map fun x => encFP x.2)), y5, y6, y7, y8, none, none, none, none, none] ((h6.set vf .dead).set vp .dead))) = _
    rw [q9, kon_ret, kend_ret]
  have xf : Exh0 h ((h6.set vf .dead).set vp .dead) := by
    refine Exh.low (x1.trans x2) (X := fun j => h2.length ≤ j) ?_ fun j hj hx => absurd hj (by omega)
    refine Exh.trans (b := h4) (by rw [d4, d3, List.append_assoc]; exact Exh.app _ _ _) ?_
    refine (x5.weak fun j hj => by rcases hj with rfl | rfl <;> omega).trans ?_
    exact (x6.wk.trans (Exh.set h6 _ vf0)).trans (Exh.set _ _ vp0)
  obtain ⟨h9, r1, r2, r3, r4⟩ := call_ext (X := fun _ => False) (xs := [.loc 0]) (k := k + 4) (fuel := fuel) (ns := ns) (b := b + 20000) (v := .lst [.tup [.tup (ks.map encK), .tup (gs.map fun x => encF x.1)], .tup (gs.map fun x => encFP x.2)]) H.t43 rfl hp xf (((w6.set (by omega) _).set (by omega) _).mono (by omega)) body
  refine ⟨⟨ks, gs.map (·.1)⟩, gs.map (·.2), h9, ?_, ⟨ko, by rw [List.length_map]; exact l1, by rw [List.length_map]; exact l12, fun f hf => ?_⟩, ⟨by rw [List.length_map, List.length_map], fun x hx => (go x (zip_fs hx)).2⟩, r3, r2⟩
  · rw [r1]
    simp only [encP, encPP, List.map_map]
    rfl
  · obtain ⟨x, hx, rfl⟩ := List.mem_map.mp hf
    exact (go x hx).1
end
end J

set_option autoImplicit false
set_option linter.all false
set_option maxRecDepth 100000
set_option maxHeartbeats 4000000
namespace J
open PySem
theorem bi_list_sc (xs : List PV) (h : xs.length ≤ 16777216) : evBi .list false [.scr xs] = pure (.lst xs) := mk_l xs h
section
variable {T : Nat → Option Fd} {fuel k : Nat} (H : Hl T) (D : Hd T)
include D
theorem well_ok {ns : List Int} (hn : ns.length ≤ 63) : callAt T fuel (k + 1) 35 [.scr (ns.map PV.int), .int 0] [] = .ok (.loc 0) [Wc ns ⟨0, 0, 0⟩] := by
  have bl := bi_list_sc (ns.map PV.int) (by rw [List.length_map]; omega)
  refine call_keep D.t35 rfl (Nat.le_refl 0) ?_
  have fin : Wc ns ⟨0, 0, 0⟩ = .lst [.int 0, .int 0, .lst (ns.map PV.int), .int 0] := rfl
  rw [fin]
  generalize ns.map PV.int = nv at *
  simp (disch := first | (simp only [List.length_append, List.length_map, List.length_cons, List.length_nil]; omega) | omega) [ss_end, ss_cons, ss_nil, s_ite, s_expr, s_set, s_asg, s_ret, s_frz, evE, evEs, evC, evCA, evCO, evAnd, evOr, evI, evO, evJs, retOf, asgn, asgns, wipe, bat, me_app0, me_ext0, mk_t0, mk_f0, ev_cat, G.d35_law_well, bl]
include H
theorem law_ok (t50 : T 50 = some G.d50_law) {ns : List Int} (hn : ns.length ≤ 63) : ∃ h', callAt T fuel (k + 11) 50 [.scr (ns.map PV.int)] [] = .ok (.bl true) h' := by
  have e0 := well_ok D (fuel := fuel) (k := k + 9) hn
  obtain ⟨p, q, h1, e1, p1, q1, w1, x1⟩ := any_ok D (fuel := fuel) (k := k + 5) (h := [Wc ns ⟨0, 0, 0⟩]) (ns := ns) (b := 0) ⟨_, rfl, Nat.le_refl _, Nat.le_refl _⟩ (by omega)
  obtain ⟨p', q', h2, e2, p2, q2, w2, x2⟩ := any_ok D (fuel := fuel) (k := k + 5) w1 (by omega)
  have d1 := fun z => law_text_ok H (fuel := fuel) (k := k + 6) p1 q1 z
  have d2 := fun z => law_text_ok H (fuel := fuel) (k := k + 6) p2 q2 z
  have t1 := fun z => write_text_ok H.toHw (fuel := fuel) (k := k) p1 q1 z
  have t2 := fun z => write_text_ok H.toHw (fuel := fuel) (k := k) p2 q2 z
  have body : (evSs ⟨callAt T fuel (k + 10), fuel⟩ G.d50_law.body [some (.scr (ns.map PV.int)), none, none, none, none, none, none, none] >>= retOf) [] = .ok (.bl true) h2 := by
    generalize jn (allW p q) = a1 at *
    generalize jn (allW p' q') = a2 at *
    generalize encP p = v1 at *
    generalize encPP q = v2 at *
    generalize encP p' = v3 at *
    generalize encPP q' = v4 at *
    generalize Wc ns ⟨0, 0, 0⟩ = wc at *
    generalize ns.map PV.int = nv at *
    have k1 : evE ⟨callAt T fuel (k + 10), fuel⟩ (.callK 34 [1, 0] (.cons (.var 5) (.cons (.var 4) .nil))) [some (.scr nv), some (.loc 0), some v1, some v2, some v3, some v4, some (.str (st a1)), some (.str (st a1))] = callAt T fuel (k + 10) 34 [v3, v4] := rfl
    have k2 : evE ⟨callAt T fuel (k + 10), fuel⟩ (.callK 34 [0, 1] (.cons (.var 2) (.cons (.var 3) .nil))) [some (.scr nv), some (.loc 0), some v1, some v2, some v3, some v4, some (.str (st a1)), some (.str (st a1))] = callAt T fuel (k + 10) 34 [v1, v2] := rfl
    have sh : G.d50_law.body = .cons (.set 1 (.call 35 (.cons (.var 0) (.cons (.int 0) .nil)))) (.cons (.asg (.cons (.name 2) (.cons (.name 3) .nil)) (.call 43 (.cons (.var 1) .nil))) (.cons (.asg (.cons (.name 4) (.cons (.name 5) .nil)) (.call 43 (.cons (.var 1) .nil))) (.cons (.set 6 (.call 49 (.cons (.var 2) (.cons (.var 3) .nil)))) (.cons (.set 7 (.call 34 (.cons (.var 2) (.cons (.var 3) .nil)))) (.cons (.ite (.or (.cons (.not (.val (.inst (.var 7) .str))) (.cons (.val (.cmp .ne (.var 7) (.var 6))) .nil))) (.cons (.ret (.bl false)) .nil) .nil) (.cons (.ite (.val (.cmp .ne (.callK 34 [1, 0] (.cons (.var 5) (.cons (.var 4) .nil))) (.call 49 (.cons (.var 4) (.cons (.var 5) .nil))))) (.cons (.ret (.bl false)) .nil) .nil) (.cons (.ret (.cmp .eq (.callK 34 [0, 1] (.cons (.var 2) (.cons (.var 3) .nil))) (.var 6))) .nil))))))) := rfl
    have q1 : evS ⟨callAt T fuel (k + 10), fuel⟩ (.ite (.val (.cmp .ne (.callK 34 [1, 0] (.cons (.var 5) (.cons (.var 4) .nil))) (.call 49 (.cons (.var 4) (.cons (.var 5) .nil))))) (.cons (.ret (.bl false)) .nil) .nil) [some (.scr nv), some (.loc 0), some v1, some v2, some v3, some v4, some (.str (st a1)), some (.str (st a1))] h2 = .ok (.next, [some (.scr nv), some (.loc 0), some v1, some v2, some v3, some v4, some (.str (st a1)), some (.str (st a1))]) h2 := by
      rw [s_ite]
      have : evC ⟨callAt T fuel (k + 10), fuel⟩ (.val (.cmp .ne (.callK 34 [1, 0] (.cons (.var 5) (.cons (.var 4) .nil))) (.call 49 (.cons (.var 4) (.cons (.var 5) .nil))))) [some (.scr nv), some (.loc 0), some v1, some v2, some v3, some v4, some (.str (st a1)), some (.str (st a1))] h2 = .ok false h2 := by
        show ((evE ⟨callAt T fuel (k + 10), fuel⟩ (.callK 34 [1, 0] (.cons (.var 5) (.cons (.var 4) .nil))) [some (.scr nv), some (.loc 0), some v1, some v2, some v3, some v4, some (.str (st a1)), some (.str (st a1))] >>= fun x => callAt T fuel (k + 10) 49 [v3, v4] >>= fun y => rd (evCmp .ne x y) >>= fun r => pure (PV.bl r)) >>= fun x => rd (truth · x)) h2 = _
        rw [k1]
        simp [bat, t2, d2]
      rw [this]; rfl
    have q2 : evS ⟨callAt T fuel (k + 10), fuel⟩ (.ret (.cmp .eq (.callK 34 [0, 1] (.cons (.var 2) (.cons (.var 3) .nil))) (.var 6))) [some (.scr nv), some (.loc 0), some v1, some v2, some v3, some v4, some (.str (st a1)), some (.str (st a1))] h2 = .ok (.ret (.bl true), [some (.scr nv), some (.loc 0), some v1, some v2, some v3, some v4, some (.str (st a1)), some (.str (st a1))]) h2 := by
      rw [s_ret]
      have : evE ⟨callAt T fuel (k + 10), fuel⟩ (.cmp .eq (.callK 34 [0, 1] (.cons (.var 2) (.cons (.var 3) .nil))) (.var 6)) [some (.scr nv), some (.loc 0), some v1, some v2, some v3, some v4, some (.str (st a1)), some (.str (st a1))] h2 = .ok (.bl true) h2 := by
        show (evE ⟨callAt T fuel (k + 10), fuel⟩ (.callK 34 [0, 1] (.cons (.var 2) (.cons (.var 3) .nil))) [some (.scr nv), some (.loc 0), some v1, some v2, some v3, some v4, some (.str (st a1)), some (.str (st a1))] >>= fun x => pure (PV.str (st a1)) >>= fun y => rd (evCmp .eq x y) >>= fun r => pure (PV.bl r)) h2 = _
        rw [k2]
        simp [bat, t1]
      rw [this]; rfl
    rw [sh]
    generalize (S.ite (.val (.cmp .ne (.callK 34 [1, 0] (.cons (.var 5) (.cons (.var 4) .nil))) (.call 49 (.cons (.var 4) (.cons (.var 5) .nil))))) (.cons (.ret (.bl false)) .nil) .nil) = s1 at *
    generalize (S.ret (.cmp .eq (.callK 34 [0, 1] (.cons (.var 2) (.cons (.var 3) .nil))) (.var 6))) = s2 at *
    simp (disch := first | (simp only [List.length_append, List.length_map, List.length_cons, List.length_nil]; omega) | omega) [ss_end, ss_cons, ss_nil, s_ite, s_expr, s_set, s_asg, s_ret, s_frz, evE, evEs, evC, evCA, evCO, evAnd, evOr, evI, evO, evJs, retOf, asgn, asgns, wipe, bat, me_app0, me_ext0, mk_t0, mk_f0, ev_cat, e0, e1, e2, d1, t1, q1, q2]
  obtain ⟨h9, r1, r2, r3⟩ := call_any (xs := [.scr (ns.map PV.int)]) (k := k + 10) (fuel := fuel) (v := .bl true) t50 rfl (Nat.zero_le _) body
  exact ⟨h9, r1⟩
end
end J

set_option autoImplicit false
set_option linter.all false
set_option maxRecDepth 100000
set_option maxHeartbeats 0
open PySem PySem.W PyProof.Rows L2
namespace J.H30
abbrev L : PySem.W.OpenLaw := PySem.Challenge.rw_justfreed_k30_whole_texts_written
abbrev R : PySem.W.OpenRow := PySem.W.OpenLaw.row L
theorem run (w : World) : HandSHeadRun.RunEq R (PySem.W.view R.prog [74]) (hkOf L.prog K30.ds K30.gl) (obOf L.prog K30.ds K30.gl) 3000 K30.loose w := by
  intro os
  kernel_rfl
theorem chk : chkAll L.prog K30.ds K30.gl K30.kw = true := by decide +kernel
theorem kwd : KwOk L.prog K30.ds K30.kw := by
  intro q hq d N j h1 kV doc pm an cdv ct us hl
  simp only [K30.kw, List.mem_cons, List.not_mem_nil, or_false] at hq
  rcases hq with rfl | rfl
  · cases h1
    match us, hl with
    | [_, _], _ => rfl
  · cases h1
    match us, hl with
    | [_, _], _ => rfl
theorem hl : Hl (tOf K30.ds) := ⟨⟨⟨rfl, rfl, rfl, rfl, rfl, rfl, rfl, rfl, rfl, rfl, rfl, rfl, rfl, rfl, rfl, rfl, rfl, rfl, rfl, rfl, rfl, rfl, rfl, rfl, rfl, rfl, rfl⟩, rfl, rfl, rfl, rfl, rfl, rfl, rfl, rfl⟩, rfl, rfl, rfl, rfl, rfl, rfl⟩
theorem hd : Hd (tOf K30.ds) := ⟨rfl, rfl, rfl, rfl, rfl, rfl, rfl, rfl, rfl⟩
theorem math (ns : List Int) (h : ns.length ≤ 63) : ∃ h', callAt (tOf K30.ds) 1000000000 40 50 [.scr (ns.map PV.int)] [] = .ok (.bl true) h' := law_ok (k := 29) hl hd rfl h
end J.H30
theorem PySem.Challenge.cw_justfreed_k30_whole_texts_written_holds : PySem.Challenge.rw_justfreed_k30_whole_texts_written.Holds := by
  w_on; o_law
  refine HandSHeadRun.head_any (r := J.H30.R) (q := PySem.W.view J.H30.R.prog [74]) (H := J.hkOf J.H30.L.prog J.K30.ds J.K30.gl) (ob := J.obOf J.H30.L.prog J.K30.ds J.K30.gl) (M := 3000) (loose := J.K30.loose) (d := HandSHeadRun.topDef J.H30.R.prog 74) (kwd := []) (J.ob_eq _ _ _)
    (by kernel_rfl) (fun s => by kernel_rfl) J.H30.run (by kernel_rfl) (by kernel_rfl) (by kernel_rfl) (by rfl) (by first | assumption | decide +kernel) (by decide +kernel) ⟨rfl, rfl, rfl, rfl, rfl, by decide +kernel⟩ ?hw ?hc
  case hw => w_witness2
  case hc => exact J.walk_J (l := J.H30.L) (n := 63) (k := 40) (iL := 50) (jL := 74) (ds := J.K30.ds) (kw := J.K30.kw) rfl (by decide) (by kernel_rfl) ⟨rfl, by decide, by decide⟩ J.H30.chk J.H30.kwd rfl rfl (by kernel_rfl) J.H30.math
