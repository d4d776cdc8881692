import PyProof.Rows.All
import Wide.All
import OpenK.AllK
import Wide.FinOn
import HandS.ForMost
import HandS.More
import HandS.Deep
import HandS.Zip
import HandS.Wide
import HandS.IsInst
import HandS.TupAny
import HandS.Flow
import HandS.NoneIn
import HandS.RaiseMore
import HandS.Codes
import HandS.Style
import HandS.HeadHook3
import KE.GoesMore
import KE.GoesZip
import KE.KUnpackStar
import PySem.Challenge.RW_darkthread_k67_deeds_written
set_option Elab.async false
set_option linter.all false
set_option maxRecDepth 100000
set_option maxHeartbeats 4000000
/-! Mp1: a small language with its own evaluator, plain Lean. Lists, dicts, tuples are values (trees); what is changed in place lives in cells. -/
namespace Mp
open PySem

/-! ### values, cells, outcomes -/
inductive Va where
  | non | bl (b : Bool) | int (i : Int) | str (s : List Nat)
  | tup (xs : List Va) | lst (xs : List Va) | dic (ks vs : List Va)
  | ref (n : Nat) | ty (n : String) | gl (n : Nat) | scr (ns : List Int)
inductive Cel where
  | lst (xs : List Va)
  | gone
abbrev Hp := List Cel
structure Exn where
  c : Nat
  fs : List (Nat × Va)
inductive Out (α : Type) where
  | ok (a : α) (h : Hp)
  | ex (e : Exn) (h : Hp)
  | bad
abbrev Loc := List (Option Va)
@[simp] def Out.bind {α β : Type} : Out α → (α → Hp → Out β) → Out β
  | .ok a h, k => k a h
  | .ex e h, _ => .ex e h
  | .bad, _ => .bad

/-! ### data: == -/
mutual
/-- plain data: no cell, no name of the module within -/
def okd : Va → Bool
  | .non | .bl _ | .int _ | .str _ => true
  | .tup xs | .lst xs => okds xs
  | .dic _ _ | .ref _ | .ty _ | .gl _ | .scr _ => false
def okds : List Va → Bool
  | [] => true
  | x :: xs => okd x && okds xs
end
mutual
def dep : Va → Nat
  | .tup xs | .lst xs => deps xs + 1
  | _ => 0
def deps : List Va → Nat
  | [] => 0
  | x :: xs => max (dep x) (deps xs)
end
mutual
def veq : Va → Va → Bool
  | .non, .non => true
  | .bl a, .bl b => a == b
  | .bl a, .int j => (if a then 1 else 0) == j
  | .int i, .bl b => i == (if b then 1 else 0)
  | .int i, .int j => i == j
  | .str x, .str y => x == y
  | .lst xs, .lst ys => veqs xs ys
  | .tup xs, .tup ys => veqs xs ys
  | _, _ => false
def veqs : List Va → List Va → Bool
  | [], [] => true
  | x :: xs, y :: ys => veq x y && veqs xs ys
  | _, _ => false
end
def okc (x y : Va) : Bool := okd x && okd y && Nat.ble (dep x) 60 && Nat.ble (dep y) 60

/-! ### operators by values -/
inductive Op where
  | add | sub | mul | fdv | mod | pow | eq | ne | lt | le | gt | ge | mem | nme
def lim : Nat := 1000000
def sml (i : Int) : Bool := decide (-(2 ^ 64) < i) && decide (i < 2 ^ 64)
/-- a list that is looked at: a value, or what a cell holds -/
def dr (h : Hp) : Va → Va
  | .ref n => match h[n]? with
    | some (.lst xs) => .lst xs
    | _ => .ref n
  | v => v
def flat : Va → Bool
  | .non | .bl _ | .int _ | .str _ => true
  | _ => false
def opv : Op → Va → Va → Option Va
  | .add, .int i, .int j => some (.int (i + j))
  | .add, .str x, .str y => if Nat.ble (x.length + y.length) lim then some (.str (x ++ y)) else none
  | .add, .lst x, .lst y => if Nat.ble (x.length + y.length) lim then some (.lst (x ++ y)) else none
  | .add, .tup x, .tup y => if Nat.ble (x.length + y.length) lim then some (.tup (x ++ y)) else none
  | .sub, .int i, .int j => some (.int (i - j))
  | .mul, .int i, .int j => if sml i || sml j then some (.int (i * j)) else none
  | .mul, .str x, .int k => if decide (0 ≤ k) && decide (k ≤ 1000) && Nat.ble x.length 1000 then some (.str (List.replicate k.toNat x).flatten) else none
  | .fdv, .int i, .int j => if decide (0 < j) && decide (j < 2 ^ 64) then some (.int (i / j)) else none
  | .mod, .int i, .int j => if decide (0 < j) then some (.int (i % j)) else none
  | .pow, .int i, .int j => if decide (0 ≤ j) && decide (j ≤ 1000) && sml i then some (.int (i ^ j.toNat)) else none
  | .eq, x, y => if okc x y then some (.bl (veq x y)) else none
  | .ne, x, y => if okc x y then some (.bl (!veq x y)) else none
  | .lt, .int i, .int j => some (.bl (decide (i < j)))
  | .le, .int i, .int j => some (.bl (decide (i ≤ j)))
  | .gt, .int i, .int j => some (.bl (decide (j < i)))
  | .ge, .int i, .int j => some (.bl (decide (j ≤ i)))
  | .mem, .str [c], .str y => some (.bl (decide (c ∈ y)))
  | .nme, .str [c], .str y => some (.bl (!decide (c ∈ y)))
  | .mem, x, .lst ys => if okd x && okds ys && Nat.ble (dep x) 60 && Nat.ble (deps ys) 59 then some (.bl (ys.any fun y => veq y x)) else none
  | .nme, x, .lst ys => if okd x && okds ys && Nat.ble (dep x) 60 && Nat.ble (deps ys) 59 then some (.bl (!ys.any fun y => veq y x)) else none
  | _, _, _ => none
/-- truth -/
def tru : Va → Option Bool
  | .non => some false
  | .bl b => some b
  | .int i => some (i != 0)
  | .str s => if Nat.ble s.length lim then some (!s.isEmpty) else none
  | .tup xs | .lst xs => some (!xs.isEmpty)
  | _ => none
def isKey : Va → Bool
  | .int _ | .str _ => true
  | _ => false
def distK : List Va → Bool
  | [] => true
  | k :: ks => (!ks.any fun q => veq k q) && distK ks
def ixOf (n : Nat) (i : Int) : Nat := (if i < 0 then i + n else i).toNat
/-- x[i] -/
def itm : Va → Va → Option Va
  | .lst xs, .int i | .tup xs, .int i => if decide (-(xs.length : Int) ≤ i) && decide (i < xs.length) then xs[ixOf xs.length i]? else none
  | .str xs, .int i => if decide (-(xs.length : Int) ≤ i) && decide (i < xs.length) && Nat.ble xs.length lim then (xs[ixOf xs.length i]?).map fun c => .str [c] else none
  | .dic ks vs, k => if isKey k then ((ks.zip vs).find? fun p => veq p.1 k).map (·.2) else none
  | _, _ => none
end Mp

namespace Mp
open PySem
/-! ### the language -/
inductive Tg where
  | nm (i : Nat) | tp (ts : List Tg)
/-- what is walked: a list, tuple or text; range(n); range(a, b); enumerate(x); zip(x, y) -/
inductive Wk where
  | seq | rng1 | rng2 | enu | zip
/-- built-in functions and methods by values -/
inductive Bl where
  | len | all | any | max2 | strOf | intOf | tupOf | lstOf | join | split | get1 | get2
/-- classes that isinstance asks for -/
inductive Ty where
  | bool | int | str | list | tuple
mutual
inductive Ex where
  | no
  | k (v : Va)
  | v (i : Nat)
  | op (o : Op) (a b : Ex)
  | ch (o p : Op) (a b c : Ex)
  | ng (a : Ex) | nt (a : Ex) | isN (a : Ex) | noN (a : Ex)
  | an (a b : Ex) | oo (a b : Ex) | fi (c a b : Ex)
  | tu (es : Exs) | li (es : Exs) | lc1 (es : Exs) | di (ks : List Va) (vs : Exs)
  | ix (a b : Ex) | sl (a : Ex) (lo hi : Exo)
  | cf (f : Nat) (es : Exs)
  | cb (b : Bl) (es : Exs)
  | isi (a : Ex) (ts : List Ty)
  | lc (own : List Nat) (e : Ex) (t : Tg) (w : Wk) (es : Exs) (cs : Exs)
inductive Exs where
  | nil | cons (e : Ex) (r : Exs)
inductive Exo where
  | none | some (e : Ex)
end
mutual
inductive St where
  | no
  | ev (e : Ex)
  | as (t : Tg) (e : Ex)
  | sta (i : Nat) (j : Nat) (e : Ex)
  | par (i j : Nat) (a b : Ex) | par3 (i j l : Nat) (a b c : Ex)
  | sub (o i e : Ex) | apd (o e : Ex)
  | iff (c : Ex) (a b : Sts)
  | fo (t : Tg) (w : Wk) (es : Exs) (b : Sts)
  | rt (e : Ex) | rtf (e : Ex) | rn | ps
inductive Sts where
  | nil | cons (s : St) (r : Sts)
end
inductive Fl where
  | nx | rt (v : Va) | bk | ct

/-! ### its meaning -/
mutual
def tgt : Tg → Va → Loc → Option Loc
  | .nm i, v, ρ => if Nat.blt i ρ.length then some (ρ.set i (some v)) else none
  | .tp ts, .tup vs, ρ => tgts ts vs ρ
  | .tp ts, .lst vs, ρ => tgts ts vs ρ
  | _, _, _ => none
def tgts : List Tg → List Va → Loc → Option Loc
  | [], [], ρ => some ρ
  | t :: ts, v :: vs, ρ => match tgt t v ρ with
    | some ρ => tgts ts vs ρ
    | none => none
  | _, _, _ => none
end
def rngL : Nat → Int → List Va
  | 0, _ => []
  | n + 1, i => .int i :: rngL n (i + 1)
def enuL : Int → List Va → List Va
  | _, [] => []
  | i, x :: xs => .tup [.int i, x] :: enuL (i + 1) xs
def zipL : List Va → List Va → List Va
  | x :: xs, y :: ys => .tup [x, y] :: zipL xs ys
  | _, _ => []
def seqL : Va → Option (List Va)
  | .lst xs | .tup xs => some xs
  | .str s => some (s.map fun c => .str [c])
  | _ => none
def wkL : Wk → List Va → Option (List Va)
  | .seq, [v] => seqL v
  | .rng1, [.int n] => if decide (-(2 ^ 30) < n) && decide (n < 2 ^ 30) then some (rngL n.toNat 0) else none
  | .rng2, [.int a, .int b] => if decide (-(2 ^ 30) < a) && decide (a < 2 ^ 30) && decide (-(2 ^ 30) < b) && decide (b < 2 ^ 30) then some (rngL (b - a).toNat a) else none
  | .enu, [.lst xs] => some (enuL 0 xs)
  | .zip, [a, b] => match seqL a, seqL b with
    | some xs, some ys => some (zipL xs ys)
    | _, _ => none
  | _, _ => none
def wipeL (ρ : Loc) : List Nat → Loc
  | [] => ρ
  | v :: vs => (wipeL ρ vs).set v none
/-- the new list stands in the cell n while it is made -/
def lcg (f : Va → Hp → Out (Option Va)) (n : Nat) : List Va → Hp → Out Unit
  | [], h => .ok () h
  | x :: xs, h => (f x h).bind fun o h => match o with
    | none => lcg f n xs h
    | some y => match h[n]? with
      | some (.lst zs) => if Nat.blt zs.length lim then lcg f n xs (h.set n (.lst (zs ++ [y]))) else .bad
      | _ => .bad
def isCell (h : Hp) : Va → Bool
  | .ref n => match h[n]? with
    | some (.lst _) => true
    | _ => false
  | _ => false
/-- one turn of a comprehension -/
def stepL (g : Option Loc) (ct : Loc → Hp → Out Bool) (cv : Loc → Hp → Out Va) (h : Hp) : Out (Option Va) := match g with
  | none => .bad
  | some ρ => (ct ρ h).bind fun b h => if b then (cv ρ h).bind fun y h => .ok (some y) h else .ok none h
/-- what a cell holds is a value from here on -/
def frz (n : Nat) (h : Hp) : Out Va := match h[n]? with
  | some (.lst zs) => .ok (.lst zs) (h.set n .gone)
  | _ => .bad
def forg (tg : Va → Loc → Option Loc) (body : Loc → Hp → Out (Fl × Loc)) : List Va → Loc → Hp → Out (Fl × Loc)
  | [], ρ, h => .ok (.nx, ρ) h
  | x :: xs, ρ, h => match tg x ρ with
    | none => .bad
    | some ρ => (body ρ h).bind fun r h => match r.1 with
      | .nx | .ct => forg tg body xs r.2 h
      | .bk => .ok (.nx, r.2) h
      | .rt v => .ok (.rt v, r.2) h
def nox {α : Type} : Out α → Out α
  | .ok a h => .ok a h
  | _ => .bad
def ofO {α : Type} (o : Option α) (h : Hp) : Out α := match o with
  | some a => .ok a h
  | none => .bad
def strS (x : List Nat) : Str := ⟨x.toArray⟩
def strL (x : Str) : List Nat := x.cps.toList
def numI (i : Int) : List Nat := if i < 0 then 45 :: TL.numL i.natAbs else TL.numL i.natAbs
def bools : List Va → Option (List Bool)
  | [] => some []
  | .bl b :: r => (bools r).map (b :: ·)
  | _ => none
def txts : List Va → Option (List (List Nat))
  | [] => some []
  | .str s :: r => (txts r).map (s :: ·)
  | _ => none
def totl (ss : List (List Nat)) : Nat := ss.foldl (fun n s => n + s.length) 0
def isLst : Va → Bool
  | .lst _ => true
  | _ => false
/-- a built-in by values, where no cell is changed -/
def blv : Bl → List Va → Option Va
  | .len, [.str s] => if Nat.ble s.length lim then some (.int s.length) else none
  | .len, [.lst xs] | .len, [.tup xs] => some (.int xs.length)
  | .all, [.lst xs] => (bools xs).map fun bs => .bl (bs.all id)
  | .any, [.lst xs] => (bools xs).map fun bs => .bl (bs.any id)
  | .max2, [.int i, .int j] => some (.int (if j > i then j else i))
  | .strOf, [.int i] => if sml i then some (.str (numI i)) else none
  | .strOf, [.str s] => some (.str s)
  | .intOf, [.int i] => some (.int i)
  | .intOf, [.bl b] => some (.int (if b then 1 else 0))
  | .intOf, [.str s] => if Nat.ble s.length 600 then (intText? (strS s)).map .int else none
  | .tupOf, [.lst xs] | .tupOf, [.tup xs] => some (.tup xs)
  | .lstOf, [.lst xs] | .lstOf, [.tup xs] => some (.lst xs)
  | .join, [.str a, .lst xs] => match txts xs with
    | some ss => if Nat.ble (totl ss + ss.length * a.length) lim then some (.str (TL.joinL a ss)) else none
    | none => none
  | .join, [.str a, .tup xs] => match txts xs with
    | some ss => if Nat.ble (totl ss + ss.length * a.length) lim then some (.str (TL.joinL a ss)) else none
    | none => none
  | .split, [.str a, .str [c]] => if Nat.ble a.length lim && Nat.blt c 256 then some (.lst ((TL.spl [c] 0 [] a).map .str)) else none
  | .get1, [.dic ks vs, .str k] => some ((itm (.dic ks vs) (.str k)).getD .non)
  | .get2, [.dic ks vs, .str k, d] => if isLst d then none else some ((itm (.dic ks vs) (.str k)).getD d)
  | _, _ => none
def isTy : Ty → Va → Option Bool
  | .bool, .bl _ => some true
  | .int, .bl _ => some true
  | .int, .int _ => some true
  | .str, .str _ => some true
  | .list, .lst _ => some true
  | .tuple, .tup _ => some true
  | _, .non => some false | _, .bl _ => some false | _, .int _ => some false | _, .str _ => some false | _, .lst _ => some false | _, .tup _ => some false
  | _, _ => none
def isTys (v : Va) : List Ty → Option Bool
  | [] => some false
  | t :: ts => match isTy t v, isTys v ts with
    | some a, some b => some (a || b)
    | _, _ => none
def clamp (n : Nat) (d : Nat) : Option Int → Nat
  | none => d
  | some i => if i < 0 then (i + n).toNat else min i.toNat n
def cut {α : Type} (xs : List α) (lo hi : Option Int) : List α :=
  (xs.drop (clamp xs.length 0 lo)).take (clamp xs.length xs.length hi - clamp xs.length 0 lo)
def slv : Va → Option Int → Option Int → Option Va
  | .lst xs, lo, hi => some (.lst (cut xs lo hi))
  | .scr xs, lo, hi => some (.lst ((cut xs lo hi).map .int))
  | .str xs, lo, hi => if Nat.ble xs.length lim then some (.str (cut xs lo hi)) else none
  | _, _, _ => none
def bnd : Va → Option Int
  | .int i => if sml i then some i else none
  | _ => none
def keysOk (ks : List Va) : Bool := ks.all isKey && distK ks && Nat.ble ks.length 15 && !ks.isEmpty
/-- the program's defs, called with all their arguments -/
abbrev Call := Nat → List Va → Hp → Out Va
mutual
def ev (C : Call) (ρ : Loc) : Ex → Hp → Out Va
  | .no, _ => .bad
  | .k v, h => .ok v h
  | .v i, h => match ρ[i]? with
    | some (some v) => .ok v h
    | _ => .bad
  | .op o a b, h => (ev C ρ a h).bind fun x h => (ev C ρ b h).bind fun y h => ofO (opv o (dr h x) (dr h y)) h
  | .ch o p a b c, h => (ev C ρ a h).bind fun x h => (ev C ρ b h).bind fun y h => match opv o (dr h x) (dr h y) with
    | some (.bl true) => (ev C ρ c h).bind fun z h => ofO (opv p (dr h y) (dr h z)) h
    | some (.bl false) => .ok (.bl false) h
    | _ => .bad
  | .ng a, h => (ev C ρ a h).bind fun x h => match x with
    | .int i => .ok (.int (-i)) h
    | _ => .bad
  | .nt a, h => (ev C ρ a h).bind fun x h => match tru (dr h x) with
    | some b => .ok (.bl (!b)) h
    | none => .bad
  | .isN a, h => (ev C ρ a h).bind fun x h => .ok (.bl (match x with | .non => true | _ => false)) h
  | .noN a, h => (ev C ρ a h).bind fun x h => .ok (.bl (match x with | .non => false | _ => true)) h
  | .an a b, h => (ev C ρ a h).bind fun x h => match tru (dr h x) with
    | some true => ev C ρ b h
    | some false => .ok x h
    | none => .bad
  | .oo a b, h => (ev C ρ a h).bind fun x h => match tru (dr h x) with
    | some true => .ok x h
    | some false => ev C ρ b h
    | none => .bad
  | .fi c a b, h => (ev C ρ c h).bind fun x h => match tru (dr h x) with
    | some true => ev C ρ a h
    | some false => ev C ρ b h
    | none => .bad
  | .tu es, h => (evs C ρ es h).bind fun xs h => if Nat.ble xs.length lim then .ok (.tup xs) h else .bad
  | .li es, h => (evs C ρ es h).bind fun xs h => if Nat.ble xs.length lim then .ok (.lst xs) h else .bad
  | .lc1 es, h => (evs C ρ es h).bind fun xs h => if Nat.ble xs.length lim then .ok (.ref h.length) (h ++ [.lst xs]) else .bad
  | .di ks vs, h => (evs C ρ vs h).bind fun ys h => if keysOk ks && ks.length == ys.length then .ok (.dic ks ys) h else .bad
  | .ix a b, h => (ev C ρ a h).bind fun x h => (ev C ρ b h).bind fun y h => ofO (itm (dr h x) y) h
  | .sl a lo hi, h => (ev C ρ a h).bind fun x h => (evo C ρ lo h).bind fun l h => (evo C ρ hi h).bind fun u h => ofO (slv (dr h x) l u) h
  | .cf f es, h => (evs C ρ es h).bind fun xs h => C f xs h
  | .cb b es, h => (evs C ρ es h).bind fun xs h => ofO (blv b (xs.map (dr h))) h
  | .isi a ts, h => (ev C ρ a h).bind fun x h => match isTys (dr h x) ts with
    | some b => .ok (.bl b) h
    | none => .bad
  | .lc own e t w es cs, h => (evs C ρ es h).bind fun xs h => match wkL w xs with
    | none => .bad
    | some vs => (nox (lcg (fun x h => stepL (tgt t x (wipeL ρ own)) (fun ρ h => evt C ρ cs h) (fun ρ h => ev C ρ e h) h) h.length vs (h ++ [.lst []]))).bind fun _ h' => frz h.length h'
def evs (C : Call) (ρ : Loc) : Exs → Hp → Out (List Va)
  | .nil, h => .ok [] h
  | .cons e r, h => (ev C ρ e h).bind fun x h => (evs C ρ r h).bind fun xs h => .ok (x :: xs) h
def evo (C : Call) (ρ : Loc) : Exo → Hp → Out (Option Int)
  | .none, h => .ok none h
  | .some e, h => (ev C ρ e h).bind fun x h => match bnd x with
    | some i => .ok (some i) h
    | none => .bad
/-- a clause's tests: none or one -/
def evt (C : Call) (ρ : Loc) : Exs → Hp → Out Bool
  | .nil, h => .ok true h
  | .cons e .nil, h => (ev C ρ e h).bind fun x h => match tru (dr h x) with
    | some b => .ok b h
    | none => .bad
  | .cons _ (.cons _ _), _ => .bad
end
def setL (xs : List Va) (i : Int) (v : Va) : Option (List Va) :=
  if decide (0 ≤ i) && decide (i < xs.length) then some (xs.set i.toNat v) else none
mutual
def ex (C : Call) : St → Loc → Hp → Out (Fl × Loc)
  | .no, _, _ => .bad
  | .ev e, ρ, h => (ev C ρ e h).bind fun _ h => .ok (.nx, ρ) h
  | .as t e, ρ, h => (ev C ρ e h).bind fun x h => match tgt t x ρ with
    | some ρ => .ok (.nx, ρ) h
    | none => .bad
  | .sta i j e, ρ, h => (ev C ρ e h).bind fun x h => match x with
    | .lst (y :: ys) | .tup (y :: ys) => match tgt (.nm i) y ρ with
      | some ρ => match tgt (.nm j) (.lst ys) ρ with
        | some ρ => .ok (.nx, ρ) h
        | none => .bad
      | none => .bad
    | _ => .bad
  | .par i j a b, ρ, h => (ev C ρ a h).bind fun x h => (ev C ρ b h).bind fun y h => match tgt (.nm i) x ρ with
    | some ρ => match tgt (.nm j) y ρ with
      | some ρ => .ok (.nx, ρ) h
      | none => .bad
    | none => .bad
  | .par3 i j l a b c, ρ, h => (ev C ρ a h).bind fun x h => (ev C ρ b h).bind fun y h => (ev C ρ c h).bind fun z h => if Nat.blt i ρ.length && Nat.blt j ρ.length && Nat.blt l ρ.length then .ok (.nx, ((ρ.set i (some x)).set j (some y)).set l (some z)) h else .bad
  | .sub o i e, ρ, h => (ev C ρ e h).bind fun v h => (ev C ρ o h).bind fun x h => (ev C ρ i h).bind fun y h => match x, y with
    | .ref n, .int k => match h[n]? with
      | some (.lst xs) => match setL xs k v with
        | some ys => .ok (.nx, ρ) (h.set n (.lst ys))
        | none => .bad
      | _ => .bad
    | _, _ => .bad
  | .apd o e, ρ, h => (ev C ρ o h).bind fun x h => if isCell h x then (ev C ρ e h).bind fun v h => match x with
    | .ref n => match h[n]? with
      | some (.lst xs) => if Nat.blt xs.length lim then .ok (.nx, ρ) (h.set n (.lst (xs ++ [v]))) else .bad
      | _ => .bad
    | _ => .bad else .bad
  | .iff c a b, ρ, h => (ev C ρ c h).bind fun x h => match tru (dr h x) with
    | some true => exs C a ρ h
    | some false => exs C b ρ h
    | none => .bad
  | .fo t w es b, ρ, h => (evs C ρ es h).bind fun xs h => match wkL w xs with
    | some vs => forg (tgt t) (exs C b) vs ρ h
    | none => .bad
  | .rt e, ρ, h => (ev C ρ e h).bind fun x h => .ok (.rt x, ρ) h
  | .rtf e, ρ, h => (ev C ρ e h).bind fun x h => match x with
    | .ref n => (frz n h).bind fun v h => .ok (.rt v, ρ) h
    | _ => .bad
  | .rn, ρ, h => .ok (.rt .non, ρ) h
  | .ps, ρ, h => .ok (.nx, ρ) h
def exs (C : Call) : Sts → Loc → Hp → Out (Fl × Loc)
  | .nil, ρ, h => .ok (.nx, ρ) h
  | .cons s r, ρ, h => (ex C s ρ h).bind fun q h => match q.1 with
    | .nx => exs C r q.2 h
    | f => .ok (f, q.2) h
end
structure Fn where
  np : Nat
  ns : Nat
  body : Sts
def start (n : Nat) (vs : List Va) : Loc := vs.map some ++ List.replicate (n - vs.length) none
def runF (C : Call) (F : Fn) (vs : List Va) (h : Hp) : Out Va :=
  if vs.length = F.np then (exs C F.body (start F.ns vs) h).bind fun q h => match q.1 with
    | .rt v => .ok v h
    | .nx => .ok .non h
    | _ => .bad
  else .bad
/-- calls, at most n one in another -/
def calls (P : List Fn) : Nat → Call
  | 0, _, _, _ => .bad
  | n + 1, f, vs, h => match P[f]? with
    | some F => runF (calls P n) F vs h
    | none => .bad
end Mp

set_option autoImplicit false
/-! Mp2: how a value of Mp lies in the layer's abstract heap -/
namespace Mp
open PySem L2

/-- what stays through the law -/
structure Se where
  K : PySem.W.Frag
  w : World
  mg : Str → Option Value
  gn : List Str
structure Wd where
  ι : List Addr
  h : Hp
  H : L2.Hp
def Own (W : Wd) (a : Addr) : Prop := ∃ (n : Nat) (xs : List Va), W.h[n]? = some (Cel.lst xs) ∧ W.ι[n]? = some a
structure Le (W W' : Wd) : Prop where
  io : ∀ (n : Nat) (a : Addr), W.ι[n]? = some a → W'.ι[n]? = some a
  ke : ∀ a o, W.H a = some o → ¬ Own W a → W'.H a = some o ∧ ¬ Own W' a
theorem Le.refl (W : Wd) : Le W W := ⟨fun _ _ e => e, fun _ _ e n => ⟨e, n⟩⟩
theorem Le.trans {A B D : Wd} (x : Le A B) (y : Le B D) : Le A D :=
  ⟨fun n a e => y.io n a (x.io n a e), fun a o e n => let ⟨e1, n1⟩ := x.ke a o e n; y.ke a o e1 n1⟩
def KTup (K : PySem.W.Frag) (a : Addr) (ys : List V) : Prop :=
  ∃ (o : Obj) (its : Array Value) (n : Nat), K.lookup a = some o ∧ o.cls = .type "tuple" ∧ o.data = .seq its n ∧ its.size ≤ sizeLine ∧ Vals ys its.toList
def KLst (K : PySem.W.Frag) (a : Addr) (ys : List V) : Prop :=
  ∃ (o : Obj) (its : Array Value) (n : Nat), K.lookup a = some o ∧ o.cls = .type "list" ∧ o.dict = none ∧ o.data = .seq its n ∧ its.size ≤ sizeLine ∧ Vals ys its.toList
def keyVa : Key → Va
  | .inl i => .int i
  | .inr x => .str (strL x)
def zlook {α : Type} (ks : List Va) (xs : List α) (k : Va) : Option α := ((ks.zip xs).find? fun p => veq p.1 k).map (·.2)
def txOk (s : List Nat) : Prop := ∀ c ∈ s, c < 0x110000
mutual
inductive RV (S : Se) (W : Wd) : Va → V → Prop where
  | non : RV S W .non .non
  | bl (b : Bool) : RV S W (.bl b) (.bl b)
  | int (i : Int) : RV S W (.int i) (.int i)
  | str (s : List Nat) (h : txOk s) : RV S W (.str s) (.str (strS s))
  | tupH {a : Addr} {xs : List Va} {ys : List V} (e : W.H a = some (.tup ys)) (n : ¬ Own W a) (r : RVs S W xs ys) : RV S W (.tup xs) (.ref a)
  | tupK {a : Addr} {xs : List Va} {ys : List V} (e : KTup S.K a ys) (r : RVs S W xs ys) : RV S W (.tup xs) (.ref a)
  | lst {a : Addr} {xs : List Va} {ys : List V} (e : W.H a = some (.lst ys)) (n : ¬ Own W a) (r : RVs S W xs ys) : RV S W (.lst xs) (.ref a)
  | dicH {a : Addr} {ks vs : List Va} {kvs : List (Key × V)} (e : W.H a = some (.dK kvs)) (n : ¬ Own W a) (ek : ks = kvs.map fun p => keyVa p.1) (r : RVs S W vs (kvs.map (·.2))) (nd : (kvs.map (·.1)).Nodup) (ne : kvs ≠ []) : RV S W (.dic ks vs) (.ref a)
  | dicK {a : Addr} {ks vs : List Va} {ys : List V} {es : Array DictEntry} {n : Nat} (e : KDict S.K S.w a es n) (kk : ∀ k ∈ ks, ∃ z, k = .str z) (l : ∀ z : Str, ∃ r, PySem.W.nsIn S.K a z = some r ∧ RelO (zlook ks ys (.str (strL z))) r) (r : RVs S W vs ys) : RV S W (.dic ks vs) (.ref a)
  | ref {n : Nat} {a : Addr} (e : W.ι[n]? = some a) : RV S W (.ref n) (.ref a)
  | ty (n : String) : RV S W (.ty n) (.ty n)
  | gl {n : Nat} {x : Str} {a : Addr} (e : S.gn[n]? = some x) (m : S.mg x = some (.ref a)) : RV S W (.gl n) (.ref a)
  | scr {ns : List Int} {a : Addr} {o : HO} (e : W.H a = some o) (n : ¬ Own W a) (q : o = .lst (ns.map .int) ∨ ∃ ob, o = .frz ob (.lst (ns.map .int))) : RV S W (.scr ns) (.ref a)
  | scrK {ns : List Int} {a : Addr} (q : KLst S.K a (ns.map .int)) : RV S W (.scr ns) (.ref a)
inductive RVs (S : Se) (W : Wd) : List Va → List V → Prop where
  | nil : RVs S W [] []
  | cons {x : Va} {y : V} {xs : List Va} {ys : List V} (r : RV S W x y) (rs : RVs S W xs ys) : RVs S W (x :: xs) (y :: ys)
end
section
variable {S : Se} {W W' : Wd}
mutual
theorem RV.mono (l : Le W W') : ∀ {v : Va} {y : V}, RV S W v y → RV S W' v y
  | _, _, .non => .non
  | _, _, .bl b => .bl b
  | _, _, .int i => .int i
  | _, _, .str s h => .str s h
  | _, _, .tupH e n r => .tupH (l.ke _ _ e n).1 (l.ke _ _ e n).2 (RVs.mono l r)
  | _, _, .tupK e r => .tupK e (RVs.mono l r)
  | _, _, .lst e n r => .lst (l.ke _ _ e n).1 (l.ke _ _ e n).2 (RVs.mono l r)
  | _, _, .dicH e n ek r nd ne => .dicH (l.ke _ _ e n).1 (l.ke _ _ e n).2 ek (RVs.mono l r) nd ne
  | _, _, .dicK e kk l' r => .dicK e kk l' (RVs.mono l r)
  | _, _, .ref e => .ref (l.io _ _ e)
  | _, _, .ty n => .ty n
  | _, _, .gl e m => .gl e m
  | _, _, .scr e n q => .scr (l.ke _ _ e n).1 (l.ke _ _ e n).2 q
  | _, _, .scrK q => .scrK q
theorem RVs.mono (l : Le W W') : ∀ {vs : List Va} {ys : List V}, RVs S W vs ys → RVs S W' vs ys
  | _, _, .nil => .nil
  | _, _, .cons r rs => .cons (RV.mono l r) (RVs.mono l rs)
end
mutual
/-- a dict that stands empty is no value's -/
theorem RV.over {p : Addr} {o : HO} (hp : W.H p = some (.dK [])) : ∀ {v : Va} {y : V}, RV S W v y → RV S ⟨W.ι, W.h, upd W.H p o⟩ v y
  | _, _, .non => .non
  | _, _, .bl b => .bl b
  | _, _, .int i => .int i
  | _, _, .str s h => .str s h
  | _, _, .tupH (a := a) e n r => .tupH (by show upd W.H p o a = _; rw [upd_ne (fun z => by rw [z, hp] at e; cases e)]; exact e) n (RVs.over hp r)
  | _, _, .tupK e r => .tupK e (RVs.over hp r)
  | _, _, .lst (a := a) e n r => .lst (by show upd W.H p o a = _; rw [upd_ne (fun z => by rw [z, hp] at e; cases e)]; exact e) n (RVs.over hp r)
  | _, _, .dicH (a := a) e n ek r nd ne => .dicH (by show upd W.H p o a = _; rw [upd_ne (fun z => by rw [z, hp] at e; cases e; exact ne rfl)]; exact e) n ek (RVs.over hp r) nd ne
  | _, _, .dicK e kk l' r => .dicK e kk l' (RVs.over hp r)
  | _, _, .ref e => .ref e
  | _, _, .ty n => .ty n
  | _, _, .gl e m => .gl e m
  | _, _, .scr (a := a) (o := o1) e n q => .scr (o := o1) (by show upd W.H p o a = _; rw [upd_ne (fun z => by rw [z, hp] at e; cases e; rcases q with q | ⟨_, q⟩ <;> cases q)]; exact e) n q
  | _, _, .scrK q => .scrK q
theorem RVs.over {p : Addr} {o : HO} (hp : W.H p = some (.dK [])) : ∀ {vs : List Va} {ys : List V}, RVs S W vs ys → RVs S ⟨W.ι, W.h, upd W.H p o⟩ vs ys
  | _, _, .nil => .nil
  | _, _, .cons r rs => .cons (RV.over hp r) (RVs.over hp rs)
end
theorem RVs.length : ∀ {vs : List Va} {ys : List V}, RVs S W vs ys → vs.length = ys.length
  | _, _, .nil => rfl
  | _, _, .cons _ rs => by simp [RVs.length rs]
theorem RVs.get : ∀ {vs : List Va} {ys : List V} {i : Nat} {v : Va}, RVs S W vs ys → vs[i]? = some v → ∃ y, ys[i]? = some y ∧ RV S W v y
  | _, _, i, v, .nil, h => by simp at h
  | _, _, 0, v, .cons r _, h => by simp at h; subst h; exact ⟨_, rfl, r⟩
  | _, _, i + 1, v, .cons _ rs, h => by
    obtain ⟨y, e, r⟩ := RVs.get (i := i) rs (by simpa using h)
    exact ⟨y, by simpa using e, r⟩
theorem RVs.append : ∀ {vs vs' : List Va} {ys ys' : List V}, RVs S W vs ys → RVs S W vs' ys' → RVs S W (vs ++ vs') (ys ++ ys')
  | _, _, _, _, .nil, s => s
  | _, _, _, _, .cons r rs, s => .cons r (RVs.append rs s)
theorem RVs.take : ∀ (n : Nat) {vs : List Va} {ys : List V}, RVs S W vs ys → RVs S W (vs.take n) (ys.take n)
  | 0, _, _, _ => by simpa using RVs.nil
  | n + 1, _, _, .nil => by simpa using RVs.nil
  | n + 1, _, _, .cons r rs => by simpa using RVs.cons r (RVs.take n rs)
theorem RVs.drop : ∀ (n : Nat) {vs : List Va} {ys : List V}, RVs S W vs ys → RVs S W (vs.drop n) (ys.drop n)
  | 0, _, _, h => by simpa using h
  | n + 1, _, _, .nil => by simpa using RVs.nil
  | n + 1, _, _, .cons r rs => by simpa using RVs.drop n rs
theorem RVs.set : ∀ (n : Nat) {vs : List Va} {ys : List V} {v : Va} {y : V}, RVs S W vs ys → RV S W v y → RVs S W (vs.set n v) (ys.set n y)
  | _, _, _, _, _, .nil, _ => by simpa using RVs.nil
  | 0, _, _, _, _, .cons r rs, q => by simpa using RVs.cons q rs
  | n + 1, _, _, _, _, .cons r rs, q => by simpa using RVs.cons r (RVs.set n rs q)
theorem RVs.zlook (ks : List Va) (k : Va) : ∀ {vs : List Va} {ys : List V}, RVs S W vs ys → (∀ v, zlook ks vs k = some v → ∃ y, zlook ks ys k = some y ∧ RV S W v y) ∧ (zlook ks vs k = none → zlook ks ys k = none) := by
  induction ks with
  | nil => intro vs ys _; exact ⟨fun v h => by simp [Mp.zlook] at h, fun _ => by simp [Mp.zlook]⟩
  | cons c cs ih =>
    intro vs ys r
    cases r with
    | nil => exact ⟨fun v h => by simp [Mp.zlook] at h, fun _ => by simp [Mp.zlook]⟩
    | cons r rs =>
      obtain ⟨i1, i2⟩ := ih rs
      unfold Mp.zlook at *
      by_cases hc : veq c k = true
      · simp only [List.zip_cons_cons, List.find?_cons, hc, Option.map_some]
        exact ⟨fun v h => by cases h; exact ⟨_, rfl, r⟩, fun h => by cases h⟩
      · simp only [List.zip_cons_cons, List.find?_cons, Bool.not_eq_true _ |>.mp hc]
        exact ⟨i1, i2⟩

/-! ### the state -/
structure RH (S : Se) (W : Wd) : Prop where
  len : W.ι.length = W.h.length
  cel : ∀ (n : Nat) (xs : List Va), W.h[n]? = some (Cel.lst xs) → ∃ (a : Addr) (ys : List V), W.ι[n]? = some a ∧ W.H a = some (HO.lst ys) ∧ RVs S W xs ys
  inj : ∀ (n m : Nat) (xs ys : List Va) (a : Addr), W.h[n]? = some (Cel.lst xs) → W.h[m]? = some (Cel.lst ys) → W.ι[n]? = some a → W.ι[m]? = some a → n = m
def RS (S : Se) (W : Wd) (ρ : Loc) (σ : L2.St) : Prop := ρ.length = σ.length ∧ ∀ (i : Nat) (v : Va), ρ[i]? = some (some v) → ∃ y : V, σ[i]? = some (some y) ∧ RV S W v y
theorem RS.mono {ρ : Loc} {σ : L2.St} (l : Le W W') (r : RS S W ρ σ) : RS S W' ρ σ := ⟨r.1, fun i v e => let ⟨y, e1, q⟩ := r.2 i v e; ⟨y, e1, q.mono l⟩⟩
theorem RS.set {ρ : Loc} {σ : L2.St} {v : Va} {y : V} (r : RS S W ρ σ) (i : Nat) (q : RV S W v y) : RS S W (ρ.set i (some v)) (σ.set i (some y)) := by
  refine ⟨by simp [r.1], fun j u e => ?_⟩
  by_cases hj : i = j
  · subst hj
    by_cases hi : i < ρ.length
    · rw [List.getElem?_set_self hi] at e
      cases e
      exact ⟨y, List.getElem?_set_self (by rw [← r.1]; exact hi), q⟩
    · rw [List.getElem?_eq_none (by simpa using hi)] at e; cases e
  · rw [List.getElem?_set_ne hj] at e
    obtain ⟨z, e1, q1⟩ := r.2 j u e
    exact ⟨z, by rw [List.getElem?_set_ne hj]; exact e1, q1⟩
theorem RS.unset {ρ : Loc} {σ : L2.St} (r : RS S W ρ σ) (i : Nat) : RS S W (ρ.set i none) (σ.set i none) := by
  refine ⟨by simp [r.1], fun j u e => ?_⟩
  by_cases hj : i = j
  · subst hj
    by_cases hi : i < ρ.length
    · rw [List.getElem?_set_self hi] at e; cases e
    · rw [List.getElem?_eq_none (by simpa using hi)] at e; cases e
  · rw [List.getElem?_set_ne hj] at e
    obtain ⟨z, e1, q1⟩ := r.2 j u e
    exact ⟨z, by rw [List.getElem?_set_ne hj]; exact e1, q1⟩
theorem RS.wipe {ρ : Loc} {σ : L2.St} (r : RS S W ρ σ) : ∀ own : List Nat, RS S W (wipeL ρ own) (wipe σ own)
  | [] => r
  | v :: vs => (RS.wipe r vs).unset v

/-- an object that is no cell's, laid new -/
theorem Le.laid {p : Addr} {o : HO} (hp : W.H p = none) : Le W ⟨W.ι, W.h, upd W.H p o⟩ :=
  ⟨fun _ _ e => e, fun a u e n => ⟨by show upd W.H p o a = _; rw [upd_ne (ne_of_none e hp)]; exact e, n⟩⟩
theorem RH.laid {p : Addr} {o : HO} (R : RH S W) (hp : W.H p = none) : RH S ⟨W.ι, W.h, upd W.H p o⟩ :=
  ⟨R.len, fun n xs e => let ⟨a, ys, e1, e2, r⟩ := R.cel n xs e; ⟨a, ys, e1, by show upd W.H p o a = _; rw [upd_ne (ne_of_none e2 hp)]; exact e2, r.mono (Le.laid hp)⟩, R.inj⟩
theorem RH.notOwn {p : Addr} (R : RH S W) (hp : W.H p = none) : ¬ Own W p := fun ⟨n, xs, e, ea⟩ => by
  obtain ⟨a, ys, e1, e2, _⟩ := R.cel n xs e
  rw [ea] at e1; cases e1
  rw [hp] at e2; cases e2
/-- a new cell -/
theorem Le.cell {p : Addr} {xs : List Va} {ys : List V} (R : RH S W) (hp : W.H p = none) : Le W ⟨W.ι ++ [p], W.h ++ [.lst xs], upd W.H p (.lst ys)⟩ := by
  refine ⟨fun n a e => ?_, fun a u e n => ⟨by show upd W.H p _ a = _; rw [upd_ne (ne_of_none e hp)]; exact e, fun ⟨m, zs, e1, e2⟩ => ?_⟩⟩
  · show (W.ι ++ [p])[n]? = some a
    rw [List.getElem?_append_left (by have := (List.getElem?_eq_some_iff.mp e).1; exact this)]
    exact e
  · have e1 : (W.h ++ [Cel.lst xs])[m]? = some (.lst zs) := e1
    have e2 : (W.ι ++ [p])[m]? = some a := e2
    by_cases hm : m < W.h.length
    · rw [List.getElem?_append_left hm] at e1
      rw [List.getElem?_append_left (by rw [R.len]; exact hm)] at e2
      exact n ⟨m, zs, e1, e2⟩
    · have hl : m < (W.ι ++ [p]).length := (List.getElem?_eq_some_iff.mp e2).1
      rw [List.length_append, R.len] at hl
      have hm' : m = W.ι.length := by rw [R.len]; simp at hl; omega
      rw [hm'] at e2
      simp at e2
      rw [e2] at hp
      rw [hp] at e; cases e
theorem RH.cell {p : Addr} {xs : List Va} {ys : List V} (R : RH S W) (hp : W.H p = none) (r : RVs S W xs ys) : RH S ⟨W.ι ++ [p], W.h ++ [.lst xs], upd W.H p (.lst ys)⟩ := by
  have l := Le.cell (xs := xs) (ys := ys) R hp
  have old : ∀ n, n ≠ W.h.length → ∀ zs, (W.h ++ [Cel.lst xs])[n]? = some (.lst zs) → W.h[n]? = some (.lst zs) := fun n hn zs e => by
    by_cases hm : n < W.h.length
    · rw [List.getElem?_append_left hm] at e; exact e
    · have hl : n < (W.h ++ [Cel.lst xs]).length := (List.getElem?_eq_some_iff.mp e).1
      rw [List.length_append] at hl
      simp at hl
      omega
  refine ⟨by simp [R.len], fun n zs e => ?_, fun n m zs us a e1 e2 e3 e4 => ?_⟩
  · by_cases hn : n = W.h.length
    · have e : (W.h ++ [Cel.lst xs])[n]? = some (.lst zs) := e
      rw [hn] at e
      simp at e
      subst e
      refine ⟨p, ys, ?_, upd_same, r.mono l⟩
      show (W.ι ++ [p])[n]? = some p
      rw [hn, ← R.len]
      simp
    · obtain ⟨a, us, h1, h2, h3⟩ := R.cel n zs (old n hn zs e)
      exact ⟨a, us, l.io _ _ h1, by show upd W.H p _ a = _; rw [upd_ne (ne_of_none h2 hp)]; exact h2, h3.mono l⟩
  · have key : ∀ k zs, k ≠ W.h.length → (W.h ++ [Cel.lst xs])[k]? = some (.lst zs) → (W.ι ++ [p])[k]? = some a → W.ι[k]? = some a ∧ W.H a ≠ none := fun k zs hk e e' => by
      obtain ⟨b, us, h1, h2, _⟩ := R.cel k zs (old k hk zs e)
      have h1' : (W.ι ++ [p])[k]? = some b := l.io _ _ h1
      rw [e'] at h1'; cases h1'
      exact ⟨h1, by rw [h2]; simp⟩
    have at_ : ∀ k, k = W.h.length → (W.ι ++ [p])[k]? = some a → a = p := fun k hk e => by
      rw [hk, ← R.len] at e
      simp at e
      exact e.symm
    by_cases hn : n = W.h.length
    · by_cases hm : m = W.h.length
      · rw [hn, hm]
      · have ea := at_ n hn e3
        obtain ⟨_, q⟩ := key m us hm e2 e4
        rw [ea] at q
        exact absurd hp q
    · by_cases hm : m = W.h.length
      · have ea := at_ m hm e4
        obtain ⟨_, q⟩ := key n zs hn e1 e3
        rw [ea] at q
        exact absurd hp q
      · exact R.inj n m zs us a (old n hn zs e1) (old m hm us e2) (key n zs hn e1 e3).1 (key m us hm e2 e4).1
theorem RH.over {p : Addr} {o : HO} (R : RH S W) (hp : W.H p = some (.dK [])) : RH S ⟨W.ι, W.h, upd W.H p o⟩ :=
  ⟨R.len, fun n xs e => let ⟨a, ys, e1, e2, r⟩ := R.cel n xs e; ⟨a, ys, e1, by show upd W.H p o a = _; rw [upd_ne (fun z => by rw [z, hp] at e2; cases e2)]; exact e2, r.over hp⟩, R.inj⟩
/-- a cell is changed -/
theorem Le.store {n : Nat} {a : Addr} {xs zs : List Va} {ys : List V} (R : RH S W) (e : W.h[n]? = some (.lst xs)) (ea : W.ι[n]? = some a) : Le W ⟨W.ι, W.h.set n (.lst zs), upd W.H a (.lst ys)⟩ := by
  refine ⟨fun _ _ q => q, fun b u eb nb => ⟨?_, fun ⟨m, us, e1, e2⟩ => ?_⟩⟩
  · show upd W.H a _ b = _
    rw [upd_ne (fun z => nb (by rw [z]; exact ⟨n, xs, e, ea⟩))]
    exact eb
  · have e1 : (W.h.set n (.lst zs))[m]? = some (.lst us) := e1
    have e2 : W.ι[m]? = some b := e2
    by_cases hm : n = m
    · subst hm
      exact nb ⟨n, xs, e, e2⟩
    · rw [List.getElem?_set_ne hm] at e1
      exact nb ⟨m, us, e1, e2⟩
theorem RH.store {n : Nat} {a : Addr} {xs zs : List Va} {ys : List V} (R : RH S W) (e : W.h[n]? = some (.lst xs)) (ea : W.ι[n]? = some a) (r : RVs S W zs ys) : RH S ⟨W.ι, W.h.set n (.lst zs), upd W.H a (.lst ys)⟩ := by
  have l := Le.store (zs := zs) (ys := ys) R e ea
  have hn : n < W.h.length := (List.getElem?_eq_some_iff.mp e).1
  have was : ∀ (m : Nat) (us : List Va), (W.h.set n (.lst zs))[m]? = some (Cel.lst us) → ∃ us' : List Va, W.h[m]? = some (Cel.lst us') := fun m us q => by
    by_cases hm : n = m
    · subst hm; exact ⟨xs, e⟩
    · rw [List.getElem?_set_ne hm] at q; exact ⟨us, q⟩
  refine ⟨by simp [R.len], fun m us q => ?_, fun m k us us' b q1 q2 q3 q4 => ?_⟩
  · by_cases hm : n = m
    · subst hm
      have q : (W.h.set n (.lst zs))[n]? = some (.lst us) := q
      rw [List.getElem?_set_self hn] at q
      cases q
      exact ⟨a, ys, ea, upd_same, r.mono l⟩
    · have q : (W.h.set n (.lst zs))[m]? = some (.lst us) := q
      rw [List.getElem?_set_ne hm] at q
      obtain ⟨b, vs, h1, h2, h3⟩ := R.cel m us q
      refine ⟨b, vs, h1, ?_, h3.mono l⟩
      show upd W.H a _ b = _
      rw [upd_ne (fun z => hm (R.inj n m xs us a e q ea (by rw [← z]; exact h1)))]
      exact h2
  · obtain ⟨w1, z1⟩ := was m us q1
    obtain ⟨w2, z2⟩ := was k us' q2
    exact R.inj m k w1 w2 b z1 z2 q3 q4
/-- a cell becomes a value -/
theorem Le.free {n : Nat} : Le W ⟨W.ι, W.h.set n .gone, W.H⟩ := by
  refine ⟨fun _ _ q => q, fun b u eb nb => ⟨eb, fun ⟨m, us, e1, e2⟩ => ?_⟩⟩
  have e1 : (W.h.set n .gone)[m]? = some (Cel.lst us) := e1
  by_cases hm : n = m
  · subst hm
    by_cases hl : n < W.h.length
    · rw [List.getElem?_set_self hl] at e1; cases e1
    · rw [List.getElem?_eq_none (by simpa using hl)] at e1; cases e1
  · rw [List.getElem?_set_ne hm] at e1
    exact nb ⟨m, us, e1, e2⟩
theorem RH.free {n : Nat} (R : RH S W) : RH S ⟨W.ι, W.h.set n .gone, W.H⟩ := by
  have was : ∀ (m : Nat) (us : List Va), (W.h.set n .gone)[m]? = some (Cel.lst us) → n ≠ m ∧ W.h[m]? = some (Cel.lst us) := fun m us q => by
    by_cases hm : n = m
    · subst hm
      by_cases hl : n < W.h.length
      · rw [List.getElem?_set_self hl] at q; cases q
      · rw [List.getElem?_eq_none (by simpa using hl)] at q; cases q
    · rw [List.getElem?_set_ne hm] at q; exact ⟨hm, q⟩
  refine ⟨by simp [R.len], fun m us q => ?_, fun m k us us' b q1 q2 q3 q4 => R.inj m k us us' b (was m us q1).2 (was k us' q2).2 q3 q4⟩
  obtain ⟨a, ys, h1, h2, h3⟩ := R.cel m us (was m us q).2
  exact ⟨a, ys, h1, h2, h3.mono Le.free⟩
theorem RV.freed {n : Nat} {a : Addr} {xs : List Va} (R : RH S W) (e : W.h[n]? = some (.lst xs)) (ea : W.ι[n]? = some a) : RV S ⟨W.ι, W.h.set n .gone, W.H⟩ (.lst xs) (.ref a) := by
  obtain ⟨a', ys, h1, h2, h3⟩ := R.cel n xs e
  rw [ea] at h1
  cases h1
  refine .lst h2 (fun ⟨m, us, e1, e2⟩ => ?_) (h3.mono Le.free)
  have e1 : (W.h.set n .gone)[m]? = some (Cel.lst us) := e1
  by_cases hm : n = m
  · subst hm
    rw [List.getElem?_set_self (List.getElem?_eq_some_iff.mp e).1] at e1
    cases e1
  · rw [List.getElem?_set_ne hm] at e1
    exact hm (R.inj n m xs us a e e1 ea e2)
end
end Mp

set_option autoImplicit false
/-! Mp3: the operators -/
namespace Mp
open PySem L2
mutual
def dat : Va → PyData
  | .non => .none | .bl b => .bool b | .int i => .int i | .str s => .str (strS s)
  | .tup xs => .tuple (dats xs) | .lst xs => .list (dats xs)
  | _ => .none
def dats : List Va → List PyData
  | [] => []
  | x :: xs => dat x :: dats xs
end
theorem strS_inj {x y : List Nat} : (strS x == strS y) = (x == y) := by
  by_cases h : x = y
  · subst h; simp
  · have h2 : strS x ≠ strS y := fun e => h (by unfold strS at e; simpa using e)
    rw [beq_eq_false_iff_ne.mpr h2, beq_eq_false_iff_ne.mpr h]
mutual
theorem veq_dat : ∀ x y : Va, okd x = true → okd y = true → veq x y = PyData.eqv (dat x) (dat y)
  | .non, y, _, hy => by cases y <;> simp_all [veq, dat, PyData.eqv, okd]
  | .bl b, y, _, hy => by cases y <;> simp_all [veq, dat, PyData.eqv, okd]
  | .int i, y, _, hy => by cases y <;> simp_all [veq, dat, PyData.eqv, okd]
  | .str s, y, _, hy => by cases y <;> simp_all [veq, dat, PyData.eqv, okd, strS_inj]
  | .tup xs, y, hx, hy => by
    cases y <;> simp_all [veq, dat, PyData.eqv, okd]
    exact veqs_dat xs _ hx hy
  | .lst xs, y, hx, hy => by
    cases y <;> simp_all [veq, dat, PyData.eqv, okd]
    exact veqs_dat xs _ hx hy
  | .dic _ _, _, hx, _ => by simp [okd] at hx
  | .ref _, _, hx, _ => by simp [okd] at hx
  | .ty _, _, hx, _ => by simp [okd] at hx
  | .gl _, _, hx, _ => by simp [okd] at hx
  | .scr _, _, hx, _ => by simp [okd] at hx
theorem veqs_dat : ∀ xs ys : List Va, okds xs = true → okds ys = true → veqs xs ys = PyData.eqvAll (dats xs) (dats ys)
  | [], [], _, _ => by simp [veqs, dats, PyData.eqvAll]
  | [], y :: ys, _, _ => by simp [veqs, dats, PyData.eqvAll]
  | x :: xs, [], _, _ => by simp [veqs, dats, PyData.eqvAll]
  | x :: xs, y :: ys, hx, hy => by
    simp only [okds, Bool.and_eq_true] at hx hy
    simp only [veqs, dats, PyData.eqvAll]
    rw [veq_dat x y hx.1 hy.1, veqs_dat xs ys hx.2 hy.2]
end
mutual
theorem dep_dat : ∀ x : Va, okd x = true → (dat x).depth = dep x
  | .non, _ => rfl | .bl _, _ => rfl | .int _, _ => rfl | .str _, _ => rfl
  | .tup xs, h => by simp only [okd] at h; simp [dat, PyData.depth, dep, deps_dat xs h]
  | .lst xs, h => by simp only [okd] at h; simp [dat, PyData.depth, dep, deps_dat xs h]
  | .dic _ _, hx => by simp [okd] at hx
  | .ref _, hx => by simp [okd] at hx
  | .ty _, hx => by simp [okd] at hx
  | .gl _, hx => by simp [okd] at hx
  | .scr _, hx => by simp [okd] at hx
theorem deps_dat : ∀ xs : List Va, okds xs = true → PyData.depthAll (dats xs) = deps xs
  | [], _ => rfl
  | x :: xs, h => by
    simp only [okds, Bool.and_eq_true] at h
    simp [dats, PyData.depthAll, deps, dep_dat x h.1, deps_dat xs h.2]
end
theorem txOk_strOk {s : List Nat} (h : txOk s) : PyData.strOk (strS s) = true := by
  unfold PyData.strOk strS
  rw [← Array.all_toList]
  simpa [txOk] using h
theorem KTup.sqT {K : PySem.W.Frag} {H : L2.Hp} {a : Addr} {ys : List V} (h : KTup K a ys) : SqT K H a ys := .inr h
section
variable {S : Se} {W : Wd}
mutual
theorem RV.dp : ∀ {v : Va} {y : V}, okd v = true → RV S W v y → Dp S.K W.H y (dat v) ∧ (dat v).canLay0 = true
  | _, _, _, .non => ⟨.non, rfl⟩
  | _, _, _, .bl b => ⟨.bl b, rfl⟩
  | _, _, _, .int i => ⟨.int i, rfl⟩
  | _, _, _, .str s h => ⟨.str _, by simpa [dat, PyData.canLay0] using txOk_strOk h⟩
  | _, _, o, .tupH e n r => by
    simp only [okd] at o
    obtain ⟨h1, h2⟩ := RVs.dp o r
    exact ⟨by simpa [dat] using Dp.tup (SqT.of e) h1, by simpa [dat, PyData.canLay0] using h2⟩
  | _, _, o, .tupK e r => by
    simp only [okd] at o
    obtain ⟨h1, h2⟩ := RVs.dp o r
    exact ⟨by simpa [dat] using Dp.tup e.sqT h1, by simpa [dat, PyData.canLay0] using h2⟩
  | _, _, o, .lst e n r => by
    simp only [okd] at o
    obtain ⟨h1, h2⟩ := RVs.dp o r
    exact ⟨by simpa [dat] using Dp.lst (SqL.of e) h1, by simpa [dat, PyData.canLay0] using h2⟩
  | _, _, o, .dicH .. => by simp [okd] at o
  | _, _, o, .dicK .. => by simp [okd] at o
  | _, _, o, .ref _ => by simp [okd] at o
  | _, _, o, .ty _ => by simp [okd] at o
  | _, _, o, .gl _ _ => by simp [okd] at o
  | _, _, o, .scr .. => by simp [okd] at o
  | _, _, o, .scrK .. => by simp [okd] at o
theorem RVs.dp : ∀ {vs : List Va} {ys : List V}, okds vs = true → RVs S W vs ys → DpAll S.K W.H ys (dats vs) ∧ PyData.canLayAll0 (dats vs) = true
  | _, _, _, .nil => ⟨.nil, rfl⟩
  | _, _, o, .cons r rs => by
    simp only [okds, Bool.and_eq_true] at o
    obtain ⟨h1, h2⟩ := RV.dp o.1 r
    obtain ⟨h3, h4⟩ := RVs.dp o.2 rs
    exact ⟨.cons h1 h3, by simp [dats, PyData.canLayAll0, h2, h4]⟩
end
/-- what stands at a list, a value or a cell -/
theorem dr_cases (h : Hp) (v : Va) : (∃ n xs, v = .ref n ∧ h[n]? = some (.lst xs) ∧ dr h v = .lst xs) ∨ dr h v = v := by
  cases v with
  | ref n =>
    cases e : h[n]? with
    | none => exact .inr (by simp [dr, e])
    | some c =>
      cases c with
      | lst xs => exact .inl ⟨n, xs, rfl, e, by simp [dr, e]⟩
      | gone => exact .inr (by simp [dr, e])
  | _ => exact .inr rfl
theorem RV.drl {v : Va} {y : V} {xs : List Va} (R : RH S W) (r : RV S W v y) (e : dr W.h v = .lst xs) : ∃ a ys, y = .ref a ∧ W.H a = some (.lst ys) ∧ RVs S W xs ys := by
  rcases dr_cases W.h v with ⟨n, zs, rfl, e1, e2⟩ | e2
  · rw [e2] at e
    cases e
    cases r with
    | ref ea =>
      obtain ⟨b, ys, h1, h2, h3⟩ := R.cel n _ e1
      rw [ea] at h1; cases h1
      exact ⟨_, ys, rfl, h2, h3⟩
  · rw [e2] at e
    subst e
    cases r with
    | lst e n r => exact ⟨_, _, rfl, e, r⟩
theorem RV.drx {v u : Va} {y : V} (r : RV S W v y) (e : dr W.h v = u) (hu : ∀ xs, u ≠ .lst xs) : RV S W u y := by
  rcases dr_cases W.h v with ⟨n, zs, rfl, e1, e2⟩ | e2
  · rw [e2] at e; exact absurd e.symm (hu _)
  · rw [e2] at e; subst e; exact r
theorem RV.drd {v : Va} {y : V} (R : RH S W) (r : RV S W v y) (o : okd (dr W.h v) = true) : Dp S.K W.H y (dat (dr W.h v)) ∧ (dat (dr W.h v)).canLay0 = true := by
  rcases dr_cases W.h v with ⟨n, zs, rfl, e1, e2⟩ | e2
  · rw [e2] at o ⊢
    simp only [okd] at o
    obtain ⟨a, ys, rfl, h1, h2⟩ := r.drl R e2
    obtain ⟨h3, h4⟩ := RVs.dp o h2
    exact ⟨by simpa [dat] using Dp.lst (SqL.of h1) h3, by simpa [dat, PyData.canLay0] using h4⟩
  · rw [e2] at o ⊢
    exact RV.dp o r
theorem RV.sqT {xs : List Va} {y : V} (r : RV S W (.tup xs) y) : ∃ a ys, y = .ref a ∧ SqT S.K W.H a ys ∧ RVs S W xs ys := by
  cases r with
  | tupH e n r => exact ⟨_, _, rfl, SqT.of e, r⟩
  | tupK e r => exact ⟨_, _, rfl, e.sqT, r⟩
theorem RV.strE {s : List Nat} {y : V} (r : RV S W (.str s) y) : y = .str (strS s) ∧ txOk s := by cases r with | str _ h => exact ⟨rfl, h⟩
theorem RV.intE {i : Int} {y : V} (r : RV S W (.int i) y) : y = .int i := by cases r; rfl
theorem RV.blE {b : Bool} {y : V} (r : RV S W (.bl b) y) : y = .bl b := by cases r; rfl
theorem RV.nonE {y : V} (r : RV S W .non y) : y = .non := by cases r; rfl
theorem shaped_of {v : Va} (o : okd v = true) (d : Nat.ble (dep v) 60 = true) (c : (dat v).canLay0 = true) : SeqAt.shaped (dat v) = true := by
  unfold SeqAt.shaped
  rw [c, dep_dat v o]
  have := Nat.le_of_ble_eq_true d
  simp
  omega
end
theorem lim_le : lim ≤ sizeLine := by rw [sizeLine_eq]; decide
theorem strS_len (s : List Nat) : (strS s).length = s.length := by simp [strS, Str.length]
theorem strS_app (x y : List Nat) : strS x ++ strS y = strS (x ++ y) := by
  show Str.append _ _ = _
  simp [Str.append, strS]
theorem strS_strL (x : Str) : strS (strL x) = x := by simp [strS, strL]
theorem strL_strS (x : List Nat) : strL (strS x) = x := by simp [strS, strL]
theorem txOk.app {x y : List Nat} (h : txOk x) (h' : txOk y) : txOk (x ++ y) := fun c hc => (List.mem_append.mp hc).elim (h c) (h' c)
theorem txOk.rep {x : List Nat} (h : txOk x) (n : Nat) : txOk (List.replicate n x).flatten := fun c hc => by
  obtain ⟨l, hl, hc⟩ := List.mem_flatten.mp hc
  rw [(List.mem_replicate.mp hl).2] at hc
  exact h c hc
theorem sml_i {i : Int} (h : sml i = true) : -(2 ^ 64) < i ∧ i < 2 ^ 64 := by simpa [sml] using h

/-- the reading of a two-place operator -/
def rM (S : Se) (o : Op) : R2 := fun x y H Q => ∃ (W : Wd) (v1 v2 v : Va), W.H = H ∧ RH S W ∧ RV S W v1 x ∧ RV S W v2 y ∧ opv o (dr W.h v1) (dr W.h v2) = some v ∧
  ∀ (W' : Wd) (z : V), W'.h = W.h → Le W W' → RH S W' → RV S W' v z → Q z W'.H
abbrev seX (X : Cx) (gn : List Str) : Se := ⟨X.K, X.w, X.mg, gn⟩
section
variable {X : Cx} {gn : List Str}
theorem foldl_app : ∀ (n : Nat) (x acc : List Nat), (List.replicate n x.toArray).foldl (· ++ ·) acc.toArray = (acc ++ (List.replicate n x).flatten).toArray
  | 0, x, acc => by simp
  | n + 1, x, acc => by
    rw [List.replicate_succ, List.foldl_cons]
    have : acc.toArray ++ x.toArray = (acc ++ x).toArray := by simp
    rw [this, foldl_app n x (acc ++ x), List.replicate_succ, List.flatten_cons, List.append_assoc]
/-- a text * a number -/
theorem op_mul_txt : OpR X (binaryOp .Mult) (fun x y H Q => ∃ (z : List Nat) (k : Int), x = .str (strS z) ∧ y = .int k ∧ 0 ≤ k ∧ k ≤ 1000 ∧ z.length ≤ 1000 ∧ Q (.str (strS (List.replicate k.toNat z).flatten)) H) := by
  intro pins s σ H x y v u Q I rx ry h
  obtain ⟨z, k, rfl, rfl, h0, h1, h2, q⟩ := h
  obtain ⟨t, rfl⟩ := rx
  obtain ⟨t', rfl⟩ := ry
  have hl : (strS z).length = z.length := strS_len z
  refine PySem.P.mul_str ?_ (fun a b => ?_) (fun a b => ?_) ?_
  · have e1 : decide (k < -(2 ^ 63 : Int)) = false := decide_eq_false (by omega)
    have e2 : decide (k ≥ 2 ^ 63) = false := decide_eq_false (by omega)
    rw [e1, e2]; rfl
  · rw [hl]
    have hk : 0 < k := by omega
    have : (9007199254740992 : Int) ≤ (2 ^ 63 - 1) / k := by
      apply Int.le_ediv_of_mul_le hk
      have : k * 9007199254740992 ≤ 1000 * 9007199254740992 := Int.mul_le_mul_of_nonneg_right h1 (by decide)
      omega
    omega
  · rw [hl]
    unfold Builtin.Str.tooLong
    have : z.length * k.toNat ≤ 1000 * 1000 := Nat.mul_le_mul h2 (by omega)
    have hz := sizeLine_eq
    first
      | (simp only [decide_eq_false_iff_not]; omega)
      | (simp; omega)
  · have fin : ∀ (w : Str), w = strS (List.replicate k.toNat z).flatten → ∀ t tk, EP X pins σ Q (.str w t) { s with toks := tk } := fun w ew t tk => by
      subst ew
      exact ⟨.str _, H, I.tok _, ⟨_, rfl⟩, q⟩
    have sz : (strS (List.replicate k.toNat z).flatten).length ≤ sizeLine := by
      rw [strS_len, List.length_flatten, List.map_replicate, List.sum_replicate_nat]
      have : k.toNat * z.length ≤ 1000 * 1000 := Nat.mul_le_mul (by omega) h2
      rw [sizeLine_eq]
      omega
    by_cases c1 : k < 1
    · rw [if_pos c1]
      have : k = 0 := by omega
      subst this
      exact ⟨sz, fin Str.empty rfl _ _⟩
    · rw [if_neg c1]
      by_cases c2 : (k == 1 || (strS z).length == 0) = true
      · rw [if_pos c2]
        refine fin _ ?_ t s.toks
        rw [hl] at c2
        rcases Bool.or_eq_true_iff.mp c2 with c | c
        · have : k = 1 := by simpa using c
          subst this
          simp
        · have : z = [] := by simpa using c
          subst this
          simp
      · rw [if_neg c2]
        have e : (⟨(List.replicate k.toNat (strS z).cps).foldl (· ++ ·) #[]⟩ : Str) = strS (List.replicate k.toNat z).flatten := by
          have := foldl_app k.toNat z []
          simp only [List.nil_append] at this
          rw [show (strS z).cps = z.toArray from rfl, this]
          rfl
        rw [e]
        exact ⟨sz, fin _ rfl _ _⟩
def pyOp : Op → Value → Value → Sem Value
  | .add => binaryOp .Add | .sub => binaryOp .Sub | .mul => binaryOp .Mult | .fdv => binaryOp .FloorDiv | .mod => binaryOp .Mod | .pow => binaryOp .Pow
  | .eq => compareOp .Eq | .ne => compareOp .NotEq | .lt => compareOp .Lt | .le => compareOp .LtE | .gt => compareOp .Gt | .ge => compareOp .GtE
  | .mem => compareOp .In | .nme => compareOp .NotIn
/-- a new list that is a value -/
theorem new_lst {S : Se} {W : Wd} {xs : List Va} {ys : List V} {Q : VK} (R : RH S W) (r : RVs S W xs ys) (k : ∀ (W' : Wd) (z : V), W'.h = W.h → Le W W' → RH S W' → RV S W' (.lst xs) z → Q z W'.H) :
    ∀ p, W.H p = none → Q (.ref p) (upd W.H p (.lst ys)) := fun p hp =>
  k ⟨W.ι, W.h, upd W.H p (.lst ys)⟩ (.ref p) rfl (Le.laid hp) (R.laid hp) (.lst upd_same (fun o => R.notOwn hp o) (r.mono (Le.laid hp)))
theorem new_tup {S : Se} {W : Wd} {xs : List Va} {ys : List V} {Q : VK} (R : RH S W) (r : RVs S W xs ys) (k : ∀ (W' : Wd) (z : V), W'.h = W.h → Le W W' → RH S W' → RV S W' (.tup xs) z → Q z W'.H) :
    ∀ p, W.H p = none → Q (.ref p) (upd W.H p (.tup ys)) := fun p hp =>
  k ⟨W.ι, W.h, upd W.H p (.tup ys)⟩ (.ref p) rfl (Le.laid hp) (R.laid hp) (.tupH upd_same (fun o => R.notOwn hp o) (r.mono (Le.laid hp)))
end

section
variable {X : Cx} {gn : List Str}
theorem op_sound (o : Op) (hu : X.A.units + 65 < cLine) : OpR X (pyOp o) (rM (seX X gn) o) := by
  rintro pins s σ H x y v u Q I rx ry ⟨W, v1, v2, v', rfl, R, r1, r2, e, k⟩
  have hl := lim_le
  have u1 := r1
  generalize e1 : dr W.h v1 = w1 at e
  generalize e2 : dr W.h v2 = w2 at e
  have hu4 : X.A.units + 64 < cLine := by omega
  -- what the scalars are
  have I1 : ∀ i, w1 = .int i → x = .int i := fun i q => (r1.drx (e1.trans q) (fun _ z => nomatch z)).intE
  have I2 : ∀ i, w2 = .int i → y = .int i := fun i q => (r2.drx (e2.trans q) (fun _ z => nomatch z)).intE
  have S1 : ∀ t, w1 = .str t → x = .str (strS t) ∧ txOk t := fun i q => (r1.drx (e1.trans q) (fun _ z => nomatch z)).strE
  have S2 : ∀ t, w2 = .str t → y = .str (strS t) ∧ txOk t := fun i q => (r2.drx (e2.trans q) (fun _ z => nomatch z)).strE
  have kI : ∀ i, v' = .int i → Q (.int i) W.H := fun i q => k W _ rfl (Le.refl W) R (by rw [q]; exact .int i)
  have kB : ∀ b, v' = .bl b → Q (.bl b) W.H := fun b q => k W _ rfl (Le.refl W) R (by rw [q]; exact .bl b)
  have kS : ∀ t, v' = .str t → txOk t → Q (.str (strS t)) W.H := fun t q h => k W _ rfl (Le.refl W) R (by rw [q]; exact .str t h)
  have eqs : ∀ b : Bool, okc w1 w2 = true → (∀ w : Bool, w = PyData.eqv (dat w1) (dat w2) → Q (.bl (if b then w else !w)) W.H) → ∃ d f, Dp X.K W.H x d ∧ Dp X.K W.H y f ∧ SeqAt.shaped d = true ∧ SeqAt.shaped f = true ∧ Q (.bl (if b then PyData.eqv d f else !PyData.eqv d f)) W.H := fun b ok q => by
    simp only [okc, Bool.and_eq_true] at ok
    obtain ⟨⟨⟨o1, o2⟩, d1⟩, d2⟩ := ok
    obtain ⟨p1, c1⟩ := r1.drd R (by rw [e1]; exact o1)
    obtain ⟨p2, c2⟩ := r2.drd R (by rw [e2]; exact o2)
    rw [e1] at p1 c1
    rw [e2] at p2 c2
    exact ⟨dat w1, dat w2, p1, p2, shaped_of o1 d1 c1, shaped_of o2 d2 c2, q _ rfl⟩
  have mems : ∀ (b : Bool) (ys : List Va), w2 = .lst ys → okd w1 = true → okds ys = true → Nat.ble (dep w1) 60 = true → Nat.ble (deps ys) 59 = true → Q (.bl (if b then ys.any fun z => veq z w1 else !ys.any fun z => veq z w1)) W.H →
      ∃ d ds, Dp X.K W.H x d ∧ Dp X.K W.H y (.list ds) ∧ SeqAt.shaped d = true ∧ SeqAt.shaped (.list ds) = true ∧ Q (.bl (if b then ds.any fun z => PyData.eqv z d else !ds.any fun z => PyData.eqv z d)) W.H := fun b ys ew o1 o2 d1 d2 q => by
    obtain ⟨p1, c1⟩ := r1.drd R (by rw [e1]; exact o1)
    obtain ⟨p2, c2⟩ := r2.drd R (by rw [e2, ew]; simpa [okd] using o2)
    rw [e1] at p1 c1
    rw [e2, ew] at p2 c2
    have d2' : Nat.ble (dep (.lst ys)) 60 = true := by
      have := Nat.le_of_ble_eq_true d2
      exact Nat.ble_eq_true_of_le (by simp only [dep]; omega)
    refine ⟨dat w1, dats ys, p1, by simpa [dat] using p2, shaped_of o1 d1 c1, by simpa [dat] using shaped_of (v := .lst ys) (by simpa [okd] using o2) d2' c2, ?_⟩
    have ea : ∀ zs : List Va, okds zs = true → ((dats zs).any fun z => PyData.eqv z (dat w1)) = zs.any fun z => veq z w1 := by
      intro zs
      induction zs with
      | nil => intro _; rfl
      | cons z zs ih =>
        intro o
        simp only [okds, Bool.and_eq_true] at o
        simp only [dats, List.any_cons]
        rw [ih o.2, veq_dat z w1 o.1 o1]
    rw [ea ys o2]
    exact q
  unfold opv at e
  split at e
  all_goals first
    | (exfalso; contradiction)
    | skip
  · -- int + int
    rename_i i j
    obtain rfl := I1 i rfl
    obtain rfl := I2 j rfl
    cases e
    exact op_add pins s σ W.H _ _ v u Q I rx ry ⟨i, j, rfl, rfl, kI _ rfl⟩
  · rename_i a b
    obtain ⟨rfl, h1⟩ := S1 a rfl
    obtain ⟨rfl, h2⟩ := S2 b rfl
    split at e
    · rename_i hz
      have hz := Nat.le_of_ble_eq_true hz
      cases e
      refine op_add_str pins s σ W.H _ _ v u Q I rx ry ⟨_, _, rfl, rfl, by rw [strS_len, strS_len]; omega, ?_⟩
      rw [strS_app]
      exact kS _ rfl (h1.app h2)
    · cases e
  · rename_i a b
    obtain ⟨p, ys, rfl, q1, t1⟩ := r1.drl R e1
    obtain ⟨p', ys', rfl, q2, t2⟩ := r2.drl R e2
    split at e
    · rename_i hz
      have hz := Nat.le_of_ble_eq_true hz
      cases e
      exact op_cat pins s σ W.H _ _ v u Q I rx ry ⟨p, p', ys, ys', rfl, rfl, q1, q2, by rw [← t1.length, ← t2.length]; omega, new_lst R (t1.append t2) k⟩
    · cases e
  · rename_i a b
    obtain ⟨p, ys, rfl, q1, t1⟩ := (r1.drx e1 (fun _ z => nomatch z)).sqT
    obtain ⟨p', ys', rfl, q2, t2⟩ := (r2.drx e2 (fun _ z => nomatch z)).sqT
    split at e
    · rename_i hz
      have hz := Nat.le_of_ble_eq_true hz
      cases e
      refine op_catA pins s σ W.H _ _ v u Q I rx ry ⟨p, p', ys, ys', rfl, rfl, q1, q2, by rw [← t1.length, ← t2.length]; omega, fun n1 => ?_, fun n1 n2 => ?_, fun _ _ => new_tup R (t1.append t2) k⟩
      · subst n1
        cases t1
        exact k W _ rfl (Le.refl W) R (r2.drx e2 (fun _ z => nomatch z))
      · subst n2
        cases t2
        refine k W _ rfl (Le.refl W) R ?_
        rw [List.append_nil]
        exact r1.drx e1 (fun _ z => nomatch z)
    · cases e
  · rename_i i j
    obtain rfl := I1 i rfl
    obtain rfl := I2 j rfl
    cases e
    exact op_sub pins s σ W.H _ _ v u Q I rx ry ⟨i, j, rfl, rfl, kI _ rfl⟩
  · rename_i i j
    obtain rfl := I1 i rfl
    obtain rfl := I2 j rfl
    split at e
    · rename_i hs
      cases e
      refine op_mul pins s σ W.H _ _ v u Q I rx ry ⟨i, j, rfl, rfl, ?_, kI _ rfl⟩
      rcases Bool.or_eq_true_iff.mp hs with q | q
      · exact .inl (sml_i q)
      · exact .inr (sml_i q)
    · cases e
  · rename_i a i
    obtain ⟨rfl, h1⟩ := S1 a rfl
    obtain rfl := I2 i rfl
    split at e
    · rename_i hs
      simp only [Bool.and_eq_true, decide_eq_true_eq] at hs
      have hz := Nat.le_of_ble_eq_true hs.2
      cases e
      exact op_mul_txt pins s σ W.H _ _ v u Q I rx ry ⟨a, i, rfl, rfl, hs.1.1, hs.1.2, hz, kS _ rfl (h1.rep _)⟩
    · cases e
  · rename_i i j
    obtain rfl := I1 i rfl
    obtain rfl := I2 j rfl
    split at e
    · rename_i hs
      simp only [Bool.and_eq_true, decide_eq_true_eq] at hs
      cases e
      exact op_fdivW pins s σ W.H _ _ v u Q I rx ry ⟨i, j, rfl, rfl, wide_div (b := 64) hs.1 (by have := hs.2; omega) (by decide) (by decide), kI _ rfl⟩
    · cases e
  · rename_i i j
    obtain rfl := I1 i rfl
    obtain rfl := I2 j rfl
    split at e
    · rename_i hs
      simp only [decide_eq_true_eq] at hs
      cases e
      exact op_mod pins s σ W.H _ _ v u Q I rx ry ⟨i, j, rfl, rfl, hs, kI _ rfl⟩
    · cases e
  · rename_i i j
    obtain rfl := I1 i rfl
    obtain rfl := I2 j rfl
    split at e
    · rename_i hs
      simp only [Bool.and_eq_true, decide_eq_true_eq] at hs
      have := sml_i hs.2
      cases e
      exact op_pow pins s σ W.H _ _ v u Q I rx ry ⟨i, j, rfl, rfl, ⟨hs.1.1, by omega, by omega⟩, kI _ rfl⟩
    · cases e
  · split at e
    · rename_i hs
      cases e
      exact op_eqD hu4 pins s σ W.H _ _ v u Q I rx ry (eqs true hs fun w ew => by
        subst ew
        simp only [okc, Bool.and_eq_true] at hs
        have := kB _ rfl
        rw [veq_dat _ _ hs.1.1.1 hs.1.1.2] at this
        exact this)
    · cases e
  · split at e
    · rename_i hs
      cases e
      exact op_neD hu4 pins s σ W.H _ _ v u Q I rx ry (eqs false hs fun w ew => by
        subst ew
        simp only [okc, Bool.and_eq_true] at hs
        have := kB _ rfl
        rw [veq_dat _ _ hs.1.1.1 hs.1.1.2] at this
        exact this)
    · cases e
  · rename_i i j
    obtain rfl := I1 i rfl
    obtain rfl := I2 j rfl
    cases e
    exact op_lt pins s σ W.H _ _ v u Q I rx ry ⟨i, j, rfl, rfl, kB _ rfl⟩
  · rename_i i j
    obtain rfl := I1 i rfl
    obtain rfl := I2 j rfl
    cases e
    exact op_le pins s σ W.H _ _ v u Q I rx ry ⟨i, j, rfl, rfl, kB _ rfl⟩
  · rename_i i j
    obtain rfl := I1 i rfl
    obtain rfl := I2 j rfl
    cases e
    exact op_gt pins s σ W.H _ _ v u Q I rx ry ⟨i, j, rfl, rfl, kB _ rfl⟩
  · rename_i i j
    obtain rfl := I1 i rfl
    obtain rfl := I2 j rfl
    cases e
    exact op_ge pins s σ W.H _ _ v u Q I rx ry ⟨i, j, rfl, rfl, kB _ rfl⟩
  · rename_i c t
    obtain ⟨rfl, h1⟩ := S1 _ rfl
    obtain ⟨rfl, h2⟩ := S2 _ rfl
    cases e
    exact op_in_sign pins s σ W.H _ _ v u Q I rx ry ⟨c, strS t, rfl, rfl, kB _ rfl⟩
  · rename_i c t
    obtain ⟨rfl, h1⟩ := S1 _ rfl
    obtain ⟨rfl, h2⟩ := S2 _ rfl
    cases e
    exact op_notIn_sign pins s σ W.H _ _ v u Q I rx ry ⟨c, strS t, rfl, rfl, kB _ rfl⟩
  · split at e
    · rename_i hs
      simp only [Bool.and_eq_true] at hs
      cases e
      exact op_inD hu pins s σ W.H _ _ v u Q I rx ry (mems true _ rfl hs.1.1.1 hs.1.1.2 hs.1.2 hs.2 (kB _ rfl))
    · cases e
  · split at e
    · rename_i hs
      simp only [Bool.and_eq_true] at hs
      cases e
      exact op_notInD hu pins s σ W.H _ _ v u Q I rx ry (mems false _ rfl hs.1.1.1 hs.1.1.2 hs.1.2 hs.2 (kB _ rfl))
    · cases e
end
end Mp

set_option autoImplicit false
/-! Mp4: built-ins by values; the readings of Mp's expressions -/
namespace Mp
open PySem L2
abbrev PVa := Va
/-! ### readings -/
section
variable (S : Se) (C : Call)
def tM (m : Ex) : TE := fun σ H Q => ∃ (W : Wd) (ρ : Loc) (v : Va) (h' : Hp), W.H = H ∧ RH S W ∧ RS S W ρ σ ∧ ev C ρ m W.h = .ok v h' ∧
  ∀ (W' : Wd) (y : V), W'.h = h' → Le W W' → RH S W' → RV S W' v y → Q y W'.H
def tMs (ms : Exs) : TA := fun σ H Q => ∃ (W : Wd) (ρ : Loc) (vs : List Va) (h' : Hp), W.H = H ∧ RH S W ∧ RS S W ρ σ ∧ evs C ρ ms W.h = .ok vs h' ∧
  ∀ (W' : Wd) (ys : List V), W'.h = h' → Le W W' → RH S W' → RVs S W' vs ys → Q ys W'.H
def tT (m : Ex) : TT := fun σ H Q => ∃ (W : Wd) (ρ : Loc) (v : Va) (h' : Hp) (b : Bool), W.H = H ∧ RH S W ∧ RS S W ρ σ ∧ ev C ρ m W.h = .ok v h' ∧ tru (dr h' v) = some b ∧
  ∀ (W' : Wd), W'.h = h' → Le W W' → RH S W' → Q b W'.H
end
theorem bind_ok {α β : Type} {o : Out α} {k : α → Hp → Out β} {v : β} {h' : Hp} (e : o.bind k = .ok v h') : ∃ a h1, o = .ok a h1 ∧ k a h1 = .ok v h' := by
  cases o with
  | ok a h => exact ⟨a, h, rfl, e⟩
  | ex _ _ => cases e
  | bad => cases e
theorem ofO_ok {α : Type} {o : Option α} {h h' : Hp} {v : α} (e : ofO o h = .ok v h') : o = some v ∧ h' = h := by
  cases o with
  | some a => cases e; exact ⟨rfl, rfl⟩
  | none => cases e
theorem PE.imp {X : Cx} {e : Expr} {t t' : TE} (h : PE X e t) (i : ∀ σ H Q, t' σ H Q → t σ H Q) : PE X e t' := ⟨fun pins s σ H Q I q => h.run pins s σ H Q I (i σ H Q q)⟩
theorem PT.imp {X : Cx} {e : Expr} {t t' : TT} (h : PT X e t) (i : ∀ σ H Q, t' σ H Q → t σ H Q) : PT X e t' := ⟨fun pins s σ H Q I q => h.run pins s σ H Q I (i σ H Q q)⟩
theorem PW.imp {X : Cx} {e : Expr} {t t' : TT} (h : PW X e t) (i : ∀ σ H Q, t' σ H Q → t σ H Q) : PW X e t' := ⟨fun wh pins s σ H Q I q => h.run wh pins s σ H Q I (i σ H Q q)⟩
theorem PA.imp {X : Cx} {e : List Expr} {t t' : TA} (h : PA X e t) (i : ∀ σ H Q, t' σ H Q → t σ H Q) : PA X e t' := ⟨fun pos pins s σ H Q I q => h.run pos pins s σ H Q I (i σ H Q q)⟩

/-! ### built-ins -/
def rB (S : Se) (b : Bl) : List V → L2.Hp → VK → Prop := fun xs H Q => ∃ (W : Wd) (vs : List Va) (v : Va), W.H = H ∧ RH S W ∧ RVs S W vs xs ∧ blv b (vs.map (dr W.h)) = some v ∧
  ∀ (W' : Wd) (z : V), W'.h = W.h → Le W W' → RH S W' → RV S W' v z → Q z W'.H
section
variable {S : Se} {W : Wd}
theorem RVs.one {vs : List Va} {xs : List V} {u : Va} (r : RVs S W vs xs) (e : vs.map (dr W.h) = [u]) : ∃ v x, vs = [v] ∧ xs = [x] ∧ RV S W v x ∧ dr W.h v = u := by
  match vs, r, e with
  | [v], .cons r .nil, e => exact ⟨v, _, rfl, rfl, r, by simpa using e⟩
theorem RVs.two {vs : List Va} {xs : List V} {u u' : Va} (r : RVs S W vs xs) (e : vs.map (dr W.h) = [u, u']) : ∃ v v' x x', vs = [v, v'] ∧ xs = [x, x'] ∧ RV S W v x ∧ dr W.h v = u ∧ RV S W v' x' ∧ dr W.h v' = u' := by
  match vs, r, e with
  | [v, v'], .cons r (.cons r' .nil), e => exact ⟨v, v', _, _, rfl, rfl, r, by simpa using And.left (by simpa using e), r', by simpa using And.right (by simpa using e)⟩
theorem RVs.three {vs : List Va} {xs : List V} {u u' u'' : Va} (r : RVs S W vs xs) (e : vs.map (dr W.h) = [u, u', u'']) : ∃ v v' v'' x x' x'', vs = [v, v', v''] ∧ xs = [x, x', x''] ∧ RV S W v x ∧ dr W.h v = u ∧ RV S W v' x' ∧ dr W.h v' = u' ∧ RV S W v'' x'' ∧ dr W.h v'' = u'' := by
  match vs, r, e with
  | [v, v', v''], .cons r (.cons r' (.cons r'' .nil)), e =>
    have e : dr W.h v = u ∧ dr W.h v' = u' ∧ dr W.h v'' = u'' := by simpa using e
    exact ⟨v, v', v'', _, _, _, rfl, rfl, r, e.1, r', e.2.1, r'', e.2.2⟩
theorem bools_rel : ∀ {vs : List Va} {ys : List V} {bs : List Bool}, RVs S W vs ys → bools vs = some bs → ys = bs.map V.bl
  | _, _, bs, .nil, e => by cases e; rfl
  | _, _, bs, .cons (.bl b) rs, e => by
    obtain ⟨cs, h1, h2⟩ := Option.map_eq_some_iff.mp (show (bools _).map (b :: ·) = some bs from e)
    subst h2
    simp [bools_rel rs h1]
  | _, _, _, .cons .non _, e => by simp [bools] at e
  | _, _, _, .cons (.int _) _, e => by simp [bools] at e
  | _, _, _, .cons (.str _ _) _, e => by simp [bools] at e
  | _, _, _, .cons (.tupH ..) _, e => by simp [bools] at e
  | _, _, _, .cons (.tupK ..) _, e => by simp [bools] at e
  | _, _, _, .cons (.lst ..) _, e => by simp [bools] at e
  | _, _, _, .cons (.dicH ..) _, e => by simp [bools] at e
  | _, _, _, .cons (.dicK ..) _, e => by simp [bools] at e
  | _, _, _, .cons (.ref _) _, e => by simp [bools] at e
  | _, _, _, .cons (.ty _) _, e => by simp [bools] at e
  | _, _, _, .cons (.gl ..) _, e => by simp [bools] at e
  | _, _, _, .cons (.scr ..) _, e => by simp [bools] at e
  | _, _, _, .cons (.scrK ..) _, e => by simp [bools] at e
theorem txts_rel : ∀ {vs : List Va} {ys : List V} {ss : List (List Nat)}, RVs S W vs ys → txts vs = some ss → ys = (ss.map strS).map V.str ∧ ∀ s ∈ ss, txOk s
  | _, _, bs, .nil, e => by cases e; exact ⟨rfl, by simp⟩
  | _, _, bs, .cons (.str s h) rs, e => by
    obtain ⟨cs, h1, h2⟩ := Option.map_eq_some_iff.mp (show (txts _).map (s :: ·) = some bs from e)
    subst h2
    obtain ⟨e1, e2⟩ := txts_rel rs h1
    refine ⟨by simp [e1], fun t ht => ?_⟩
    rcases List.mem_cons.mp ht with q | q
    · rw [q]; exact h
    · exact e2 t q
  | _, _, _, .cons .non _, e => by simp [txts] at e
  | _, _, _, .cons (.int _) _, e => by simp [txts] at e
  | _, _, _, .cons (.bl _) _, e => by simp [txts] at e
  | _, _, _, .cons (.tupH ..) _, e => by simp [txts] at e
  | _, _, _, .cons (.tupK ..) _, e => by simp [txts] at e
  | _, _, _, .cons (.lst ..) _, e => by simp [txts] at e
  | _, _, _, .cons (.dicH ..) _, e => by simp [txts] at e
  | _, _, _, .cons (.dicK ..) _, e => by simp [txts] at e
  | _, _, _, .cons (.ref _) _, e => by simp [txts] at e
  | _, _, _, .cons (.ty _) _, e => by simp [txts] at e
  | _, _, _, .cons (.gl ..) _, e => by simp [txts] at e
  | _, _, _, .cons (.scr ..) _, e => by simp [txts] at e
  | _, _, _, .cons (.scrK ..) _, e => by simp [txts] at e
/-- a list or a tuple at a value -/
theorem RV.seq {v : Va} {y : V} {xs : List Va} (R : RH S W) (r : RV S W v y) (e : dr W.h v = .lst xs ∨ dr W.h v = .tup xs) : ∃ a ys, y = .ref a ∧ (SqL S.K W.H a ys ∨ SqT S.K W.H a ys) ∧ RVs S W xs ys := by
  rcases e with e | e
  · obtain ⟨a, ys, h1, h2, h3⟩ := r.drl R e
    exact ⟨a, ys, h1, .inl (SqL.of h2), h3⟩
  · obtain ⟨a, ys, h1, h2, h3⟩ := (r.drx e (fun _ z => nomatch z)).sqT
    exact ⟨a, ys, h1, .inr h2, h3⟩
theorem RV.tru {v : Va} {y : V} {b : Bool} (R : RH S W) (r : RV S W v y) (e : tru (dr W.h v) = some b) : TruV S.K y W.H b := by
  have hl := lim_le
  generalize e1 : dr W.h v = u at e
  cases u with
  | non => cases e; rw [(r.drx e1 (fun _ z => nomatch z)).nonE]; rfl
  | bl b' => cases e; rw [(r.drx e1 (fun _ z => nomatch z)).blE]; rfl
  | int i => cases e; rw [(r.drx e1 (fun _ z => nomatch z)).intE]; rfl
  | str s =>
    rw [(r.drx e1 (fun _ z => nomatch z)).strE.1]
    simp only [Mp.tru] at e
    split at e
    · rename_i hz
      have := Nat.le_of_ble_eq_true hz
      cases e
      refine ⟨by rw [strS_len]; omega, ?_⟩
      rw [strS_len]
      cases s <;> simp
      omega
    · cases e
  | tup xs =>
    obtain ⟨a, ys, rfl, h1, h2⟩ := (r.drx e1 (fun _ z => nomatch z)).sqT
    cases e
    exact .inr (.inl ⟨ys, h1, by cases h2 <;> rfl⟩)
  | lst xs =>
    obtain ⟨a, ys, rfl, h1, h2⟩ := r.drl R e1
    cases e
    exact .inl ⟨ys, SqL.of h1, by cases h2 <;> rfl⟩
  | _ => cases e
end

section
variable {X : Cx} {gn : List Str}
theorem totl_eq (ss : List (List Nat)) : totl ss = ((ss.map strS).map (·.length)).sum := by
  unfold totl
  have : ∀ (ss : List (List Nat)) (n : Nat), ss.foldl (fun n s => n + s.length) n = n + ((ss.map strS).map (·.length)).sum := by
    intro ss
    induction ss with
    | nil => intro n; simp
    | cons s ss ih =>
      intro n
      simp only [List.foldl_cons, List.map_cons, List.sum_cons]
      rw [ih, strS_len]
      omega
  rw [this]
  omega
theorem b_len : CallR X (.builtin "len") (rB (seX X gn) .len) := by
  rintro pins s σ H xs us Q I r ⟨W, vs, v', rfl, R, rv, e, k⟩
  have hl := lim_le
  have fin : ∀ i, v' = .int i → Q (.int i) W.H := fun i q => k W _ rfl (Le.refl W) R (by rw [q]; exact .int i)
  generalize ew : vs.map (dr W.h) = ws at e
  simp only [blv] at e
  split at e
  all_goals first
    | (exfalso; contradiction)
    | skip
  · obtain ⟨v, x, rfl, rfl, r1, e1⟩ := rv.one ew
    split at e
    · rename_i hz
      have hz := Nat.le_of_ble_eq_true hz
      cases e
      obtain ⟨rfl, _⟩ := (r1.drx e1 (fun _ z => nomatch z)).strE
      exact call_len pins s σ W.H _ us Q I r ⟨_, _, rfl, ⟨by rw [strS_len]; omega, rfl⟩, by rw [strS_len]; exact fin _ rfl⟩
    · cases e
  · obtain ⟨v, x, rfl, rfl, r1, e1⟩ := rv.one ew
    obtain ⟨a, ys, rfl, h1, h2⟩ := r1.seq R (.inl e1)
    cases e
    exact call_len_seq pins s σ W.H _ us Q I r ⟨a, ys, rfl, h1, by rw [← h2.length]; exact fin _ rfl⟩
  · obtain ⟨v, x, rfl, rfl, r1, e1⟩ := rv.one ew
    obtain ⟨a, ys, rfl, h1, h2⟩ := r1.seq R (.inr e1)
    cases e
    exact call_len_seq pins s σ W.H _ us Q I r ⟨a, ys, rfl, h1, by rw [← h2.length]; exact fin _ rfl⟩
theorem b_all (hc : X.calm = true) : CallR X (.builtin "all") (rB (seX X gn) .all) := by
  rintro pins s σ H xs us Q I r ⟨W, vs, v', rfl, R, rv, e, k⟩
  generalize ew : vs.map (dr W.h) = ws at e
  simp only [blv] at e
  split at e
  all_goals first
    | (exfalso; contradiction)
    | skip
  obtain ⟨v, x, rfl, rfl, r1, e1⟩ := rv.one ew
  obtain ⟨bs, h3, rfl⟩ := Option.map_eq_some_iff.mp e
  obtain ⟨a, ys, rfl, h1, h2⟩ := r1.drl R e1
  exact cr_all hc pins s σ W.H _ us Q I r ⟨a, bs, rfl, by rw [← bools_rel h2 h3]; exact SqL.of h1, k W _ rfl (Le.refl W) R (.bl _)⟩
theorem b_any (hc : X.calm = true) : CallR X (.builtin "any") (rB (seX X gn) .any) := by
  rintro pins s σ H xs us Q I r ⟨W, vs, v', rfl, R, rv, e, k⟩
  generalize ew : vs.map (dr W.h) = ws at e
  simp only [blv] at e
  split at e
  all_goals first
    | (exfalso; contradiction)
    | skip
  obtain ⟨v, x, rfl, rfl, r1, e1⟩ := rv.one ew
  obtain ⟨bs, h3, rfl⟩ := Option.map_eq_some_iff.mp e
  obtain ⟨a, ys, rfl, h1, h2⟩ := r1.drl R e1
  exact cr_any hc pins s σ W.H _ us Q I r ⟨a, bs, rfl, by rw [← bools_rel h2 h3]; exact SqL.of h1, k W _ rfl (Le.refl W) R (.bl _)⟩
theorem b_max2 (hc : X.calm = true) : CallR X (.builtin "max") (rB (seX X gn) .max2) := by
  rintro pins s σ H xs us Q I r ⟨W, vs, v', rfl, R, rv, e, k⟩
  generalize ew : vs.map (dr W.h) = ws at e
  simp only [blv] at e
  split at e
  all_goals first
    | (exfalso; contradiction)
    | skip
  obtain ⟨v, v2, x, x2, rfl, rfl, r1, e1, r2, e2⟩ := rv.two ew
  cases e
  obtain rfl := (r1.drx e1 (fun _ z => nomatch z)).intE
  obtain rfl := (r2.drx e2 (fun _ z => nomatch z)).intE
  exact call_max2 hc pins s σ W.H _ us Q I r ⟨_, _, rfl, k W _ rfl (Le.refl W) R (.int _)⟩
theorem natAbs_log2 {i : Int} (h : sml i = true) : i.natAbs.log2 < 1920 := by
  have := sml_i h
  have : i.natAbs < 2 ^ 64 := by omega
  have := PySem.Flt.log2_lt_of (by decide) this
  omega
theorem numI_eq (i : Int) : strL (toString i) = numI i := by
  unfold numI
  cases i with
  | ofNat n =>
    rw [if_neg (by show ¬ ((n : Int) < 0); omega)]
    exact TL.tl_num n
  | negSucc n =>
    rw [if_pos (by omega)]
    have e : (toString (Int.negSucc n) : String) = "-" ++ toString (((n + 1 : Nat) : Int)) := rfl
    show TL.tl (Str.ofString (toString (Int.negSucc n))) = _
    rw [e, TL.tl_ofString, String.toList_append, List.map_append, ← TL.tl_ofString (toString ((n + 1 : Nat) : Int)), TL.tl_num]
    rfl
theorem numI_ok (i : Int) : txOk (numI i) := by
  have h : ∀ n : Nat, txOk (TL.numL n) := fun n c hc => by
    have := TL.numL_digits n c hc
    omega
  unfold numI
  split
  · intro c hc
    rcases List.mem_cons.mp hc with q | q
    · omega
    · exact h _ c q
  · exact h _
theorem b_str : CallR X (.type "str") (rB (seX X gn) .strOf) := by
  rintro pins s σ H xs us Q I r ⟨W, vs, v', rfl, R, rv, e, k⟩
  generalize ew : vs.map (dr W.h) = ws at e
  simp only [blv] at e
  split at e
  all_goals first
    | (exfalso; contradiction)
    | skip
  · obtain ⟨v, x, rfl, rfl, r1, e1⟩ := rv.one ew
    obtain rfl := (r1.drx e1 (fun _ z => nomatch z)).intE
    split at e
    · rename_i hs
      cases e
      refine call_str_int pins s σ W.H _ us Q I r ⟨_, rfl, natAbs_log2 hs, ?_⟩
      have := k W _ rfl (Le.refl W) R (.str _ (numI_ok _))
      rw [← numI_eq, strS_strL] at this
      exact this
    · cases e
  · obtain ⟨v, x, rfl, rfl, r1, e1⟩ := rv.one ew
    obtain ⟨rfl, h⟩ := (r1.drx e1 (fun _ z => nomatch z)).strE
    cases e
    exact SkE.call_str_str pins s σ W.H _ us Q I r ⟨_, rfl, k W _ rfl (Le.refl W) R (.str _ h)⟩
theorem b_int : CallR X (.type "int") (rB (seX X gn) .intOf) := by
  rintro pins s σ H xs us Q I r ⟨W, vs, v', rfl, R, rv, e, k⟩
  generalize ew : vs.map (dr W.h) = ws at e
  simp only [blv] at e
  split at e
  all_goals first
    | (exfalso; contradiction)
    | skip
  · obtain ⟨v, x, rfl, rfl, r1, e1⟩ := rv.one ew
    obtain rfl := (r1.drx e1 (fun _ z => nomatch z)).intE
    cases e
    exact call_int1 pins s σ W.H _ us Q I r (.inl ⟨_, rfl, k W _ rfl (Le.refl W) R (.int _)⟩)
  · obtain ⟨v, x, rfl, rfl, r1, e1⟩ := rv.one ew
    obtain rfl := (r1.drx e1 (fun _ z => nomatch z)).blE
    cases e
    exact call_int1 pins s σ W.H _ us Q I r (.inr ⟨_, rfl, k W _ rfl (Le.refl W) R (.int _)⟩)
  · obtain ⟨v, x, rfl, rfl, r1, e1⟩ := rv.one ew
    obtain ⟨rfl, h⟩ := (r1.drx e1 (fun _ z => nomatch z)).strE
    split at e
    · rename_i hz
      have hz := Nat.le_of_ble_eq_true hz
      obtain ⟨n, h1, rfl⟩ := Option.map_eq_some_iff.mp e
      exact call_int_str pins s σ W.H _ us Q I r ⟨_, n, rfl, h1, by rw [strS_len]; omega, k W _ rfl (Le.refl W) R (.int _)⟩
    · cases e
theorem b_tup : CallR X (.type "tuple") (rB (seX X gn) .tupOf) := by
  rintro pins s σ H xs us Q I r ⟨W, vs, v', rfl, R, rv, e, k⟩
  generalize ew : vs.map (dr W.h) = ws at e
  simp only [blv] at e
  split at e
  all_goals first
    | (exfalso; contradiction)
    | skip
  · obtain ⟨v, x, rfl, rfl, r1, e1⟩ := rv.one ew
    obtain ⟨a, ys, rfl, h1, h2⟩ := r1.drl R e1
    cases e
    exact call_tuple_of pins s σ W.H _ us Q I r ⟨a, ys, rfl, .inl ⟨SqL.of h1, new_tup R h2 k⟩⟩
  · obtain ⟨v, x, rfl, rfl, r1, e1⟩ := rv.one ew
    have r1' := r1.drx e1 (fun _ z => nomatch z)
    obtain ⟨a, ys, rfl, h1, h2⟩ := r1'.sqT
    cases e
    exact call_tuple_of pins s σ W.H _ us Q I r ⟨a, ys, rfl, .inr ⟨h1, k W _ rfl (Le.refl W) R r1'⟩⟩
theorem b_lst : CallR X (.type "list") (rB (seX X gn) .lstOf) := by
  rintro pins s σ H xs us Q I r ⟨W, vs, v', rfl, R, rv, e, k⟩
  generalize ew : vs.map (dr W.h) = ws at e
  simp only [blv] at e
  split at e
  all_goals first
    | (exfalso; contradiction)
    | skip
  · obtain ⟨v, x, rfl, rfl, r1, e1⟩ := rv.one ew
    obtain ⟨a, ys, rfl, h1, h2⟩ := r1.seq R (.inl e1)
    cases e
    exact call_list_of pins s σ W.H _ us Q I r ⟨a, ys, rfl, h1, new_lst R h2 k⟩
  · obtain ⟨v, x, rfl, rfl, r1, e1⟩ := rv.one ew
    obtain ⟨a, ys, rfl, h1, h2⟩ := r1.seq R (.inr e1)
    cases e
    exact call_list_of pins s σ W.H _ us Q I r ⟨a, ys, rfl, h1, new_lst R h2 k⟩
end
end Mp

set_option autoImplicit false
/-! Mp5: methods, slices, items by values -/
namespace Mp
open PySem L2
section
variable {X : Cx} {gn : List Str}
theorem clamp_eq (n d : Nat) (o : Option Int) : clamp n d o = HT.sIx n d o := by cases o <;> rfl
theorem cut_eq (xs : List V) (lo hi : Option Int) : cut xs lo hi = cutV xs lo hi := by
  unfold cut cutV
  rw [clamp_eq, clamp_eq]
theorem RVs.cut {S : Se} {W : Wd} {xs : List Va} {ys : List V} (r : RVs S W xs ys) (lo hi : Option Int) : RVs S W (cut xs lo hi) (cutV ys lo hi) := by
  unfold Mp.cut cutV
  rw [clamp_eq, clamp_eq, r.length]
  exact (r.drop _).take _
theorem RVs.ints {S : Se} {W : Wd} : ∀ ns : List Int, RVs S W (ns.map Va.int) (ns.map V.int)
  | [] => .nil
  | n :: ns => .cons (.int n) (RVs.ints ns)
theorem cutS_eq (s : List Nat) (lo hi : Option Int) : cutS (strS s) lo hi = strS (cut s lo hi) := by
  unfold cutS cut
  rw [clamp_eq, clamp_eq, strS_len]
  rfl
theorem txOk.cut {s : List Nat} (h : txOk s) (lo hi : Option Int) : txOk (cut s lo hi) := fun c hc => h c (List.mem_of_mem_drop (List.mem_of_mem_take hc))
/-- the reading of a slice -/
theorem cut_ints (ns : List Int) (lo hi : Option Int) : cut (ns.map V.int) lo hi = (cut ns lo hi).map V.int := by
  unfold cut
  rw [List.map_take, List.map_drop, List.length_map]
def rSl (S : Se) : V → Option Int → Option Int → L2.Hp → VK → Prop := fun x lo hi H Q => ∃ (W : Wd) (u v : Va), W.H = H ∧ RH S W ∧ RV S W u x ∧ slv (dr W.h u) lo hi = some v ∧
  ∀ (W' : Wd) (z : V), W'.h = W.h → Le W W' → RH S W' → RV S W' v z → Q z W'.H
theorem sl_sound : SlR X (rSl (seX X gn)) := by
  rintro pins s σ H x v vl vu lo hi sl Q I rx hs pl pu ⟨W, w, v', rfl, R, r, e, k⟩
  have hl := lim_le
  generalize ew : dr W.h w = w' at e
  unfold slv at e
  split at e
  · obtain ⟨a, ys, rfl, h1, h2⟩ := r.drl R ew
    cases e
    exact sl_list pins s σ W.H _ v vl vu _ _ sl Q I rx hs pl pu ⟨a, ys, rfl, SqL.of h1, new_lst R (h2.cut _ _) k⟩
  · have r' := r.drx ew (fun _ z => nomatch z)
    cases e
    cases r' with
    | scr e1 n q =>
      have hq : SqL X.K W.H _ _ := .inl (show Rd W.H _ _ by
        rcases q with q | ⟨ob, q⟩
        · rw [q] at e1; exact .inl e1
        · rw [q] at e1; exact .inr ⟨ob, e1⟩)
      refine sl_list pins s σ W.H _ v vl vu _ _ sl Q I rx hs pl pu ⟨_, _, rfl, hq, ?_⟩
      refine new_lst R ?_ k
      rw [← cut_eq, cut_ints]
      exact RVs.ints _
    | scrK q =>
      refine sl_list pins s σ W.H _ v vl vu _ _ sl Q I rx hs pl pu ⟨_, _, rfl, .inr q, ?_⟩
      refine new_lst R ?_ k
      rw [← cut_eq, cut_ints]
      exact RVs.ints _
  · obtain ⟨rfl, h⟩ := (r.drx ew (fun _ z => nomatch z)).strE
    split at e
    · rename_i hz
      have hz := Nat.le_of_ble_eq_true hz
      cases e
      refine sl_str pins s σ W.H _ v vl vu _ _ sl Q I rx hs pl pu ⟨_, rfl, by rw [strS_len]; omega, ?_⟩
      rw [cutS_eq]
      exact k W _ rfl (Le.refl W) R (.str _ (h.cut _ _))
    · cases e
  · cases e
/-! ### items -/
def rI2 (S : Se) : R2 := fun x y H Q => ∃ (W : Wd) (u1 u2 v : Va), W.H = H ∧ RH S W ∧ RV S W u1 x ∧ RV S W u2 y ∧ itm (dr W.h u1) u2 = some v ∧
  ∀ (W' : Wd) (z : V), W'.h = W.h → Le W W' → RH S W' → RV S W' v z → Q z W'.H
theorem ixN_eq {n : Nat} {i : Int} (h0 : -(n : Int) ≤ i) (h1 : i < n) : ixN n i = some (ixOf n i) := by
  unfold ixN ixOf
  by_cases h : i < 0
  · simp only [if_pos h]
    first
      | rfl
      | (split <;> first | rfl | (exfalso; omega))
      | (simp; omega)
  · simp only [if_neg h]
    first
      | rfl
      | (split <;> first | rfl | (exfalso; omega))
      | (simp; omega)
theorem atI_eq {α : Type} {xs : List α} {i : Int} {v : α} (h0 : -(xs.length : Int) ≤ i) (h1 : i < xs.length) (e : xs[ixOf xs.length i]? = some v) : atI xs i = some v := by
  unfold atI
  rw [ixN_eq h0 h1]
  exact e
theorem keyVa_inj {k k' : Key} (h : veq (keyVa k) (keyVa k') = true) : k = k' := by
  cases k <;> cases k'
  · simp only [keyVa, veq, beq_iff_eq] at h; rw [h]
  · simp [keyVa, veq] at h
  · simp [keyVa, veq] at h
  · rename_i a b
    simp only [keyVa, veq, beq_iff_eq] at h
    rw [show a = b by rw [← strS_strL a, ← strS_strL b, h]]
theorem veq_keyVa (k k' : Key) : veq (keyVa k) (keyVa k') = decide (k = k') := by
  cases e : veq (keyVa k) (keyVa k') with
  | true => rw [keyVa_inj e]; simp
  | false =>
    symm
    rw [decide_eq_false_iff_not]
    rintro rfl
    cases k
    · simp [keyVa, veq] at e
    · simp [keyVa, veq] at e
/-- what a dict's look-up gives -/
theorem zlook_dK {W : Wd} {S : Se} {vs : List Va} (k : Key) : ∀ {kvs : List (Key × V)}, RVs S W vs (kvs.map (·.2)) → (∀ v, zlook (kvs.map fun p => keyVa p.1) vs (keyVa k) = some v → ∃ y, valV kvs k = some y ∧ RV S W v y) ∧ (zlook (kvs.map fun p => keyVa p.1) vs (keyVa k) = none → valV kvs k = none) := by
  intro kvs
  induction kvs generalizing vs with
  | nil => intro _; exact ⟨fun v h => by simp [zlook] at h, fun _ => rfl⟩
  | cons p kvs ih =>
    intro r
    cases r with
    | cons r rs =>
      obtain ⟨i1, i2⟩ := ih rs
      unfold zlook valV at *
      by_cases hc : p.1 = k
      · have hv : veq (keyVa p.1) (keyVa k) = true := by rw [veq_keyVa]; exact decide_eq_true hc
        simp only [List.map_cons, List.zip_cons_cons, List.find?_cons, hv, Option.map_some, decide_eq_true hc]
        exact ⟨fun v h => by cases h; exact ⟨_, rfl, r⟩, fun h => by cases h⟩
      · have hv : veq (keyVa p.1) (keyVa k) = false := by rw [veq_keyVa]; exact decide_eq_false hc
        simp only [List.map_cons, List.zip_cons_cons, List.find?_cons, hv, decide_eq_false hc]
        exact ⟨i1, i2⟩

theorem isKey_key {S : Se} {W : Wd} {v : Va} {y : V} (h : isKey v = true) (r : RV S W v y) : ∃ k : Key, v = keyVa k ∧ y = kV k := by
  cases r with
  | int i => exact ⟨.inl i, rfl, rfl⟩
  | str s _ => exact ⟨.inr (strS s), by simp [keyVa, strL_strS], rfl⟩
  | _ => cases h
theorem ix_sound (hu : X.A.units + 65 < cLine) : IxR X (rI2 (seX X gn)) := by
  rintro value slice pins s σ H x y v u Q I rx ry ⟨W, w1, w2, v', rfl, R, r1, r2, e, k⟩ hs
  have hl := lim_le
  generalize ew : dr W.h w1 = w at e
  have fin : ∀ y, RV (seX X gn) W v' y → Q y W.H := fun y q => k W y rfl (Le.refl W) R q
  unfold itm at e
  split at e
  · obtain ⟨a, ys, rfl, h1, h2⟩ := r1.drl R ew
    obtain rfl := r2.intE
    split at e
    · rename_i hc
      simp only [Bool.and_eq_true, decide_eq_true_eq] at hc
      obtain ⟨z, hz, rz⟩ := h2.get e
      rw [h2.length] at hc
      exact ix_list value slice pins s σ W.H _ _ v u Q I rx ry ⟨a, ys, _, z, rfl, rfl, SqL.of h1, atI_eq hc.1 hc.2 (by rw [← h2.length]; exact hz), fin _ rz⟩ hs
    · cases e
  · obtain ⟨a, ys, rfl, h1, h2⟩ := (r1.drx ew (fun _ z => nomatch z)).sqT
    obtain rfl := r2.intE
    split at e
    · rename_i hc
      simp only [Bool.and_eq_true, decide_eq_true_eq] at hc
      obtain ⟨z, hz, rz⟩ := h2.get e
      rw [h2.length] at hc
      exact ix_tup value slice pins s σ W.H _ _ v u Q I rx ry ⟨a, ys, _, z, rfl, rfl, h1, atI_eq hc.1 hc.2 (by rw [← h2.length]; exact hz), fin _ rz⟩ hs
    · cases e
  · obtain ⟨rfl, h⟩ := (r1.drx ew (fun _ z => nomatch z)).strE
    obtain rfl := r2.intE
    split at e
    · rename_i t i hc
      simp only [Bool.and_eq_true, decide_eq_true_eq] at hc
      have hz := Nat.le_of_ble_eq_true hc.2
      obtain ⟨c, h1, rfl⟩ := Option.map_eq_some_iff.mp e
      refine ix_str value slice pins s σ W.H _ _ v u Q I rx ry ⟨_, _, c, rfl, rfl, by rw [strS_len]; omega, ?_, ?_⟩ hs
      · exact atI_eq (xs := (strS t).cps.toList) (by simpa [strS] using hc.1.1) (by simpa [strS] using hc.1.2) (by simpa [strS] using h1)
      · exact fin _ (.str [c] fun d hd => by
          have : d = c := by simpa using hd
          rw [this]
          exact h c (List.mem_of_getElem? h1))
    · cases e
  · have r1' := r1.drx ew (fun _ z => nomatch z)
    split at e
    · rename_i ks vs hk
      obtain ⟨kk, rfl, rfl⟩ := isKey_key hk r2
      cases r1' with
      | dicH e1 n ek rr nd _ =>
        subst ek
        obtain ⟨z, hz, rz⟩ := (zlook_dK kk rr).1 _ e
        have g := DGet.k (k := kk) e1
        rw [hz] at g
        cases rx
        exact PyProof.Rows.tail_any (dict_typeIs I g) PySem.F.slot_dict_getitem.lookup (d_getItem (by omega) I g ry fun w' s3 I3 rw' => ⟨z, W.H, I3, rw', fin _ rz⟩) hs
      | dicK D kc l rr =>
        cases kk with
        | inl i =>
          exfalso
          have : ∀ (cs : List Va) (us : List Va), (∀ k ∈ cs, ∃ z, k = .str z) → (cs.zip us).find? (fun p => veq p.1 (keyVa (.inl i))) = none := by
            intro cs us h
            rw [List.find?_eq_none]
            intro p hp
            obtain ⟨z, hz⟩ := h p.1 (List.of_mem_zip hp).1
            rw [hz]
            simp [keyVa, veq]
          rw [this _ _ kc] at e
          cases e
        | inr t =>
          obtain ⟨rr1, rr2⟩ := rr.zlook ks (keyVa (.inr t))
          obtain ⟨z, hz, rz⟩ := rr1 _ e
          obtain ⟨o, h1, h2⟩ := l t
          rw [show zlook ks _ (.str (strL t)) = some z from hz] at h2
          obtain ⟨u0, h3, h4⟩ := h2.some_of
          subst h3
          exact ix_kdict value slice pins s σ W.H _ _ v u Q I rx ry ⟨_, t, z, rfl, rfl, ⟨_, _, u0, D.at_, D.lit, h1, h4⟩, fin _ rz⟩ hs
    · cases e
  · cases e

/-! ### methods of built-in types -/
def tyM (S : Se) (T : String) (x : V) (H : L2.Hp) : Prop := tyV S.K T x H ∨ (T = "dict" ∧ ∃ a es n, x = .ref a ∧ KDict S.K S.w a es n)
theorem kdict_obj {pins : List (Addr × Obj)} {s : Shared} {σ : L2.St} {H : L2.Hp} {a : Addr} {es : Array DictEntry} {n : Nat} (I : L2.Inv X pins σ H s) (D : KDict X.K X.w a es n) : s.heap.get? a = some ⟨.type "dict", none, .dict es n, #[]⟩ := I.kIn a _ D.at_
theorem tyM_is {pins : List (Addr × Obj)} {s : Shared} {σ : L2.St} {H : L2.Hp} {T : String} {x : V} {v : Value} (I : L2.Inv X pins σ H s) (r : RelV x v) (ty : tyM (seX X gn) T x H) :
    s.TypeIs v T ∧ ∀ a, v = .ref a → ∃ ob, s.heap.get? a = some ob ∧ ob.dict = none := by
  rcases ty with ty | ⟨rfl, a, es, n, rfl, D⟩
  · exact tyV_is I r ty
  · cases r
    have ho := kdict_obj I D
    have hm := PySem.W.mapOf_K (prog := X.prog) (w := X.w) I.kIn D.at_ D.lit
    exact ⟨hm.typeIs, fun b e => by cases e; exact ⟨_, ho, rfl⟩⟩
def tBMm (S : Se) (T : String) (r : V → List V → L2.Hp → VK → Prop) (to : TE) (t : TA) : TE := fun σ H Q => to σ H fun x H1 => tyM S T x H1 ∧ t σ H1 fun xs H2 => r x xs H2 Q
theorem starEach_plain {es : List Expr} {env : Env} (h : es.all (fun e => match e with | .Starred _ _ => false | _ => true) = true) : starEach es env = es.map fun e => (false, eval e env) := by
  induction es with
  | nil => rfl
  | cons e es ih =>
    simp only [List.all_cons, Bool.and_eq_true] at h
    rw [List.map_cons, ← ih h.2]
    cases e <;> first | rfl | (exfalso; simp at h)
def plainArgs (es : List Expr) : Bool := es.all fun e => match e with | .Starred _ _ => false | _ => true
theorem star_cons {e : Expr} {es : List Expr} {env : Env} (h : plainArgs (e :: es) = true) : starEach (e :: es) env = (false, eval e env) :: starEach es env := by
  have h2 : plainArgs es = true := by
    unfold plainArgs at *
    simp only [List.all_cons, Bool.and_eq_true] at h
    exact h.2
  rw [starEach_plain h, starEach_plain h2]
  rfl
theorem back_plain {es : List Expr} {env : Env} {pos : Pos} (h : plainArgs es = true) : (backTo pos (starEach es env)).any (·.1) = false := by
  rw [starEach_plain h]
  induction es with
  | nil => rfl
  | cons e es ih =>
    have h2 : plainArgs es = true := by
      unfold plainArgs at *
      simp only [List.all_cons, Bool.and_eq_true] at h
      exact h.2
    have := ih h2
    simp only [backTo, List.map_cons, List.any_cons] at this ⊢
    simpa using this
def plainBase (o : Expr) : Bool := match o with | .Call (.Name _ _) [] [] _ => false | _ => true
theorem base_plain {o : Expr} {name : Str} {env : Env} {whole : Sem Value} (h : plainBase o = true) : attributeBase o name env whole = whole := by
  unfold attributeBase
  split
  · exfalso; simp [plainBase] at h
  · rfl
theorem pe_bmM {T : String} {name : Str} {id : String} {o e : Expr} {es : List Expr} {apos cpos : Pos} {r : V → List V → L2.Hp → VK → Prop} {to : TE} {t : TA} (pa : PlainAttrs T) (slot : Slot T name id) (hty : typeOf (.builtin id) = pure (.type "method_descriptor")) (hm : MtR X id r) (ho : PE X o to) (ha : PA X (e :: es) t)
    (hb : plainBase o = true) (hp : plainArgs (e :: es) = true) (hfew : (e :: es).length < 30) (hline : (apos.endLine == cpos.line) = true) :
    PE X (.Call (.Attribute o name apos) (e :: es) [] cpos) (tBMm (seX X gn) T r to t) := by
  refine ⟨fun pins s σ H Q I h => ?_⟩
  have few : ((backTo cpos (starEach (e :: es) X.env)).all (fun x => !x.1) && (backToKw cpos (keywordEach [] X.env)).all (fun x => x.1.isSome)
      && decide ((e :: es).length + ([] : List Keyword).length + (if ([] : List Keyword).isEmpty then 0 else 1) < 30)) = true := by
    have h1 : (backTo cpos (starEach (e :: es) X.env)).all (fun x => !x.1) = true := by
      have := back_plain (pos := cpos) (env := X.env) hp
      rw [List.any_eq_false] at this
      rw [List.all_eq_true]
      intro x hx
      simpa using this x hx
    rw [h1]
    simp only [backToKw, keywordEach, List.map_nil, List.all_nil, Bool.and_self, Bool.true_and, decide_eq_true_eq, List.length_nil, List.isEmpty_nil, if_true]
    omega
  refine wpAny_Call_method_late (base_plain hb) few hline rfl (thn (ho.run pins s σ H _ I h) fun v s1 ⟨x, H1, I1, r1, ty, q1⟩ => ?_)
  obtain ⟨h1, h2⟩ := tyM_is I1 r1 ty
  refine ⟨T, id, pa, slot, hty, h1, h2, ?_⟩
  have hA := ha.run cpos pins s1 σ H1 _ I1 q1
  have hs := star_cons (env := X.env) hp
  have hplain : (backTo cpos (starEach es X.env)).any (·.1) = false := back_plain (by
    unfold plainArgs at *
    simp only [List.all_cons, Bool.and_eq_true] at hp
    exact hp.2)
  rw [hs] at hA ⊢
  refine Calls.callWith_builtin (by show (false || (backTo cpos (starEach es X.env)).any (·.1)) = false; rw [hplain] <;> rfl) (Calls.evalArgs_plain ?_)
  refine thn hA fun us s2 ⟨xs, H2, I2, r2, q2⟩ => ?_
  exact hm pins s2 σ H2 x xs v us Q I2 r1 r2 q2

def rBm (S : Se) (b : Bl) : V → List V → L2.Hp → VK → Prop := fun x xs H Q => rB S b (x :: xs) H Q
theorem join_strS (a : List Nat) (ss : List (List Nat)) : Txt.join (strS a) (ss.map strS) = strS (TL.joinL a ss) := by
  rw [TL.join_eq]
  apply TL.ext_tl
  rw [TL.tl_join]
  show TL.joinL a ((ss.map strS).map TL.tl) = TL.joinL a ss
  rw [List.map_map]
  congr 1
  have : TL.tl ∘ strS = id := by funext x; rfl
  rw [this, List.map_id]
theorem joinL_ok {a : List Nat} (ha : txOk a) : ∀ {ss : List (List Nat)}, (∀ s ∈ ss, txOk s) → txOk (TL.joinL a ss)
  | [], _ => by intro c hc; simp [TL.joinL] at hc
  | [s], h => h s (by simp)
  | s :: t :: r, h => (h s (by simp)).app (ha.app (joinL_ok ha fun x hx => h x (List.mem_cons_of_mem _ hx)))
theorem spl_ok {a : List Nat} {c : Nat} (h : txOk a) : ∀ s ∈ TL.spl [c] 0 [] a, txOk s := by
  have key : ∀ (a acc : List Nat), txOk a → txOk acc → ∀ s ∈ TL.spl [c] 0 acc a, txOk s := by
    intro a
    induction a with
    | nil =>
      intro acc _ h2 s hs
      rw [TL.spl_nil] at hs
      rw [List.mem_singleton.mp hs]
      exact h2
    | cons d a ih =>
      intro acc h1 h2 s hs
      have h3 : txOk a := fun x hx => h1 x (List.mem_cons_of_mem _ hx)
      by_cases hp : TL.pre [c] (d :: a) = true
      · rw [TL.spl_hit hp] at hs
        rcases List.mem_cons.mp hs with q | q
        · rw [q]; exact h2
        · exact ih [] h3 (by intro x hx; cases hx) s q
      · rw [TL.spl_miss (Bool.not_eq_true _ |>.mp hp)] at hs
        exact ih (acc ++ [d]) h3 (h2.app fun x hx => by rw [List.mem_singleton.mp hx]; exact h1 d (by simp)) s hs
  exact key a [] h (by intro x hx; cases hx)
theorem m_join : MtR X "str.join" (rBm (seX X gn) .join) := by
  rintro pins s σ H x xs v us Q I rx rs ⟨W, vs, v', rfl, R, rv, e, k⟩
  generalize ew : vs.map (dr W.h) = ws at e
  simp only [blv] at e
  split at e
  all_goals first
    | (exfalso; contradiction)
    | skip
  all_goals
    obtain ⟨u1, u2, x1, x2, rfl, ex, r1, e1, r2, e2⟩ := rv.two ew
    cases ex
    obtain ⟨rfl, ha⟩ := (r1.drx e1 (fun _ z => nomatch z)).strE
    split at e
    · rename_i ss hss
      split at e
      · rename_i hz
        have hz := Nat.le_of_ble_eq_true hz
        rw [totl_eq] at hz
        cases e
        obtain ⟨a, ys, rfl, h1, h2⟩ := r2.seq R (by first | exact .inl e2 | exact .inr e2)
        obtain ⟨h3, h4⟩ := txts_rel h2 hss
        rw [h3] at h1
        refine mt_join pins s σ W.H _ _ v us Q I rx rs ⟨_, a, ss.map strS, rfl, rfl, h1, by rw [strS_len, List.length_map]; unfold lim at hz; omega, ?_⟩
        rw [join_strS]
        exact k W _ rfl (Le.refl W) R (.str _ (joinL_ok ha h4))
      · cases e
    · cases e

theorem RVs.strs {S : Se} {W : Wd} : ∀ {ss : List (List Nat)}, (∀ s ∈ ss, txOk s) → RVs S W (ss.map Va.str) ((ss.map strS).map V.str)
  | [], _ => .nil
  | s :: ss, h => .cons (.str s (h s (by simp))) (RVs.strs fun t ht => h t (List.mem_cons_of_mem _ ht))
theorem m_split : MtR X "str.split" (rBm (seX X gn) .split) := by
  rintro pins s σ H x xs v us Q I rx rs ⟨W, vs, v', rfl, R, rv, e, k⟩
  have hl := lim_le
  generalize ew : vs.map (dr W.h) = ws at e
  simp only [blv] at e
  split at e
  all_goals first
    | (exfalso; contradiction)
    | skip
  obtain ⟨u1, u2, x1, x2, rfl, ex, r1, e1, r2, e2⟩ := rv.two ew
  cases ex
  obtain ⟨rfl, ha⟩ := (r1.drx e1 (fun _ z => nomatch z)).strE
  obtain ⟨rfl, hb⟩ := (r2.drx e2 (fun _ z => nomatch z)).strE
  split at e
  · rename_i a c _ hz
    simp only [Bool.and_eq_true] at hz
    have h1 := Nat.le_of_ble_eq_true hz.1
    have h2 : c < 256 := by have := Nat.le_of_ble_eq_true hz.2; omega
    cases e
    have kd : (strS [c]).cps.all (· < 256) = true := by simp [strS, h2]
    have es : (Txt.split (strS a) (strS [c])) = (TL.spl [c] 0 [] a).map strS := by
      have := TL.split_spl (strS a) (strS [c]) (by simp [strS, TL.tl]) (TL.kind_ok kd)
      apply TL.map_tl_inj
      rw [this, List.map_map]
      have : TL.tl ∘ strS = id := by funext x; rfl
      rw [this, List.map_id]
      rfl
    refine mt_split pins s σ W.H _ _ v us Q I rx rs ⟨_, _, rfl, rfl, by rw [strS_len]; rfl, by rw [strS_len, sizeLine_eq]; unfold lim at h1; omega, ?_⟩
    rw [es]
    exact new_lst R (RVs.strs (spl_ok ha)) k
  · cases e
/-- d.get(k), d.get(k, x) by values: what stands in the dict -/
theorem dic_at {S : Se} {W : Wd} {u : Va} {ks vs : List Va} {y : V} {t : List Nat} (r : RV S W u y) (e : dr W.h u = .dic ks vs) :
    (∃ a o, y = .ref a ∧ DGet W.H a (.str (strS t)) o ∧ ((∃ v z, itm (.dic ks vs) (.str t) = some v ∧ o = some z ∧ RV S W v z) ∨ (itm (.dic ks vs) (.str t) = none ∧ o = none))) ∨
    (∃ a es n r0 o, y = .ref a ∧ KDict S.K S.w a es n ∧ PySem.W.nsIn S.K a (strS t) = some r0 ∧ RelO o r0 ∧ ((∃ v z, itm (.dic ks vs) (.str t) = some v ∧ o = some z ∧ RV S W v z) ∨ (itm (.dic ks vs) (.str t) = none ∧ o = none))) := by
  have r' := r.drx e (fun _ z => nomatch z)
  have ei : ∀ ks vs, itm (.dic ks vs) (.str t) = zlook ks vs (.str t) := fun ks vs => by simp [itm, isKey, zlook]
  cases r' with
  | dicH e1 n ek rr nd _ =>
    subst ek
    have ek : keyVa (.inr (strS t)) = .str t := by simp [keyVa, strL_strS]
    obtain ⟨h1, h2⟩ := zlook_dK (.inr (strS t)) rr
    rw [ek] at h1 h2
    refine .inl ⟨_, _, rfl, DGet.k (k := .inr (strS t)) e1, ?_⟩
    rw [ei]
    cases hz : zlook _ vs (.str t) with
    | some v =>
      obtain ⟨z, h3, h4⟩ := h1 v hz
      exact .inl ⟨v, z, rfl, h3, h4⟩
    | none => exact .inr ⟨rfl, h2 hz⟩
  | dicK D kc l rr =>
    obtain ⟨r0, h1, h2⟩ := l (strS t)
    rw [strL_strS] at h2
    obtain ⟨h3, h4⟩ := rr.zlook ks (.str t)
    refine .inr ⟨_, _, _, r0, _, rfl, D, h1, h2, ?_⟩
    rw [ei]
    cases hz : zlook ks vs (.str t) with
    | some v =>
      obtain ⟨z, h5, h6⟩ := h3 v hz
      exact .inl ⟨v, z, rfl, h5, h6⟩
    | none => exact .inr ⟨rfl, h4 hz⟩
theorem kd_get1 {pins : List (Addr × Obj)} {s : Shared} {σ : L2.St} {H : L2.Hp} {a : Addr} {es : Array DictEntry} {n : Nat} {t : Str} {tk : Tok} {r0 : Option Value} {Q : Value → Shared → Prop} (I : L2.Inv X pins σ H s) (D : KDict X.K X.w a es n) (e : PySem.W.nsIn X.K a t = some r0)
    (h : Q (r0.getD .none) { s with toks := s.toks + 1 }) : wpAny (model X.prog X.w) X.A (call (.builtin "dict.get") [.ref a, .str t tk]) Q X.xe s := by
  have hm := PySem.W.mapOf_K (prog := X.prog) (w := X.w) I.kIn D.at_ D.lit
  refine call_meetsIn PySem.F.slot_dict_get hm.typeIs PySem.F.entry_dict_get (PySem.F.args_dict_get_2 _ _) (meets_dict_get (strKind X.prog X.w) a (strKind_is X.prog X.w t tk) D.low) ⟨_, hm, ?_⟩
  rw [PySem.W.find_K D.at_ e]
  exact h
theorem kd_get2 {pins : List (Addr × Obj)} {s : Shared} {σ : L2.St} {H : L2.Hp} {a : Addr} {es : Array DictEntry} {n : Nat} {t : Str} {tk : Tok} {d : Value} {r0 : Option Value} {Q : Value → Shared → Prop} (I : L2.Inv X pins σ H s) (D : KDict X.K X.w a es n) (e : PySem.W.nsIn X.K a t = some r0)
    (h : Q (r0.getD d) { s with toks := s.toks + 1 }) : wpAny (model X.prog X.w) X.A (call (.builtin "dict.get") [.ref a, .str t tk, d]) Q X.xe s := by
  have hm := PySem.W.mapOf_K (prog := X.prog) (w := X.w) I.kIn D.at_ D.lit
  refine call_meetsIn PySem.F.slot_dict_get hm.typeIs PySem.F.entry_dict_get (PySem.F.args_dict_get_3 _ _ _) (meets_dict_get_default (strKind X.prog X.w) a (strKind_is X.prog X.w t tk) D.low d) ⟨_, hm, ?_⟩
  rw [PySem.W.find_K D.at_ e]
  exact h
theorem m_get1 (hu : X.A.units + 65 < cLine) : MtR X "dict.get" (rBm (seX X gn) .get1) := by
  rintro pins s σ H x xs v us Q I rx rs ⟨W, vs, v', rfl, R, rv, e, k⟩
  have fin : ∀ y, RV (seX X gn) W v' y → Q y W.H := fun y q => k W y rfl (Le.refl W) R q
  generalize ew : vs.map (dr W.h) = ws at e
  simp only [blv] at e
  split at e
  all_goals first
    | (exfalso; contradiction)
    | skip
  obtain ⟨u1, u2, x1, x2, rfl, ex, r1, e1, r2, e2⟩ := rv.two ew
  cases ex
  obtain ⟨rfl, ht⟩ := (r2.drx e2 (fun _ z => nomatch z)).strE
  obtain ⟨w1, rfl, rw1⟩ := vals1 rs
  rename_i ks ws t _
  cases e
  rcases dic_at (t := t) r1 e1 with ⟨a, o, rfl, g, c⟩ | ⟨a, es, n, r0, o, rfl, D, g, ro, c⟩
  · cases rx
    refine d_get1 (by omega) I g rw1 fun w' s' I' rw' => ⟨_, W.H, I', rw', fin _ ?_⟩
    rcases c with ⟨v, z, h1, rfl, h2⟩ | ⟨h1, rfl⟩
    · rw [h1]; exact h2
    · rw [h1]; exact .non
  · cases rx
    obtain ⟨tk, rfl⟩ := rw1
    refine kd_get1 I D g ?_
    rcases c with ⟨v, z, h1, rfl, h2⟩ | ⟨h1, rfl⟩
    · obtain ⟨u0, h3, h4⟩ := ro.some_of
      subst h3
      exact ⟨z, W.H, I.tok _, h4, fin _ (by rw [h1]; exact h2)⟩
    · have := ro.none_of
      subst this
      exact ⟨.non, W.H, I.tok _, rfl, fin _ (by rw [h1]; exact .non)⟩
theorem m_get2 (hu : X.A.units + 65 < cLine) : MtR X "dict.get" (rBm (seX X gn) .get2) := by
  rintro pins s σ H x xs v us Q I rx rs ⟨W, vs, v', rfl, R, rv, e, k⟩
  have fin : ∀ y, RV (seX X gn) W v' y → Q y W.H := fun y q => k W y rfl (Le.refl W) R q
  generalize ew : vs.map (dr W.h) = ws at e
  simp only [blv] at e
  split at e
  all_goals first
    | (exfalso; contradiction)
    | skip
  obtain ⟨u1, u2, u3, x1, x2, x3, rfl, ex, r1, e1, r2, e2, r3, e3⟩ := rv.three ew
  cases ex
  obtain ⟨rfl, ht⟩ := (r2.drx e2 (fun _ z => nomatch z)).strE
  cases rs with
  | cons rw1 rw2 =>
  rename_i ks ws t d _ _ _
  split at e
  · cases e
  rename_i nl
  have r3' : RV (seX X gn) W d x3 := r3.drx e3 (fun _ z => nl (by rw [z]; rfl))
  cases e
  rcases dic_at (t := t) r1 e1 with ⟨a, o, rfl, g, c⟩ | ⟨a, es, n, r0, o, rfl, D, g, ro, c⟩
  · cases rx
    cases rw2 with
    | cons rw3 rn =>
      cases rn
      refine d_get2 (by omega) I g rw1 rw3 fun w' s' I' rw' => ⟨_, W.H, I', rw', fin _ ?_⟩
      rcases c with ⟨v, z, h1, rfl, h2⟩ | ⟨h1, rfl⟩
      · rw [h1]; exact h2
      · rw [h1]; exact r3'
  · cases rx
    cases rw2 with
    | cons rw3 rn =>
      cases rn
      obtain ⟨tk, rfl⟩ := rw1
      refine kd_get2 I D g ?_
      rcases c with ⟨v, z, h1, rfl, h2⟩ | ⟨h1, rfl⟩
      · obtain ⟨u0, h3, h4⟩ := ro.some_of
        subst h3
        exact ⟨z, W.H, I.tok _, h4, fin _ (by rw [h1]; exact h2)⟩
      · have := ro.none_of
        subst this
        exact ⟨x3, W.H, I.tok _, rw3, fin _ (by rw [h1]; exact r3')⟩
end
end Mp

set_option autoImplicit false
/-! Mp6: expressions -/
namespace Mp
open PySem L2
section
variable {X : Cx} {gn : List Str} {C : Call} {e a b c : Expr} {es : List Expr} {pos p : Pos} {m m1 m2 m3 : Ex} {ms : Exs}
theorem p_var {i : Nat} {x : Str} (hN : X.N[i]? = some x) (hv : Vis X.env.scope x) (hd : (x == ("__debug__" : Str)) = false) (hcd : (x == ("__classdict__" : Str)) = false) : PE X (.Name x pos) (tM (seX X gn) C (.v i)) := by
  refine PE.imp (pe_var hN hv hd hcd) ?_
  rintro σ H Q ⟨W, ρ, v, h', rfl, R, rs, e, k⟩
  simp only [ev] at e
  split at e
  · rename_i v0 hv0
    cases e
    obtain ⟨y, h1, h2⟩ := rs.2 _ _ hv0
    exact ⟨y, h1, k W y rfl (Le.refl W) R h2⟩
  · cases e
/-- a written value, a global constant -/
theorem p_k {v : Va} {y : V} (h : PE X e (tC y)) (r : ∀ W, RV (seX X gn) W v y) : PE X e (tM (seX X gn) C (.k v)) := by
  refine PE.imp h ?_
  rintro σ H Q ⟨W, ρ, v', h', rfl, R, rs, e, k⟩
  simp only [ev] at e
  cases e
  exact k W y rfl (Le.refl W) R (r W)
theorem p_op {o : Op} {pyo : Operator} (ho : pyOp o = binaryOp pyo) (hu : X.A.units + 65 < cLine) (ha : PE X a (tM (seX X gn) C m1)) (hb : PE X b (tM (seX X gn) C m2)) : PE X (.BinOp a pyo b pos) (tM (seX X gn) C (.op o m1 m2)) := by
  have os := op_sound (X := X) (gn := gn) o hu
  rw [ho] at os
  refine PE.imp (pe_op os ha hb) ?_
  rintro σ H Q ⟨W, ρ, v, h', rfl, R, rs, e, k⟩
  simp only [ev] at e
  obtain ⟨x, h1, e1, e⟩ := bind_ok e
  obtain ⟨y, h2, e2, e⟩ := bind_ok e
  obtain ⟨e3, rfl⟩ := ofO_ok e
  refine ⟨W, ρ, x, h1, rfl, R, rs, e1, fun W1 x' q1 l1 R1 r1 => ⟨W1, ρ, y, _, rfl, R1, rs.mono l1, by rw [q1]; exact e2, fun W2 y' q2 l2 R2 r2 => ⟨W2, x, y, v, rfl, R2, r1.mono l2, r2, by rw [q2]; exact e3, fun W3 z q3 l3 R3 r3 => ?_⟩⟩⟩
  exact k W3 z (by rw [q3, q2]) (l1.trans (l2.trans l3)) R3 r3
def cmpOf : Op → Option CmpOp
  | .eq => some .Eq | .ne => some .NotEq | .lt => some .Lt | .le => some .LtE | .gt => some .Gt | .ge => some .GtE | .mem => some .In | .nme => some .NotIn
  | _ => none
theorem cmp_py {o : Op} {q : CmpOp} (h : cmpOf o = some q) : pyOp o = compareOp q := by cases o <;> cases h <;> rfl
theorem cmp_bl {o : Op} {q : CmpOp} (h : cmpOf o = some q) {x y v : Va} (e : opv o x y = some v) : ∃ b, v = .bl b := by
  unfold opv at e
  split at e <;> first
    | (cases h; done)
    | (cases e; exact ⟨_, rfl⟩)
    | (split at e <;> first | (cases e; exact ⟨_, rfl⟩) | (cases e))
    | (cases e)
theorem tM_cmp {o : Op} {σ : L2.St} {H : L2.Hp} {Q : VK} (h : tM (seX X gn) C (.op o m1 m2) σ H Q) : tOp (rM (seX X gn) o) (tM (seX X gn) C m1) (tM (seX X gn) C m2) σ H Q := by
  obtain ⟨W, ρ, v, h', rfl, R, rs, e, k⟩ := h
  simp only [ev] at e
  obtain ⟨x, h1, e1, e⟩ := bind_ok e
  obtain ⟨y, h2, e2, e⟩ := bind_ok e
  obtain ⟨e3, rfl⟩ := ofO_ok e
  refine ⟨W, ρ, x, h1, rfl, R, rs, e1, fun W1 x' q1 l1 R1 r1 => ⟨W1, ρ, y, _, rfl, R1, rs.mono l1, by rw [q1]; exact e2, fun W2 y' q2 l2 R2 r2 => ⟨W2, x, y, v, rfl, R2, r1.mono l2, r2, by rw [q2]; exact e3, fun W3 z q3 l3 R3 r3 => ?_⟩⟩⟩
  exact k W3 z (by rw [q3, q2]) (l1.trans (l2.trans l3)) R3 r3
theorem p_cmp {o : Op} {q : CmpOp} (ho : cmpOf o = some q) (hu : X.A.units + 65 < cLine) (ha : PE X a (tM (seX X gn) C m1)) (hb : PE X b (tM (seX X gn) C m2)) (hm : behindInMarks q b = false) : PE X (.Compare a [q] [b] pos) (tM (seX X gn) C (.op o m1 m2)) := by
  have os := op_sound (X := X) (gn := gn) o hu
  rw [cmp_py ho] at os
  exact PE.imp (pe_cmpR os ha hb hm) fun σ H Q h => tM_cmp h
theorem tT_tM {σ : L2.St} {H : L2.Hp} {Q : Bool → L2.Hp → Prop} (h : tT (seX X gn) C m σ H Q) (hb : ∀ (ρ : Loc) (h h' : Hp) (v : Va), ev C ρ m h = .ok v h' → ∃ b, v = .bl b) : tM (seX X gn) C m σ H fun x H' => ∃ k, x = .bl k ∧ Q k H' := by
  obtain ⟨W, ρ, v, h', b, rfl, R, rs, e, t, k⟩ := h
  obtain ⟨b', rfl⟩ := hb _ _ _ _ e
  have t : b' = b := by cases t; rfl
  subst t
  refine ⟨W, ρ, _, h', rfl, R, rs, e, fun W1 y q1 l1 R1 r1 => ?_⟩
  exact ⟨b', r1.blE, k W1 q1 l1 R1⟩
theorem op_bl {o : Op} {q : CmpOp} (ho : cmpOf o = some q) (ρ : Loc) (h h' : Hp) (v : Va) (e : ev C ρ (.op o m1 m2) h = .ok v h') : ∃ b, v = .bl b := by
  simp only [ev] at e
  obtain ⟨x, h1, e1, e⟩ := bind_ok e
  obtain ⟨y, h2, e2, e⟩ := bind_ok e
  obtain ⟨e3, rfl⟩ := ofO_ok e
  exact cmp_bl ho e3
theorem q_cmp {o : Op} {q : CmpOp} (ho : cmpOf o = some q) (hu : X.A.units + 65 < cLine) (ha : PE X a (tM (seX X gn) C m1)) (hb : PE X b (tM (seX X gn) C m2)) (hm : behindInMarks q b = false) : PT X (.Compare a [q] [b] pos) (tT (seX X gn) C (.op o m1 m2)) := by
  have os := op_sound (X := X) (gn := gn) o hu
  rw [cmp_py ho] at os
  exact PT.imp (pt_cmpR os ha hb hm) fun σ H Q h => tM_cmp (tT_tM h (op_bl ho))
theorem tM_ch {o o' : Op} {q q' : CmpOp} (ho : cmpOf o = some q) (ho' : cmpOf o' = some q') {σ : L2.St} {H : L2.Hp} {Q : VK} (h : tM (seX X gn) C (.ch o o' m1 m2 m3) σ H Q) :
    tChain (rM (seX X gn) o) (rM (seX X gn) o') (tM (seX X gn) C m1) (tM (seX X gn) C m2) (tM (seX X gn) C m3) σ H Q := by
  obtain ⟨W, ρ, v, h', rfl, R, rs, e, k⟩ := h
  simp only [ev] at e
  obtain ⟨x, h1, e1, e⟩ := bind_ok e
  obtain ⟨y, h2, e2, e⟩ := bind_ok e
  refine ⟨W, ρ, x, h1, rfl, R, rs, e1, fun W1 x' q1 l1 R1 r1 => ⟨W1, ρ, y, h2, rfl, R1, rs.mono l1, by rw [q1]; exact e2, fun W2 y' q2 l2 R2 r2 => ?_⟩⟩
  split at e
  · rename_i e3
    obtain ⟨z, h3, e4, e⟩ := bind_ok e
    obtain ⟨e5, rfl⟩ := ofO_ok e
    refine ⟨W2, x, y, .bl true, rfl, R2, r1.mono l2, r2, by rw [q2]; exact e3, fun W3 w q3 l3 R3 r3 => ⟨true, r3.blE, ?_⟩⟩
    rw [if_pos rfl]
    refine ⟨W3, ρ, z, _, rfl, R3, rs.mono (l1.trans (l2.trans l3)), by rw [q3, q2]; exact e4, fun W4 z' q4 l4 R4 r4 => ⟨W4, y, z, v, rfl, R4, r2.mono (l3.trans l4), r4, by rw [q4]; exact e5, fun W5 u q5 l5 R5 r5 => ?_⟩⟩
    exact k W5 u (by rw [q5, q4]) (l1.trans (l2.trans (l3.trans (l4.trans l5)))) R5 r5
  · rename_i e3
    cases e
    refine ⟨W2, x, y, .bl false, rfl, R2, r1.mono l2, r2, by rw [q2]; exact e3, fun W3 w q3 l3 R3 r3 => ⟨false, r3.blE, ?_⟩⟩
    rw [if_neg Bool.false_ne_true]
    exact k W3 _ (by rw [q3, q2]) (l1.trans (l2.trans l3)) R3 (.bl false)
  · cases e
theorem ch_bl {o o' : Op} {q q' : CmpOp} (ho : cmpOf o = some q) (ho' : cmpOf o' = some q') (ρ : Loc) (h h' : Hp) (v : Va) (e : ev C ρ (.ch o o' m1 m2 m3) h = .ok v h') : ∃ b, v = .bl b := by
  simp only [ev] at e
  obtain ⟨x, h1, e1, e⟩ := bind_ok e
  obtain ⟨y, h2, e2, e⟩ := bind_ok e
  split at e
  · obtain ⟨z, h3, e4, e⟩ := bind_ok e
    obtain ⟨e5, rfl⟩ := ofO_ok e
    exact cmp_bl ho' e5
  · cases e; exact ⟨_, rfl⟩
  · cases e
theorem p_ch {o o' : Op} {q q' : CmpOp} (ho : cmpOf o = some q) (ho' : cmpOf o' = some q') (hu : X.A.units + 65 < cLine) (ha : PE X a (tM (seX X gn) C m1)) (hb : PE X b (tM (seX X gn) C m2)) (hc : PE X c (tM (seX X gn) C m3)) (hm : lastMarks [q, q'] [b, c] = false) :
    PE X (.Compare a [q, q'] [b, c] pos) (tM (seX X gn) C (.ch o o' m1 m2 m3)) := by
  have os := op_sound (X := X) (gn := gn) o hu
  have os' := op_sound (X := X) (gn := gn) o' hu
  rw [cmp_py ho] at os
  rw [cmp_py ho'] at os'
  exact PE.imp (pe_chain os os' ha hb hc hm) fun σ H Q h => tM_ch ho ho' h
theorem q_ch {o o' : Op} {q q' : CmpOp} (ho : cmpOf o = some q) (ho' : cmpOf o' = some q') (hu : X.A.units + 65 < cLine) (ha : PE X a (tM (seX X gn) C m1)) (hb : PE X b (tM (seX X gn) C m2)) (hc : PE X c (tM (seX X gn) C m3)) (hm : lastMarks [q, q'] [b, c] = false) :
    PT X (.Compare a [q, q'] [b, c] pos) (tT (seX X gn) C (.ch o o' m1 m2 m3)) := by
  have os := op_sound (X := X) (gn := gn) o hu
  have os' := op_sound (X := X) (gn := gn) o' hu
  rw [cmp_py ho] at os
  rw [cmp_py ho'] at os'
  exact PT.imp (pt_chain os os' ha hb hc hm) fun σ H Q h => tM_ch ho ho' (tT_tM h (ch_bl ho ho'))
/-- truth of any plain expression -/
theorem q_any (h : PE X e (tM (seX X gn) C m)) (he : ∀ whole, isTrue e X.env whole = (do let v ← whole; standAt e.pos; holding [v] (truthy v))) : PT X e (tT (seX X gn) C m) := by
  refine PT.imp (pt_truth h he) ?_
  rintro σ H Q ⟨W, ρ, v, h', b, rfl, R, rs, e, t, k⟩
  exact ⟨W, ρ, v, h', rfl, R, rs, e, fun W1 y q1 l1 R1 r1 => ⟨b, r1.tru R1 (by rw [q1]; exact t), k W1 q1 l1 R1⟩⟩
theorem p_ng (ha : PE X a (tM (seX X gn) C m)) : PE X (.UnaryOp .USub a pos) (tM (seX X gn) C (.ng m)) := by
  refine PE.imp (pe_un un_neg ha) ?_
  rintro σ H Q ⟨W, ρ, v, h', rfl, R, rs, e, k⟩
  simp only [ev] at e
  obtain ⟨x, h1, e1, e⟩ := bind_ok e
  split at e
  · cases e
    exact ⟨W, ρ, _, _, rfl, R, rs, e1, fun W1 x' q1 l1 R1 r1 => ⟨_, r1.intE, k W1 _ q1 l1 R1 (.int _)⟩⟩
  · cases e
theorem p_nt (ha : PE X a (tM (seX X gn) C m)) : PE X (.UnaryOp .Not a pos) (tM (seX X gn) C (.nt m)) := by
  refine PE.imp (pe_notT ha) ?_
  rintro σ H Q ⟨W, ρ, v, h', rfl, R, rs, e, k⟩
  simp only [ev] at e
  obtain ⟨x, h1, e1, e⟩ := bind_ok e
  split at e
  · rename_i b eb
    cases e
    exact ⟨W, ρ, _, _, rfl, R, rs, e1, fun W1 x' q1 l1 R1 r1 => ⟨b, r1.tru R1 (by rw [q1]; exact eb), k W1 _ q1 l1 R1 (.bl _)⟩⟩
  · cases e
theorem q_nt (ha : PT X a (tT (seX X gn) C m)) : PT X (.UnaryOp .Not a pos) (tT (seX X gn) C (.nt m)) := by
  refine PT.imp (pt_not ha) ?_
  rintro σ H Q ⟨W, ρ, v, h', b, rfl, R, rs, e, t, k⟩
  simp only [ev] at e
  obtain ⟨x, h1, e1, e⟩ := bind_ok e
  split at e
  · rename_i b0 eb
    cases e
    cases t
    exact ⟨W, ρ, x, _, b0, rfl, R, rs, e1, eb, fun W1 q1 l1 R1 => k W1 q1 l1 R1⟩
  · cases e
theorem isN_eq {S : Se} {W : Wd} {v : Va} {y : V} (r : RV S W v y) : decide (y = V.non) = (match v with | .non => true | _ => false) := by
  cases r <;> simp
theorem p_isN {j : Nat} {p' : Pos} (ha : PE X a (tM (seX X gn) C m)) : PE X (.Compare a [.Is] [.Constant .none j p'] pos) (tM (seX X gn) C (.isN m)) := by
  refine PE.imp (pe_cmp (pc_isN ha) rfl) ?_
  rintro σ H Q ⟨W, ρ, v, h', rfl, R, rs, e, k⟩
  simp only [ev] at e
  obtain ⟨x, h1, e1, e⟩ := bind_ok e
  cases e
  refine ⟨W, ρ, x, _, rfl, R, rs, e1, fun W1 x' q1 l1 R1 r1 => ?_⟩
  show Q (V.bl (decide (x' = V.non))) W1.H
  rw [isN_eq r1]
  have := k W1 _ q1 l1 R1 (.bl _)
  cases x <;> exact this
theorem p_noN {j : Nat} {p' : Pos} (ha : PE X a (tM (seX X gn) C m)) : PE X (.Compare a [.IsNot] [.Constant .none j p'] pos) (tM (seX X gn) C (.noN m)) := by
  refine PE.imp (pe_cmp (pc_notN ha) rfl) ?_
  rintro σ H Q ⟨W, ρ, v, h', rfl, R, rs, e, k⟩
  simp only [ev] at e
  obtain ⟨x, h1, e1, e⟩ := bind_ok e
  cases e
  refine ⟨W, ρ, x, _, rfl, R, rs, e1, fun W1 x' q1 l1 R1 r1 => ?_⟩
  show Q (V.bl (!decide (x' = V.non))) W1.H
  rw [isN_eq r1]
  have := k W1 _ q1 l1 R1 (.bl _)
  cases x <;> exact this
theorem isN_bl (ρ : Loc) (h h' : Hp) (v : Va) (e : ev C ρ (.isN m) h = .ok v h') : ∃ b, v = .bl b := by
  simp only [ev] at e
  obtain ⟨x, h1, e1, e⟩ := bind_ok e
  cases e
  exact ⟨_, rfl⟩
theorem noN_bl (ρ : Loc) (h h' : Hp) (v : Va) (e : ev C ρ (.noN m) h = .ok v h') : ∃ b, v = .bl b := by
  simp only [ev] at e
  obtain ⟨x, h1, e1, e⟩ := bind_ok e
  cases e
  exact ⟨_, rfl⟩
theorem q_isN {j : Nat} {p' : Pos} (ha : PE X a (tM (seX X gn) C m)) : PT X (.Compare a [.Is] [.Constant .none j p'] pos) (tT (seX X gn) C (.isN m)) := by
  refine PT.imp (pt_cmp (pc_isN ha) rfl) ?_
  intro σ H Q hq
  obtain ⟨W, ρ, v, h', rfl, R, rs, e, k⟩ := tT_tM hq isN_bl
  simp only [ev] at e
  obtain ⟨x, h1, e1, e⟩ := bind_ok e
  cases e
  refine ⟨W, ρ, x, _, rfl, R, rs, e1, fun W1 x' q1 l1 R1 r1 => ?_⟩
  show ∃ c, V.bl (decide (x' = V.non)) = V.bl c ∧ Q c W1.H
  rw [isN_eq r1]
  have := k W1 _ q1 l1 R1 (.bl _)
  cases x <;> exact this
theorem q_noN {j : Nat} {p' : Pos} (ha : PE X a (tM (seX X gn) C m)) : PT X (.Compare a [.IsNot] [.Constant .none j p'] pos) (tT (seX X gn) C (.noN m)) := by
  refine PT.imp (pt_cmp (pc_notN ha) rfl) ?_
  intro σ H Q hq
  obtain ⟨W, ρ, v, h', rfl, R, rs, e, k⟩ := tT_tM hq noN_bl
  simp only [ev] at e
  obtain ⟨x, h1, e1, e⟩ := bind_ok e
  cases e
  refine ⟨W, ρ, x, _, rfl, R, rs, e1, fun W1 x' q1 l1 R1 r1 => ?_⟩
  show ∃ c, V.bl (!decide (x' = V.non)) = V.bl c ∧ Q c W1.H
  rw [isN_eq r1]
  have := k W1 _ q1 l1 R1 (.bl _)
  cases x <;> exact this
end
end Mp

set_option autoImplicit false
/-! Mp7: expressions, the rest -/
namespace Mp
open PySem L2
section
variable {X : Cx} {gn : List Str} {C : Call} {e a b c : Expr} {es : List Expr} {pos p : Pos} {m m1 m2 m3 : Ex} {ms : Exs} {rest : List Expr}
/-! ### and, or, if else -/
theorem p_an (ha : PE X a (tM (seX X gn) C m1)) (hb : PE X (.BoolOp .And (b :: rest) pos) (tM (seX X gn) C m2)) : PE X (.BoolOp .And (a :: b :: rest) pos) (tM (seX X gn) C (.an m1 m2)) := by
  refine PE.imp (pe_andT ha hb) ?_
  rintro σ H Q ⟨W, ρ, v, h', rfl, R, rs, e, k⟩
  simp only [ev] at e
  obtain ⟨x, h1, e1, e⟩ := bind_ok e
  split at e
  · rename_i et
    refine ⟨W, ρ, x, h1, rfl, R, rs, e1, fun W1 x' q1 l1 R1 r1 => ⟨true, r1.tru R1 (by rw [q1]; exact et), ?_⟩⟩
    simp only [↓reduceIte]
    exact ⟨W1, ρ, v, h', rfl, R1, rs.mono l1, by rw [q1]; exact e, fun W2 y q2 l2 R2 r2 => k W2 y q2 (l1.trans l2) R2 r2⟩
  · rename_i et
    cases e
    refine ⟨W, ρ, _, _, rfl, R, rs, e1, fun W1 x' q1 l1 R1 r1 => ⟨false, r1.tru R1 (by rw [q1]; exact et), ?_⟩⟩
    simp only [Bool.false_eq_true, ↓reduceIte]
    exact k W1 x' q1 l1 R1 r1
  · cases e
theorem p_oo (ha : PE X a (tM (seX X gn) C m1)) (hb : PE X (.BoolOp .Or (b :: rest) pos) (tM (seX X gn) C m2)) : PE X (.BoolOp .Or (a :: b :: rest) pos) (tM (seX X gn) C (.oo m1 m2)) := by
  refine PE.imp (pe_orT ha hb) ?_
  rintro σ H Q ⟨W, ρ, v, h', rfl, R, rs, e, k⟩
  simp only [ev] at e
  obtain ⟨x, h1, e1, e⟩ := bind_ok e
  split at e
  · rename_i et
    cases e
    refine ⟨W, ρ, _, _, rfl, R, rs, e1, fun W1 x' q1 l1 R1 r1 => ⟨true, r1.tru R1 (by rw [q1]; exact et), ?_⟩⟩
    simp only [↓reduceIte]
    exact k W1 x' q1 l1 R1 r1
  · rename_i et
    refine ⟨W, ρ, x, h1, rfl, R, rs, e1, fun W1 x' q1 l1 R1 r1 => ⟨false, r1.tru R1 (by rw [q1]; exact et), ?_⟩⟩
    simp only [Bool.false_eq_true, ↓reduceIte]
    exact ⟨W1, ρ, v, h', rfl, R1, rs.mono l1, by rw [q1]; exact e, fun W2 y q2 l2 R2 r2 => k W2 y q2 (l1.trans l2) R2 r2⟩
  · cases e
theorem q_an (ha : PT X a (tT (seX X gn) C m1)) (hb : PW X (.BoolOp .And (b :: rest) pos) (tT (seX X gn) C m2)) : PW X (.BoolOp .And (a :: b :: rest) pos) (tT (seX X gn) C (.an m1 m2)) := by
  refine PW.imp (pw_and ha hb) ?_
  rintro σ H Q ⟨W, ρ, v, h', bb, rfl, R, rs, e, t, k⟩
  simp only [ev] at e
  obtain ⟨x, h1, e1, e⟩ := bind_ok e
  split at e
  · rename_i et
    refine ⟨W, ρ, x, h1, true, rfl, R, rs, e1, et, fun W1 q1 l1 R1 => ?_⟩
    simp only [↓reduceIte]
    exact ⟨W1, ρ, v, h', bb, rfl, R1, rs.mono l1, by rw [q1]; exact e, t, fun W2 q2 l2 R2 => k W2 q2 (l1.trans l2) R2⟩
  · rename_i et
    cases e
    rw [et] at t
    cases t
    refine ⟨W, ρ, _, _, false, rfl, R, rs, e1, et, fun W1 q1 l1 R1 => ?_⟩
    simp only [Bool.false_eq_true, ↓reduceIte]
    exact k W1 q1 l1 R1
  · cases e
theorem q_oo (ha : PT X a (tT (seX X gn) C m1)) (hb : PW X (.BoolOp .Or (b :: rest) pos) (tT (seX X gn) C m2)) : PW X (.BoolOp .Or (a :: b :: rest) pos) (tT (seX X gn) C (.oo m1 m2)) := by
  refine PW.imp (pw_or ha hb) ?_
  rintro σ H Q ⟨W, ρ, v, h', bb, rfl, R, rs, e, t, k⟩
  simp only [ev] at e
  obtain ⟨x, h1, e1, e⟩ := bind_ok e
  split at e
  · rename_i et
    cases e
    rw [et] at t
    cases t
    refine ⟨W, ρ, _, _, true, rfl, R, rs, e1, et, fun W1 q1 l1 R1 => ?_⟩
    simp only [↓reduceIte]
    exact k W1 q1 l1 R1
  · rename_i et
    refine ⟨W, ρ, x, h1, false, rfl, R, rs, e1, et, fun W1 q1 l1 R1 => ?_⟩
    simp only [Bool.false_eq_true, ↓reduceIte]
    exact ⟨W1, ρ, v, h', bb, rfl, R1, rs.mono l1, by rw [q1]; exact e, t, fun W2 q2 l2 R2 => k W2 q2 (l1.trans l2) R2⟩
  · cases e
theorem p_fi (hc : PT X c (tT (seX X gn) C m1)) (ha : PE X a (tM (seX X gn) C m2)) (hb : PE X b (tM (seX X gn) C m3)) : PE X (.IfExp c a b pos) (tM (seX X gn) C (.fi m1 m2 m3)) := by
  refine PE.imp (pe_ifExp hc ha hb) ?_
  rintro σ H Q ⟨W, ρ, v, h', rfl, R, rs, e, k⟩
  simp only [ev] at e
  obtain ⟨x, h1, e1, e⟩ := bind_ok e
  split at e
  · rename_i et
    refine ⟨W, ρ, x, h1, true, rfl, R, rs, e1, et, fun W1 q1 l1 R1 => ?_⟩
    simp only [↓reduceIte]
    exact ⟨W1, ρ, v, h', rfl, R1, rs.mono l1, by rw [q1]; exact e, fun W2 y q2 l2 R2 r2 => k W2 y q2 (l1.trans l2) R2 r2⟩
  · rename_i et
    refine ⟨W, ρ, x, h1, false, rfl, R, rs, e1, et, fun W1 q1 l1 R1 => ?_⟩
    simp only [Bool.false_eq_true, ↓reduceIte]
    exact ⟨W1, ρ, v, h', rfl, R1, rs.mono l1, by rw [q1]; exact e, fun W2 y q2 l2 R2 r2 => k W2 y q2 (l1.trans l2) R2 r2⟩
  · cases e
theorem q_fi (hc : PT X c (tT (seX X gn) C m1)) (ha : PT X a (tT (seX X gn) C m2)) (hb : PT X b (tT (seX X gn) C m3)) : PT X (.IfExp c a b pos) (tT (seX X gn) C (.fi m1 m2 m3)) := by
  refine ⟨fun pins s σ H Q I h => ?_⟩
  obtain ⟨W, ρ, v, h', bb, rfl, R, rs, e, t, k⟩ := h
  simp only [ev] at e
  obtain ⟨x, h1, e1, e⟩ := bind_ok e
  refine PyProof.Rows.isTrue_IfExp ?_
  split at e
  · rename_i et
    refine thn (hc.run pins s σ W.H (fun b0 H1 => b0 = true ∧ tT (seX X gn) C m2 σ H1 Q) I ⟨W, ρ, x, h1, true, rfl, R, rs, e1, et, fun W1 q1 l1 R1 => ⟨rfl, W1, ρ, v, h', bb, rfl, R1, rs.mono l1, by rw [q1]; exact e, t, fun W2 q2 l2 R2 => k W2 q2 (l1.trans l2) R2⟩⟩) fun b0 s1 ⟨H1, I1, eb, q⟩ => ?_
    subst eb
    exact ha.run pins s1 σ H1 Q I1 q
  · rename_i et
    refine thn (hc.run pins s σ W.H (fun b0 H1 => b0 = false ∧ tT (seX X gn) C m3 σ H1 Q) I ⟨W, ρ, x, h1, false, rfl, R, rs, e1, et, fun W1 q1 l1 R1 => ⟨rfl, W1, ρ, v, h', bb, rfl, R1, rs.mono l1, by rw [q1]; exact e, t, fun W2 q2 l2 R2 => k W2 q2 (l1.trans l2) R2⟩⟩) fun b0 s1 ⟨H1, I1, eb, q⟩ => ?_
    subst eb
    exact hb.run pins s1 σ H1 Q I1 q
  · cases e

/-! ### arguments, displays -/
theorem a_nil : PA X [] (tMs (seX X gn) C .nil) := by
  refine PA.imp pa_nil ?_
  rintro σ H Q ⟨W, ρ, v, h', rfl, R, rs, e, k⟩
  simp only [evs] at e
  cases e
  exact k W [] rfl (Le.refl W) R .nil
theorem a_cons (he : PE X e (tM (seX X gn) C m)) (hr : PA X es (tMs (seX X gn) C ms)) (hp : plainArgs (e :: es) = true) : PA X (e :: es) (tMs (seX X gn) C (.cons m ms)) := by
  refine PA.imp (pa_cons he hr (star_cons hp)) ?_
  rintro σ H Q ⟨W, ρ, v, h', rfl, R, rs, e, k⟩
  simp only [evs] at e
  obtain ⟨x, h1, e1, e⟩ := bind_ok e
  obtain ⟨xs, h2, e2, e⟩ := bind_ok e
  cases e
  exact ⟨W, ρ, x, h1, rfl, R, rs, e1, fun W1 y q1 l1 R1 r1 => ⟨W1, ρ, xs, _, rfl, R1, rs.mono l1, by rw [q1]; exact e2, fun W2 ys q2 l2 R2 r2 => k W2 (y :: ys) q2 (l1.trans l2) R2 (.cons (r1.mono l2) r2)⟩⟩
theorem p_tu {kk : Nat} (h : PA X es (tMs (seX X gn) C ms)) : PE X (.Tuple es kk pos) (tM (seX X gn) C (.tu ms)) := by
  refine PE.imp (pe_tup h) ?_
  rintro σ H Q ⟨W, ρ, v, h', rfl, R, rs, e, k⟩
  simp only [ev] at e
  obtain ⟨xs, h1, e1, e⟩ := bind_ok e
  split at e
  · rename_i hz
    cases e
    refine ⟨W, ρ, xs, _, rfl, R, rs, e1, fun W1 ys q1 l1 R1 r1 => ⟨by rw [← r1.length]; exact Nat.le_trans (Nat.le_of_ble_eq_true hz) lim_le, new_tup R1 r1 fun W' z qh l R' rz => k W' z (by rw [qh, q1]) (l1.trans l) R' rz⟩⟩
  · cases e
theorem p_li (h : PA X es (tMs (seX X gn) C ms)) : PE X (.List es pos) (tM (seX X gn) C (.li ms)) := by
  refine PE.imp (pe_lst h) ?_
  rintro σ H Q ⟨W, ρ, v, h', rfl, R, rs, e, k⟩
  simp only [ev] at e
  obtain ⟨xs, h1, e1, e⟩ := bind_ok e
  split at e
  · rename_i hz
    cases e
    refine ⟨W, ρ, xs, _, rfl, R, rs, e1, fun W1 ys q1 l1 R1 r1 => ⟨by rw [← r1.length]; exact Nat.le_trans (Nat.le_of_ble_eq_true hz) lim_le, new_lst R1 r1 fun W' z qh l R' rz => k W' z (by rw [qh, q1]) (l1.trans l) R' rz⟩⟩
  · cases e
theorem p_lc1 (h : PA X es (tMs (seX X gn) C ms)) : PE X (.List es pos) (tM (seX X gn) C (.lc1 ms)) := by
  refine PE.imp (pe_lst h) ?_
  rintro σ H Q ⟨W, ρ, v, h', rfl, R, rs, e, k⟩
  simp only [ev] at e
  obtain ⟨xs, h1, e1, e⟩ := bind_ok e
  split at e
  · rename_i hz
    cases e
    refine ⟨W, ρ, xs, h1, rfl, R, rs, e1, fun W1 ys q1 l1 R1 r1 => ⟨by rw [← r1.length]; exact Nat.le_trans (Nat.le_of_ble_eq_true hz) lim_le, fun p hp => ?_⟩⟩
    refine k ⟨W1.ι ++ [p], W1.h ++ [.lst xs], upd W1.H p (.lst ys)⟩ (.ref p) (by rw [q1]) (l1.trans (Le.cell R1 hp)) (R1.cell hp r1) (.ref ?_)
    show (W1.ι ++ [p])[h1.length]? = some p
    rw [← q1, ← R1.len]
    simp
  · cases e
/-! ### places, slices -/
theorem p_ix (hu : X.A.units + 65 < cLine) (ha : PE X a (tM (seX X gn) C m1)) (hb : PE X b (tM (seX X gn) C m2)) (hs : PlainIx b) : PE X (.Subscript a b pos) (tM (seX X gn) C (.ix m1 m2)) := by
  refine PE.imp (pe_ix (ix_sound (gn := gn) hu) ha hb hs) ?_
  rintro σ H Q ⟨W, ρ, v, h', rfl, R, rs, e, k⟩
  simp only [ev] at e
  obtain ⟨x, h1, e1, e⟩ := bind_ok e
  obtain ⟨y, h2, e2, e⟩ := bind_ok e
  obtain ⟨e3, rfl⟩ := ofO_ok e
  refine ⟨W, ρ, x, h1, rfl, R, rs, e1, fun W1 x' q1 l1 R1 r1 => ⟨W1, ρ, y, _, rfl, R1, rs.mono l1, by rw [q1]; exact e2, fun W2 y' q2 l2 R2 r2 => ⟨W2, x, y, v, rfl, R2, r1.mono l2, r2, by rw [q2]; exact e3, fun W3 z q3 l3 R3 r3 => ?_⟩⟩⟩
  exact k W3 z (by rw [q3, q2]) (l1.trans (l2.trans l3)) R3 r3
def tO (S : Se) (C : Call) (m : Exo) : TO := fun σ H Q => ∃ (W : Wd) (ρ : Loc) (o : Option Int) (h' : Hp), W.H = H ∧ RH S W ∧ RS S W ρ σ ∧ evo C ρ m W.h = .ok o h' ∧
  ∀ (W' : Wd), W'.h = h' → Le W W' → RH S W' → Q o W'.H
theorem PO.imp {e : Option Expr} {t t' : TO} (h : PO X e t) (i : ∀ σ H Q, t' σ H Q → t σ H Q) : PO X e t' := ⟨fun pins s σ H Q I q => h.run pins s σ H Q I (i σ H Q q)⟩
theorem o_none : PO X none (tO (seX X gn) C .none) := by
  refine PO.imp po_none ?_
  rintro σ H Q ⟨W, ρ, v, h', rfl, R, rs, e, k⟩
  simp only [evo] at e
  cases e
  exact k W rfl (Le.refl W) R
theorem o_some (he : PE X e (tM (seX X gn) C m)) : PO X (some e) (tO (seX X gn) C (.some m)) := by
  refine PO.imp (po_some he) ?_
  rintro σ H Q ⟨W, ρ, v, h', rfl, R, rs, e, k⟩
  simp only [evo] at e
  obtain ⟨x, h1, e1, e⟩ := bind_ok e
  split at e
  · rename_i i eb
    cases e
    unfold bnd at eb
    split at eb
    · split at eb
      · cases eb
        exact ⟨W, ρ, _, _, rfl, R, rs, e1, fun W1 y q1 l1 R1 r1 => ⟨_, r1.intE, k W1 q1 l1 R1⟩⟩
      · cases eb
    · cases eb
  · cases e
theorem p_sl {lo hi : Option Expr} {l u : Exo} {p2 : Pos} (he : PE X e (tM (seX X gn) C m)) (hl : PO X lo (tO (seX X gn) C l)) (hu : PO X hi (tO (seX X gn) C u)) : PE X (.Subscript e (.Slice lo hi none p2) pos) (tM (seX X gn) C (.sl m l u)) := by
  refine PE.imp (pe_slice (sl_sound (gn := gn)) he hl hu) ?_
  rintro σ H Q ⟨W, ρ, v, h', rfl, R, rs, e, k⟩
  simp only [ev] at e
  obtain ⟨x, h1, e1, e⟩ := bind_ok e
  obtain ⟨y, h2, e2, e⟩ := bind_ok e
  obtain ⟨z, h3, e3, e⟩ := bind_ok e
  obtain ⟨e4, rfl⟩ := ofO_ok e
  refine ⟨W, ρ, x, h1, rfl, R, rs, e1, fun W1 x' q1 l1 R1 r1 => ⟨W1, ρ, y, h2, rfl, R1, rs.mono l1, by rw [q1]; exact e2, fun W2 q2 l2 R2 => ⟨W2, ρ, z, _, rfl, R2, rs.mono (l1.trans l2), by rw [q2]; exact e3, fun W3 q3 l3 R3 => ⟨W3, x, v, rfl, R3, r1.mono (l2.trans l3), by rw [q3]; exact e4, fun W4 w q4 l4 R4 r4 => ?_⟩⟩⟩⟩
  exact k W4 w (by rw [q4, q3]) (l1.trans (l2.trans (l3.trans l4))) R4 r4

/-! ### calls of defs -/
def spM (S : Se) (C : Call) (f : Nat) : Sp := fun xs H Q _ => ∃ (W : Wd) (vs : List Va) (v : Va) (h' : Hp), W.H = H ∧ RH S W ∧ RVs S W vs xs ∧ C f vs W.h = .ok v h' ∧
  ∀ (W' : Wd) (y : V), W'.h = h' → Le W W' → RH S W' → RV S W' v y → Q y W'.H

structure FnM (X : Cx) (gn : List Str) (C : Call) (f : Nat) (x : Str) : Prop where
  gl : Gl X x
  db : (x == ("__debug__" : Str)) = false
  ok : ∃ (CX : CXT) (k : Nat) (a : Addr) (fd : FuncData) (ps : List Str) (E : XK), FnOk X.prog X.w X.K X.mg X.base CX k a fd ps (spM (seX X gn) C f) ∧ Room k X.A ∧ X.mg x = some (.ref a) ∧ PySem.W.keepIn X.K (.ref a) = true ∧ Binds X.K fd ps [] ∧ Passes CX X E
theorem p_cf {f : Nat} {x : Str} (F : FnM X gn C f x) (ha : PA X (e :: es) (tMs (seX X gn) C ms)) (hp : plainArgs (e :: es) = true) : PE X (.Call (.Name x p) (e :: es) [] pos) (tM (seX X gn) C (.cf f ms)) := by
  obtain ⟨CX, k, a, fd, ps, E, F1, hr, hm, hk, hb, hx⟩ := F.ok
  refine PE.imp (pe_call F1 hr F.gl hm hk hb .nil hx ha F.db (star_cons hp) (back_plain (by
      unfold plainArgs at *
      simp only [List.all_cons, Bool.and_eq_true] at hp
      exact hp.2))) ?_
  rintro σ H Q ⟨W, ρ, v, h', rfl, R, rs, e, k⟩
  simp only [ev] at e
  obtain ⟨xs, h1, e1, e⟩ := bind_ok e
  exact ⟨W, ρ, xs, h1, rfl, R, rs, e1, fun W1 ys q1 l1 R1 r1 => ⟨W1, xs, v, h', rfl, R1, by simpa using r1, by rw [q1]; exact e, fun W2 y q2 l2 R2 r2 => k W2 y q2 (l1.trans l2) R2 r2⟩⟩
theorem p_cf0 {f : Nat} {x : Str} (F : FnM X gn C f x) : PE X (.Call (.Name x p) [] [] pos) (tM (seX X gn) C (.cf f .nil)) := by
  obtain ⟨CX, k, a, fd, ps, E, F1, hr, hm, hk, hb, hx⟩ := F.ok
  refine PE.imp (pe_call0 F1 hr F.gl hm hk hb .nil hx F.db) ?_
  rintro σ H Q ⟨W, ρ, v, h', rfl, R, rs, e, k⟩
  simp only [ev, evs, Out.bind] at e
  exact ⟨W, [], v, h', rfl, R, .nil, e, k⟩

/-! ### built-ins -/
structure BtM (X : Cx) (x : Str) : Prop where
  gl : Gl X x
  none : X.mg x = none
def tyName : Ty → String
  | .bool => "bool" | .int => "int" | .str => "str" | .list => "list" | .tuple => "tuple"
theorem cb_imp {b : Bl} {σ : L2.St} {H : L2.Hp} {Q : VK} (q : tM (seX X gn) C (.cb b ms) σ H Q) : tCB (rB (seX X gn) b) (tMs (seX X gn) C ms) σ H Q := by
  obtain ⟨W, ρ, v, h', rfl, R, rs, e, k⟩ := q
  simp only [ev] at e
  obtain ⟨xs, h1, e1, e⟩ := bind_ok e
  obtain ⟨e2, rfl⟩ := ofO_ok e
  exact ⟨W, ρ, xs, _, rfl, R, rs, e1, fun W1 ys q1 l1 R1 r1 => ⟨W1, xs, v, rfl, R1, r1, by rw [q1]; exact e2, fun W2 y q2 l2 R2 r2 => k W2 y (by rw [q2, q1]) (l1.trans l2) R2 r2⟩⟩
theorem p_cbB {b : Bl} {x : Str} {id : String} (B : BtM X x) (hv : bootBuiltins x = some (.builtin id)) (hn : x ≠ "__name__") (hdb : (x == ("__debug__" : Str)) = false) (hc : CallR X (.builtin id) (rB (seX X gn) b)) (ha : PA X (e :: es) (tMs (seX X gn) C ms)) (hp : plainArgs (e :: es) = true) :
    PE X (.Call (.Name x p) (e :: es) [] pos) (tM (seX X gn) C (.cb b ms)) :=
  PE.imp (pe_callB hc B.gl B.none hv ha hn hdb (star_cons hp) (back_plain (by
      unfold plainArgs at *
      simp only [List.all_cons, Bool.and_eq_true] at hp
      exact hp.2))) fun σ H Q q => cb_imp q
theorem p_cbT {b : Bl} {x : Str} {T : String} (B : BtM X x) (hv : bootBuiltins x = some (.type T)) (hn : x ≠ "__name__") (hdb : (x == ("__debug__" : Str)) = false) (hc : CallR X (.type T) (rB (seX X gn) b)) (ha : PA X (e :: es) (tMs (seX X gn) C ms)) (hp : plainArgs (e :: es) = true) :
    PE X (.Call (.Name x p) (e :: es) [] pos) (tM (seX X gn) C (.cb b ms)) :=
  PE.imp (pe_callTy hc B.gl B.none hv ha hn hdb (star_cons hp) (back_plain (by
      unfold plainArgs at *
      simp only [List.all_cons, Bool.and_eq_true] at hp
      exact hp.2))) fun σ H Q q => cb_imp q
/-- a method: its receiver is the first of the values -/
theorem p_bm {b : Bl} {T : String} {name : Str} {id : String} {o : Expr} {apos cpos : Pos} (pa : PlainAttrs T) (slot : Slot T name id) (hty : typeOf (.builtin id) = pure (.type "method_descriptor")) (hm : MtR X id (rBm (seX X gn) b))
    (hT : ∀ (W : Wd) (u : Va) (x : V) (us : List Va) (h' : Hp) (v : Va), RH (seX X gn) W → RV (seX X gn) W u x → blv b (dr h' u :: us) = some v → (∀ (hh : Hp), dr hh u = u) → tyM (seX X gn) T x W.H)
    (hnr : ∀ (u : Va) (us : List Va) (h' : Hp) (v : Va), blv b (dr h' u :: us) = some v → ∀ n, u ≠ .ref n)
    (ho : PE X o (tM (seX X gn) C m)) (ha : PA X (e :: es) (tMs (seX X gn) C ms)) (hb : plainBase o = true) (hp : plainArgs (e :: es) = true) (hfew : (e :: es).length < 30) (hline : (apos.endLine == cpos.line) = true) :
    PE X (.Call (.Attribute o name apos) (e :: es) [] cpos) (tM (seX X gn) C (.cb b (.cons m ms))) := by
  refine PE.imp (pe_bmM (gn := gn) pa slot hty hm ho ha hb hp hfew hline) ?_
  rintro σ H Q ⟨W, ρ, v, h', rfl, R, rs, e, k⟩
  simp only [ev, evs] at e
  obtain ⟨xs, h1, e1, e⟩ := bind_ok e
  obtain ⟨x, h2, e2, e1⟩ := bind_ok e1
  obtain ⟨ys, h3, e3, e1⟩ := bind_ok e1
  cases e1
  obtain ⟨e4, rfl⟩ := ofO_ok e
  rw [List.map_cons] at e4
  have nr := hnr _ _ _ _ e4
  have dr0 : ∀ hh : Hp, dr hh x = x := fun hh => by
    unfold dr
    split
    · exact absurd rfl (nr _)
    · rfl
  refine ⟨W, ρ, x, h2, rfl, R, rs, e2, fun W1 x' q1 l1 R1 r1 => ⟨hT W1 x x' _ _ v R1 r1 e4 dr0, W1, ρ, ys, _, rfl, R1, rs.mono l1, by rw [q1]; exact e3, fun W2 ys' q2 l2 R2 r2 => ⟨W2, x :: ys, v, rfl, R2, .cons (r1.mono l2) r2, by rw [q2, List.map_cons]; exact e4, fun W3 z q3 l3 R3 r3 => k W3 z (by rw [q3, q2]) (l1.trans (l2.trans l3)) R3 r3⟩⟩⟩

/-! ### isinstance -/
theorem p_tyN {t : Ty} (B : BtM X (tyName t)) : PE X (.Name (tyName t) p) (tC (.ty (tyName t))) := by
  refine pe_bltn (u := .type (tyName t)) B.gl B.none ?_ rfl ?_ ?_ <;> cases t <;> first | decide +kernel | kernel_rfl
def vTy : Va → Option String
  | .non => some "NoneType" | .bl _ => some "bool" | .int _ => some "int" | .str _ => some "str" | .lst _ => some "list" | .tup _ => some "tuple"
  | _ => none
theorem isTy_kit {K : PySem.W.Frag} {t : Ty} {v : Va} {b : Bool} (h : isTy t v = some b) : ∃ n, vTy v = some n ∧ PySem.W.kitOne K (.type n) (.type (tyName t)) = some b := by
  cases t <;> cases v <;> simp only [isTy, Option.some.injEq, reduceCtorEq] at h <;> (try subst h) <;> first
    | exact ⟨_, rfl, PySem.W.kit_ty (by decide +kernel)⟩
    | exact ⟨_, rfl, kit_ty (by decide +kernel)⟩
    | cases h
theorem isTys_kit {K : PySem.W.Frag} {v : Va} {n : String} (hn : vTy v = some n) : ∀ {ts : List Ty} {b : Bool}, isTys v ts = some b → PySem.W.kitAny K (.type n) (ts.map fun t => Value.type (tyName t)) = some b
  | [], b, h => by cases h; rfl
  | t :: ts, b, h => by
    simp only [isTys] at h
    split at h
    · rename_i b1 b2 e1 e2
      cases h
      obtain ⟨n', hn', hk⟩ := isTy_kit (K := K) e1
      rw [hn] at hn'; cases hn'
      have ih := isTys_kit (K := K) hn e2
      rw [List.map_cons]
      refine kitAny_cons hk (fun hb => ?_) (fun hb => ?_)
      · subst hb; simpa using ih
      · subst hb; simp
    · cases h
theorem RV.tyx {S : Se} {W : Wd} {v : Va} {y : V} {n : String} (R : RH S W) (r : RV S W v y) (h : vTy (dr W.h v) = some n) : TyX S.K W.H y (.type n) := by
  rcases dr_cases W.h v with ⟨m, zs, rfl, e1, e2⟩ | e2
  · rw [e2] at h; cases h
    obtain ⟨a, ys, rfl, h2, h3⟩ := r.drl R e2
    exact .base (.lst h2)
  · rw [e2] at h
    cases r <;> simp only [vTy, Option.some.injEq, reduceCtorEq] at h <;> (try subst h)
    · exact .base .non
    · exact .base (.bl _)
    · exact .base (.int _)
    · exact .base (.str _)
    · rename_i e n r; exact .base (.tup e)
    · rename_i e r
      obtain ⟨o, its, n, h1, h2, _⟩ := e
      exact .kTuple h1 h2
    · rename_i e n r; exact .base (.lst e)
theorem ns_inst : bootBuiltins "isinstance" = some (.builtin "isinstance") := by first | decide +kernel | kernel_rfl
theorem p_isi1 {t : Ty} {p1 p2 : Pos} (B : BtM X "isinstance") (Bt : BtM X (tyName t)) (ha : PE X e (tM (seX X gn) C m)) (hp : plainArgs [e] = true) : PE X (.Call (.Name "isinstance" p1) [e, .Name (tyName t) p2] [] pos) (tM (seX X gn) C (.isi m [t])) := by
  have hp2 : plainArgs [e, .Name (tyName t) p2] = true := by simpa [plainArgs] using hp
  refine PE.imp (pe_callB call_isi B.gl B.none ns_inst (pa_cons ha (pa_cons (p_tyN Bt) pa_nil) (star_cons hp2)) (by decide) (by decide) (star_cons hp2) (back_plain (by rfl))) ?_
  rintro σ H Q ⟨W, ρ, v, h', rfl, R, rs, e, k⟩
  simp only [ev] at e
  obtain ⟨x, h1, e1, e⟩ := bind_ok e
  split at e
  · rename_i b eb
    cases e
    simp only [isTys] at eb
    split at eb
    · rename_i b1 b2 eb1 eb2
      cases eb2
      cases eb
      obtain ⟨n, hn, hk⟩ := isTy_kit (K := X.K) eb1
      refine ⟨W, ρ, x, _, rfl, R, rs, e1, fun W1 y q1 l1 R1 r1 => ⟨y, .ty (tyName t), .type n, .type (tyName t), b1, rfl, .ty _, r1.tyx R1 (by rw [q1]; exact hn), hk, ?_⟩⟩
      rw [← Bool.or_false b1]
      exact k W1 _ q1 l1 R1 (.bl _)
    · cases eb
  · cases e
theorem pa_tys : ∀ {ts : List Ty} {es : List Expr}, (∀ t ∈ ts, BtM X (tyName t)) → es.map (fun e => match e with | .Name x _ => x | _ => "") = ts.map (fun t => (tyName t : Str)) → (es.all fun e => match e with | .Name _ _ => true | _ => false) = true →
    PA X es fun _ H Q => Q (ts.map fun t => V.ty (tyName t)) H
  | [], [], _, _, _ => pa_nil
  | [], _ :: _, _, h, _ => by simp at h
  | _ :: _, [], _, h, _ => by simp at h
  | t :: ts, e :: es, hB, h, hn => by
    simp only [List.map_cons, List.cons.injEq, List.all_cons, Bool.and_eq_true] at h hn
    cases e with
    | Name x q =>
      have hx : x = (tyName t : Str) := h.1
      subst hx
      have ih := pa_tys (ts := ts) (es := es) (fun t ht => hB t (by simp [ht])) h.2 hn.2
      refine PA.imp (pa_cons (p_tyN (hB t (by simp))) ih (star_cons ?_)) fun σ H Q q => q
      unfold plainArgs
      rw [List.all_cons, Bool.and_eq_true]
      refine ⟨rfl, ?_⟩
      rw [List.all_eq_true]
      intro e0 he0
      have := (List.all_eq_true.mp hn.2) e0 he0
      cases e0 <;> first | rfl | cases this
    | _ => simp at hn
theorem cls_tys : ∀ ts : List Ty, Paired ClsV (ts.map fun t => V.ty (tyName t)) (ts.map fun t => Value.type (tyName t))
  | [] => .nil
  | t :: ts => .cons (.ty _) (cls_tys ts)
theorem p_isiN {ts : List Ty} {kk : Nat} {p1 p2 : Pos} (B : BtM X "isinstance") (hB : ∀ t ∈ ts, BtM X (tyName t)) (hl : ts.length < 100) (hne : ts ≠ []) (h1 : es.map (fun e => match e with | .Name x _ => x | _ => "") = ts.map (fun t => (tyName t : Str))) (h2 : (es.all fun e => match e with | .Name _ _ => true | _ => false) = true)
    (ha : PE X e (tM (seX X gn) C m)) (hp : plainArgs [e] = true) : PE X (.Call (.Name "isinstance" p1) [e, .Tuple es kk p2] [] pos) (tM (seX X gn) C (.isi m ts)) := by
  have hp2 : plainArgs [e, .Tuple es kk p2] = true := by simpa [plainArgs] using hp
  refine PE.imp (pe_callB call_isiT B.gl B.none ns_inst (pa_cons ha (pa_cons (pe_tup (pa_tys hB h1 h2)) pa_nil (star_cons (by rfl))) (star_cons hp2)) (by decide) (by decide) (star_cons hp2) (back_plain (by rfl))) ?_
  rintro σ H Q ⟨W, ρ, v, h', rfl, R, rs, e, k⟩
  simp only [ev] at e
  obtain ⟨x, h1, e1, e⟩ := bind_ok e
  split at e
  · rename_i b eb
    cases e
    have hv : ∃ n, vTy (dr h' x) = some n := by
      cases ts with
      | nil => exact absurd rfl hne
      | cons t ts =>
        simp only [isTys] at eb
        split at eb
        · rename_i b1 b2 eb1 eb2
          obtain ⟨n, hn, _⟩ := isTy_kit (K := X.K) eb1
          exact ⟨n, hn⟩
        · cases eb
    obtain ⟨n, hn⟩ := hv
    refine ⟨W, ρ, x, _, rfl, R, rs, e1, fun W1 y q1 l1 R1 r1 => ⟨?_, fun tp htp => ?_⟩⟩
    · rw [List.length_map]
      have := lim_le
      simp only [lim] at this
      omega
    · have l2 := Le.laid (o := .tup (ts.map fun t => V.ty (tyName t))) htp
      have R2 := RH.laid (o := .tup (ts.map fun t => V.ty (tyName t))) R1 htp
      refine ⟨y, tp, _, .type n, ts.map fun t => Value.type (tyName t), b, rfl, upd_same, ?_, (r1.mono l2).tyx R2 (by show vTy (dr W1.h x) = _; rw [q1]; exact hn), isTys_kit hn eb, ?_⟩
      · exact cls_tys ts
      · exact k ⟨W1.ι, W1.h, upd W1.H tp _⟩ (.bl b) q1 (l1.trans l2) R2 (.bl _)
  · cases e

/-! ### displays of dicts -/
def keyV : Va → V
  | .int i => .int i
  | .str s => .str (strS s)
  | _ => .non
def isKeyE : Va → Expr → Bool
  | .int i, .Constant (.int j) _ _ => i == j
  | .str s, .Constant (.str x) _ _ => x.cps.toList == s && s.all fun c => Nat.blt c 0x110000
  | _, _ => false
def trsM (S : Se) (C : Call) : List Va → Exs → List (TE × TE)
  | k :: ks, .cons m ms => (tC (keyV k), tM S C m) :: trsM S C ks ms
  | _, _ => []
theorem key_pe {k : Va} (h : isKeyE k e = true) : PE X e (tC (keyV k)) ∧ ∃ q : Key, k = keyVa q ∧ keyV k = kV q := by
  unfold isKeyE at h
  split at h
  · rename_i i j _ _
    simp only [beq_iff_eq] at h
    subst h
    exact ⟨pe_int, .inl i, rfl, rfl⟩
  · rename_i s x _ _
    simp only [Bool.and_eq_true, beq_iff_eq] at h
    have hx : x = strS s := by
      rw [← h.1]
      rcases x with ⟨a⟩
      simp [strS]
    subst hx
    exact ⟨pe_str, .inr (strS s), by simp [keyVa, strL_strS], rfl⟩
  · cases h
def distE : List Va → Prop
  | [] => True
  | k :: ks => (∀ q ∈ ks, veq k q = false) ∧ distE ks
theorem distK_iff : ∀ {ks : List Va}, distK ks = true → distE ks
  | [], _ => True.intro
  | k :: ks, h => by
    simp only [distK, Bool.and_eq_true, Bool.not_eq_true', List.any_eq_false, Bool.not_eq_true] at h
    exact ⟨h.1, distK_iff h.2⟩
theorem mergeK_new : ∀ {more kvs : List (Key × V)}, ((kvs ++ more).map (·.1)).Nodup → mergeK kvs more = kvs ++ more
  | [], kvs, _ => by simp [mergeK]
  | p :: more, kvs, h => by
    have e : putK kvs p.1 p.2 = kvs ++ [p] := by
      unfold putK
      rw [if_neg]
      intro hh
      rw [List.any_eq_true] at hh
      obtain ⟨q, hq, he⟩ := hh
      rw [List.map_append, List.nodup_append] at h
      exact h.2.2 q.1 (List.mem_map_of_mem hq) p.1 (by simp) (by simpa using he)
    show mergeK (putK kvs p.1 p.2) more = _
    rw [e, mergeK_new (by simpa using h)]
    simp
/-- the pairs -/
theorem pairsM {S : Se} {σ : L2.St} : ∀ {ks : List Va} {ms : Exs} {W : Wd} {ρ : Loc} {vs : List Va} {h' : Hp} {Q : List (V × V) → L2.Hp → Prop}, RH S W → RS S W ρ σ → evs C ρ ms W.h = .ok vs h' → ks.length = vs.length →
    (∀ (W' : Wd) (ys : List V), W'.h = h' → Le W W' → RH S W' → RVs S W' vs ys → Q ((ks.map keyV).zip ys) W'.H) → tPairs (trsM S C ks ms) σ W.H Q
  | [], .nil, W, ρ, vs, h', Q, R, rs, e, hl, k => by
    simp only [evs] at e
    cases e
    exact k W [] rfl (Le.refl W) R .nil
  | [], .cons _ _, W, ρ, vs, h', Q, R, rs, e, hl, k => by
    simp only [evs] at e
    obtain ⟨x, h1, e1, e⟩ := bind_ok e
    obtain ⟨xs, h2, e2, e⟩ := bind_ok e
    cases e
    simp at hl
  | _ :: _, .nil, W, ρ, vs, h', Q, R, rs, e, hl, k => by
    simp only [evs] at e
    cases e
    simp at hl
  | q :: ks, .cons m ms, W, ρ, vs, h', Q, R, rs, e, hl, k => by
    simp only [evs] at e
    obtain ⟨x, h1, e1, e⟩ := bind_ok e
    obtain ⟨xs, h2, e2, e⟩ := bind_ok e
    cases e
    refine ⟨W, ρ, x, h1, rfl, R, rs, e1, fun W1 y q1 l1 R1 r1 => ?_⟩
    exact pairsM R1 (rs.mono l1) (by rw [q1]; exact e2) (by simpa using hl) fun W2 ys q2 l2 R2 r2 => k W2 (y :: ys) q2 (l1.trans l2) R2 (.cons (r1.mono l2) r2)
theorem key_of {k : Va} (h : isKeyE k e = true) : ∃ q : Key, k = keyVa q ∧ keyV k = kV q := by
  unfold isKeyE at h
  split at h
  · exact ⟨.inl _, rfl, rfl⟩
  · exact ⟨.inr (strS _), by simp [keyVa, strL_strS], rfl⟩
  · cases h
theorem keys_of : ∀ {ks : List Va} {es : List (Option Expr)}, es.map (fun o => o.isSome) = ks.map (fun _ => true) → (ks.zip es).all (fun p => match p.2 with | some e => isKeyE p.1 e | none => false) = true → ∃ qs : List Key, ks = qs.map keyVa ∧ ks.map keyV = qs.map kV
  | [], [], _, _ => ⟨[], rfl, rfl⟩
  | [], _ :: _, h, _ => by simp at h
  | _ :: _, [], h, _ => by simp at h
  | k :: ks, o :: es, h, hh => by
    simp only [List.map_cons, List.cons.injEq] at h
    simp only [List.zip_cons_cons, List.all_cons, Bool.and_eq_true] at hh
    obtain ⟨qs, h1, h2⟩ := keys_of h.2 hh.2
    cases o with
    | none => cases hh.1
    | some e =>
      obtain ⟨q, h3, h4⟩ := key_of (show isKeyE k e = true from hh.1)
      exact ⟨q :: qs, by simp [h1, h3], by simp [h2, h4]⟩
theorem dist_nodup : ∀ {qs : List Key}, distE (qs.map keyVa) → qs.Nodup
  | [], _ => List.nodup_nil
  | q :: qs, h => by
    refine List.nodup_cons.mpr ⟨fun hq => ?_, dist_nodup h.2⟩
    have := h.1 (keyVa q) (List.mem_map_of_mem hq)
    rw [veq_keyVa] at this
    simp at this
theorem p_di {ks : List Va} {keys : List (Option Expr)} {values : List Expr} (hpp : PPs X pos keys values (trsM (seX X gn) C ks ms)) (hk : keys.map (fun o => o.isSome) = ks.map (fun _ => true)) (hz : (ks.zip keys).all (fun p => match p.2 with | some e => isKeyE p.1 e | none => false) = true)
    (hok : keysOk ks = true) (hl : keys.length = values.length) : PE X (.Dict keys values pos) (tM (seX X gn) C (.di ks ms)) := by
  have hlen : keys.length = ks.length := by simpa using congrArg List.length hk
  simp only [keysOk, Bool.and_eq_true] at hok
  obtain ⟨⟨⟨ok1, ok2⟩, ok3⟩, ok4⟩ := hok
  have hk15 : ks.length ≤ 15 := Nat.le_of_ble_eq_true ok3
  have hne : ks ≠ [] := by intro h; subst h; cases ok4
  obtain ⟨qs, eq1, eq2⟩ := keys_of hk hz
  have nd : qs.Nodup := dist_nodup (by rw [← eq1]; exact distK_iff ok2)
  have hall : keys.all (·.isSome) = true := by
    rw [List.all_eq_true]
    intro o ho
    have : o.isSome ∈ keys.map (fun o => o.isSome) := List.mem_map_of_mem ho
    rw [hk] at this
    simp at this
    exact this.2
  refine PE.imp (pe_disp hpp hall hl (by intro h; rw [h] at hlen; exact hne (List.length_eq_zero_iff.mp hlen.symm)) (by omega)) ?_
  rintro σ H Q ⟨W, ρ, v, h', rfl, R, rs, e, k⟩ p hp
  simp only [ev] at e
  obtain ⟨xs, h1, e1, e⟩ := bind_ok e
  split at e
  · rename_i hc
    cases e
    simp only [Bool.and_eq_true, beq_iff_eq] at hc
    have l0 := Le.laid (o := .dK []) hp
    refine pairsM (W := ⟨W.ι, W.h, upd W.H p (.dK [])⟩) (R.laid hp) (rs.mono l0) e1 hc.2 fun W1 ys q1 l1 R1 r1 => ?_
    have np : ¬ Own ⟨W.ι, W.h, upd W.H p (.dK [])⟩ p := fun ⟨n, zs, o1, o2⟩ => R.notOwn hp ⟨n, zs, o1, o2⟩
    obtain ⟨hp1, np1⟩ := l1.ke p (.dK []) upd_same np
    have hly : qs.length = ys.length := by rw [← r1.length, ← hc.2, eq1, List.length_map]
    refine ⟨hp1, qs.zip ys, ?_, ?_, ?_⟩
    · rw [eq2]
      exact (List.zip_map_left ..)
    · rw [List.length_zip]
      have : ks.length = qs.length := by rw [eq1, List.length_map]
      omega
    · have m1 : (qs.zip ys).map (·.1) = qs := List.map_fst_zip (by omega)
      have m2 : (qs.zip ys).map (·.2) = ys := List.map_snd_zip (by omega)
      have em : mergeK [] (qs.zip ys) = qs.zip ys := by
        have := mergeK_new (kvs := []) (more := qs.zip ys) (by rw [List.nil_append, m1]; exact nd)
        simpa using this
      rw [em]
      have R2 := RH.over (o := .dK (qs.zip ys)) R1 hp1
      refine k ⟨W1.ι, W1.h, upd W1.H p (.dK (qs.zip ys))⟩ (.ref p) q1 ?_ R2 ?_
      · refine ⟨fun n a ea => l1.io _ _ (l0.io _ _ ea), fun a o ea na => ?_⟩
        have hap : a ≠ p := ne_of_none ea hp
        obtain ⟨e2, n2⟩ := l0.ke a o ea na
        obtain ⟨e3, n3⟩ := l1.ke a o e2 n2
        exact ⟨by show upd W1.H p _ a = _; rw [upd_ne hap]; exact e3, n3⟩
      · refine .dicH (kvs := qs.zip ys) upd_same np1 ?_ ?_ ?_ ?_
        · rw [eq1, ← m1, List.map_map]
          simp only [m1]
          rfl
        · rw [m2]; exact r1.over hp1
        · rw [m1]; exact nd
        · intro h
          rw [h] at m1
          simp at m1
          rw [m1] at eq1
          exact hne eq1
  · cases e
theorem pps_M : ∀ {ks : List Va} {ms : Exs} {keys : List (Option Expr)} {values : List Expr}, keys.map (fun o => o.isSome) = ks.map (fun _ => true) → (ks.zip keys).all (fun p => match p.2 with | some e => isKeyE p.1 e | none => false) = true → True → PPs X pos [] [] (trsM (seX X gn) C [] .nil)
  | _, _, _, _, _, _, _ => pps_nil
theorem pps_c {k : Va} {ks : List Va} {ek v : Expr} {keys : List (Option Expr)} {values : List Expr} (hk : isKeyE k ek = true) (hv : PE X v (tM (seX X gn) C m)) (hr : PPs X pos keys values (trsM (seX X gn) C ks ms)) :
    PPs X pos (some ek :: keys) (v :: values) (trsM (seX X gn) C (k :: ks) (.cons m ms)) := pps_cons (key_pe hk).1 hv hr
end
end Mp

set_option autoImplicit false
/-! Mp8: what loops walk -/
namespace Mp
open PySem L2
/-- from W0 on, whatever is laid, J yields what xs says -/
def Serves (S : Se) (W0 : Wd) (J : It) (xs : List Va) : Prop := ∀ W : Wd, Le W0 W → RH S W →
  (∀ (i : Nat) (x : Va), xs[i]? = some x → J.go i W.H ∧ ∀ y H', J.yld i W.H y H' → ∃ W' : Wd, W'.H = H' ∧ W'.h = W.h ∧ Le W W' ∧ RH S W' ∧ RV S W' x y) ∧
  J.stop xs.length W.H
def tW (S : Se) (C : Call) (w : Wk) (ms : Exs) : TI := fun σ H R => ∃ (W : Wd) (ρ : Loc) (xs : List Va) (h' : Hp) (vs : List Va), W.H = H ∧ RH S W ∧ RS S W ρ σ ∧ evs C ρ ms W.h = .ok xs h' ∧ wkL w xs = some vs ∧
  ∀ (W' : Wd) (J : It), W'.h = h' → Le W W' → RH S W' → Serves S W' J vs → R J W'.H
section
variable {S : Se} {W : Wd}
theorem RVs.at {vs : List Va} {ys : List V} (r : RVs S W vs ys) {i : Nat} {x : Va} (h : vs[i]? = some x) : ∃ y, ys[i]? = some y ∧ RV S W x y := r.get h
theorem sv_list {a : Addr} {xs : List Va} {ys : List V} (e : W.H a = some (.lst ys)) (n : ¬ Own W a) (r : RVs S W xs ys) : Serves S W (Itl S.K a) xs := by
  intro W1 l R1
  obtain ⟨e1, n1⟩ := l.ke a _ e n
  have r1 := r.mono l
  have hs : SqL S.K W1.H a ys := SqL.of e1
  refine ⟨fun i x hx => ?_, ⟨ys, hs, by rw [r1.length]; exact Nat.le_refl _⟩⟩
  obtain ⟨y, hy, ry⟩ := r1.get hx
  refine ⟨⟨ys, y, hs, hy⟩, fun z H' ⟨eH, hz⟩ => ?_⟩
  have := hz ys hs
  rw [hy] at this
  cases this
  exact ⟨W1, eH.symm, rfl, Le.refl _, R1, ry⟩
theorem sv_tup {a : Addr} {xs : List Va} {ys : List V} (hs : ∀ W1, Le W W1 → SqT S.K W1.H a ys) (r : RVs S W xs ys) : Serves S W (Itt S.K a) xs := by
  intro W1 l R1
  have r1 := r.mono l
  have hs := hs W1 l
  refine ⟨fun i x hx => ?_, ⟨ys, hs, by rw [r1.length]; exact Nat.le_refl _⟩⟩
  obtain ⟨y, hy, ry⟩ := r1.get hx
  refine ⟨⟨ys, y, hs, hy⟩, fun z H' ⟨eH, hz⟩ => ?_⟩
  have := hz ys hs
  rw [hy] at this
  cases this
  exact ⟨W1, eH.symm, rfl, Le.refl _, R1, ry⟩
theorem RV.tupS {xs : List Va} {y : V} (r : RV S W (.tup xs) y) : ∃ a ys, y = .ref a ∧ (∀ W1, Le W W1 → SqT S.K W1.H a ys) ∧ RVs S W xs ys := by
  cases r with
  | tupH e n r => exact ⟨_, _, rfl, fun W1 l => SqT.of (l.ke _ _ e n).1, r⟩
  | tupK e r => exact ⟨_, _, rfl, fun W1 _ => e.sqT, r⟩
theorem rng_get : ∀ {n : Nat} {a : Int} {i : Nat}, i < n → (rngL n a)[i]? = some (.int (a + i))
  | 0, _, _, h => absurd h (Nat.not_lt_zero _)
  | n + 1, a, 0, _ => by simp [rngL]
  | n + 1, a, i + 1, h => by
    show (rngL n (a + 1))[i]? = _
    rw [rng_get (by omega)]
    have : a + 1 + (i : Int) = a + ((i + 1 : Nat) : Int) := by omega
    rw [this]
theorem rng_len : ∀ (n : Nat) (a : Int), (rngL n a).length = n
  | 0, _ => rfl
  | n + 1, a => by simp [rngL, rng_len n]
theorem sv_rng (a : Int) (n : Nat) : Serves S W (Itr a n) (rngL n a) := by
  intro W1 l R1
  refine ⟨fun i x hx => ?_, by rw [rng_len]; exact Nat.le_refl _⟩
  have hi : i < n := by have := (List.getElem?_eq_some_iff.mp hx).1; rw [rng_len] at this; exact this
  rw [rng_get hi] at hx
  cases hx
  exact ⟨hi, fun z H' ⟨eH, hz⟩ => ⟨W1, eH.symm, rfl, Le.refl _, R1, by rw [hz]; exact .int _⟩⟩
theorem enu_get : ∀ {xs : List Va} {a : Int} {i : Nat}, (enuL a xs)[i]? = (xs[i]?).map fun x => Va.tup [.int (a + i), x]
  | [], _, _ => by simp [enuL]
  | x :: xs, a, 0 => by simp [enuL]
  | x :: xs, a, i + 1 => by
    show (enuL (a + 1) xs)[i]? = (xs[i]?).map _
    rw [enu_get]
    have : a + 1 + (i : Int) = a + ((i + 1 : Nat) : Int) := by omega
    rw [this]
theorem enu_len : ∀ (xs : List Va) (a : Int), (enuL a xs).length = xs.length
  | [], _ => rfl
  | x :: xs, a => by simp [enuL, enu_len xs]
theorem sv_enu {a : Addr} {xs : List Va} {ys : List V} (e : W.H a = some (.lst ys)) (n : ¬ Own W a) (r : RVs S W xs ys) : Serves S W (Ite S.K a) (enuL 0 xs) := by
  intro W1 l R1
  obtain ⟨e1, n1⟩ := l.ke a _ e n
  have r1 := r.mono l
  have hs : SqL S.K W1.H a ys := SqL.of e1
  refine ⟨fun i x hx => ?_, ⟨ys, hs, by rw [enu_len, r1.length]; exact Nat.le_refl _⟩⟩
  rw [enu_get] at hx
  obtain ⟨x0, hx0, ex⟩ := Option.map_eq_some_iff.mp hx
  subst ex
  obtain ⟨y, hy, ry⟩ := r1.get hx0
  refine ⟨⟨ys, y, hs, hy⟩, ?_⟩
  rintro z H' ⟨T, y', rfl, hT, rfl, hz⟩
  have := hz ys hs
  rw [hy] at this
  cases this
  have l2 := Le.laid (o := .tup [.int (i : Nat), y]) hT
  refine ⟨⟨W1.ι, W1.h, upd W1.H T _⟩, rfl, rfl, l2, R1.laid hT, ?_⟩
  rw [Int.zero_add]
  exact .tupH upd_same (fun o => R1.notOwn hT o) (.cons (.int _) (.cons (ry.mono l2) .nil))
theorem zip_get : ∀ {xs ys : List Va} {i : Nat} {x : Va}, (zipL xs ys)[i]? = some x → ∃ a b, xs[i]? = some a ∧ ys[i]? = some b ∧ x = .tup [a, b]
  | [], _, _, _, h => by simp [zipL] at h
  | _ :: _, [], _, _, h => by simp [zipL] at h
  | a :: xs, b :: ys, 0, x, h => by
    simp [zipL] at h
    exact ⟨a, b, rfl, rfl, h.symm⟩
  | a :: xs, b :: ys, i + 1, x, h => zip_get (xs := xs) (ys := ys) (i := i) (by simpa [zipL] using h)
theorem zip_len : ∀ (xs ys : List Va), (zipL xs ys).length = min xs.length ys.length
  | [], _ => by simp [zipL]
  | _ :: _, [] => by simp [zipL]
  | x :: xs, y :: ys => by simp [zipL, zip_len xs ys]
theorem sv_str {s : List Nat} (h : txOk s) : Serves S W (Its (strS s)) (s.map fun c => .str [c]) := by
  intro W1 l R1
  refine ⟨fun i x hx => ?_, ?_⟩
  · rw [List.getElem?_map] at hx
    obtain ⟨c, hc, ex⟩ := Option.map_eq_some_iff.mp hx
    subst ex
    have hlt : i < s.length := (List.getElem?_eq_some_iff.mp hc).1
    refine ⟨by show i < (strS s).cps.size; simpa [strS] using hlt, ?_⟩
    rintro z H' ⟨rfl, c', hc', rfl⟩
    have : s[i]? = some c' := by simpa [strS] using hc'
    rw [hc] at this
    cases this
    refine ⟨W1, rfl, rfl, Le.refl _, R1, ?_⟩
    exact .str [c] (fun d hd => by rw [List.mem_singleton] at hd; rw [hd]; exact h c (List.mem_of_getElem? hc))
  · show (strS s).cps.size ≤ _
    simp [strS]
end
section
variable {X : Cx} {gn : List Str} {C : Call} {e e2 tg : Expr} {es : List Expr} {pos p tpos : Pos} {m m2 : Ex} {ms : Exs}
theorem RV.lstN {S : Se} {W : Wd} {xs : List Va} {y : V} (r : RV S W (.lst xs) y) : ∃ a ys, y = .ref a ∧ W.H a = some (.lst ys) ∧ ¬ Own W a ∧ RVs S W xs ys := by
  cases r with
  | lst e n r => exact ⟨_, _, rfl, e, n, r⟩
theorem i_seq (he : PE X e (tM (seX X gn) C m)) : PI X tg e (tW (seX X gn) C .seq (.cons m .nil)) := by
  refine ⟨fun pins s σ H Rr I h => ?_⟩
  obtain ⟨W, ρ, xs, h', vs, rfl, R, rs, e0, ew, k⟩ := h
  simp only [evs] at e0
  obtain ⟨x, h1, e1, e0⟩ := bind_ok e0
  cases e0
  simp only [wkL] at ew
  cases x <;> simp only [seqL, reduceCtorEq, Option.some.injEq] at ew
  case str s0 =>
    subst ew
    refine (pi_str (tg := tg) he).run pins s σ W.H Rr I ⟨W, ρ, _, _, rfl, R, rs, e1, fun W1 y q1 l1 R1 r1 => ?_⟩
    obtain ⟨ey, hy⟩ := r1.strE
    exact ⟨_, ey, k W1 _ q1 l1 R1 (sv_str hy)⟩
  case tup xs =>
    subst ew
    refine (pi_tup (tg := tg) he).run pins s σ W.H Rr I ⟨W, ρ, _, _, rfl, R, rs, e1, fun W1 y q1 l1 R1 r1 => ?_⟩
    obtain ⟨a, ys, rfl, h1, h2⟩ := r1.tupS
    exact ⟨a, rfl, ⟨ys, h1 W1 (Le.refl _)⟩, k W1 _ q1 l1 R1 (sv_tup h1 h2)⟩
  case lst xs =>
    subst ew
    refine (pi_list (tg := tg) he).run pins s σ W.H Rr I ⟨W, ρ, _, _, rfl, R, rs, e1, fun W1 y q1 l1 R1 r1 => ?_⟩
    obtain ⟨a, ys, rfl, h1, h2, h3⟩ := r1.lstN
    exact ⟨a, rfl, ⟨ys, SqL.of h1⟩, k W1 _ q1 l1 R1 (sv_list h1 h2 h3)⟩
theorem star_all (h : plainArgs es = true) (env : Env) : starEach es env = es.map fun e => (false, eval e env) := starEach_plain h
theorem i_rng1 (B : BtM X "range") (ha : PA X [e] (tMs (seX X gn) C ms)) (hp : plainArgs [e] = true) : PI X tg (.Call (.Name "range" p) [e] [] pos) (tW (seX X gn) C .rng1 ms) := by
  refine ⟨fun pins s σ H Rr I h => (pi_range1 B.gl B.none ha (star_all hp _)).run pins s σ H Rr I ?_⟩
  obtain ⟨W, ρ, xs, h', vs, rfl, R, rs, e0, ew, k⟩ := h
  unfold wkL at ew
  split at ew <;> first | (cases ew; done) | skip
  all_goals (try (rename_i hh; cases hh))
  split at ew
  · rename_i n hn
    cases ew
    simp only [Bool.and_eq_true, decide_eq_true_eq] at hn
    refine ⟨W, ρ, _, h', rfl, R, rs, e0, fun W1 ys q1 l1 R1 r1 => ?_⟩
    match ys, r1 with
    | [y], .cons r .nil =>
      have := r.intE
      subst this
      exact ⟨_, rfl, by omega, by omega, k W1 _ q1 l1 R1 (sv_rng 0 _)⟩
  · cases ew
theorem i_rng2 (B : BtM X "range") (ha : PA X [e, e2] (tMs (seX X gn) C ms)) (hp : plainArgs [e, e2] = true) : PI X tg (.Call (.Name "range" p) [e, e2] [] pos) (tW (seX X gn) C .rng2 ms) := by
  have hp2 : plainArgs [e2] = true := by
    unfold plainArgs at *
    simp only [List.all_cons, Bool.and_eq_true] at hp ⊢
    exact hp.2
  refine ⟨fun pins s σ H Rr I h => (pi_range2 B.gl B.none ha (star_all hp _) (star_all hp2 _)).run pins s σ H Rr I ?_⟩
  obtain ⟨W, ρ, xs, h', vs, rfl, R, rs, e0, ew, k⟩ := h
  unfold wkL at ew
  split at ew <;> first | (cases ew; done) | skip
  all_goals (try (rename_i hh; cases hh))
  split at ew
  · rename_i a b hn
    cases ew
    simp only [Bool.and_eq_true, decide_eq_true_eq] at hn
    refine ⟨W, ρ, _, h', rfl, R, rs, e0, fun W1 ys q1 l1 R1 r1 => ?_⟩
    match ys, r1 with
    | [y, z], .cons r (.cons r' .nil) =>
      have h1 := r.intE
      have h2 := r'.intE
      subst h1 h2
      exact ⟨_, _, rfl, ⟨by omega, by omega, by omega, by omega⟩, k W1 _ q1 l1 R1 (sv_rng _ _)⟩
  · cases ew
theorem i_enu {elts : List Expr} {kk : Nat} (B : BtM X "enumerate") (ha : PA X [e] (tMs (seX X gn) C ms)) (hp : plainArgs [e] = true) : PI X (.Tuple elts kk tpos) (.Call (.Name "enumerate" p) [e] [] pos) (tW (seX X gn) C .enu ms) := by
  refine ⟨fun pins s σ H Rr I h => (pi_enum B.gl B.none ha (star_all hp _)).run pins s σ H Rr I ?_⟩
  obtain ⟨W, ρ, xs, h', vs, rfl, R, rs, e0, ew, k⟩ := h
  unfold wkL at ew
  split at ew <;> first | (cases ew; done) | skip
  all_goals (try (rename_i hh; cases hh))
  cases ew
  refine ⟨W, ρ, _, h', rfl, R, rs, e0, fun W1 ys q1 l1 R1 r1 => ?_⟩
  match ys, r1 with
  | [y], .cons r .nil =>
    obtain ⟨a, zs, rfl, h1, h2, h3⟩ := r.lstN
    exact ⟨a, zs, rfl, SqL.of h1, k W1 _ q1 l1 R1 (sv_enu h1 h2 h3)⟩

/-! ### zip of any two -/
inductive Kd where
  | L (a : Addr) | T (a : Addr) | S (x : Str)
def KdOk (K : PySem.W.Frag) (H : L2.Hp) : Kd → List V → Prop
  | .L a, ys => SqL K H a ys
  | .T a, ys => SqT K H a ys
  | .S x, ys => ys = x.cps.toList.map fun c => V.str ⟨#[c]⟩
def KIt (h : Heap) (it : Addr) (i : Nat) : Kd → Prop
  | .L a => h.IsListIter it a i
  | .T a => h.IsTupleIter it a i
  | .S x => ∃ t, h.IsStrIter it (strIterType x) x t i
def Kd.at : Kd → Addr → Prop
  | .L a, b => a = b
  | .T a, b => a = b
  | .S _, _ => False
def Kd.arg : Kd → V → Prop
  | .L a, y => y = .ref a
  | .T a, y => y = .ref a
  | .S x, y => y = .str x
theorem KIt.obj {h : Heap} {it : Addr} {i : Nat} : ∀ {k : Kd}, KIt h it i k → ∃ o, h.get? it = some o ∧ ∀ v, o.data ≠ .cell v
  | .L _, st => let ⟨o, e, _, d⟩ := st; ⟨o, e, fun v z => by rw [d] at z; cases z⟩
  | .T _, st => let ⟨o, e, _, d⟩ := st; ⟨o, e, fun v z => by rw [d] at z; cases z⟩
  | .S _, ⟨_, st⟩ => let ⟨o, e, _, d⟩ := st; ⟨o, e, fun v z => by rw [d] at z; cases z⟩
theorem KIt.keep {h h' : Heap} {it : Addr} {i : Nat} (k : ∀ o, h.get? it = some o → h'.get? it = some o) : ∀ {kd : Kd}, KIt h it i kd → KIt h' it i kd
  | .L _, st => st.at k
  | .T _, st => st.at k
  | .S _, ⟨t, o, e, r⟩ => ⟨t, o, k o e, r⟩
section
variable {pins : List (Addr × Obj)} {s : Shared} {σ : L2.St} {H : L2.Hp}
theorem kd_draws {A : Around} {kd : Kd} {ys : List V} {it : Addr} {i : Nat} (I : L2.Inv X pins σ H s) (ok : KdOk X.K H kd ys) (st : KIt s.heap it i kd) (ap : ¬ kd.at it) (hh : A.handled = none) :
    ∃ (fp : List Addr) (P : Nat → Value → Prop) (St : Nat → Heap → Prop), Draws X.prog X.w A it fp ys.length P St ∧ St i s.heap ∧ (∀ j h, St j h → KIt h it j kd) ∧ (∀ v, P i v → ∃ y, ys[i]? = some y ∧ RelV y v) ∧ it ∈ fp ∧ ∀ b ∈ fp, b = it ∨ kd.at b := by
  cases kd with
  | L a =>
    obtain ⟨its, rv, p, hz⟩ := I.list ok
    refine ⟨[it, a], fun i v => its.toArray[i]? = some v, fun i h => h.IsListIter it a i ∧ h.IsList a its.toArray, ?_, ⟨st, p.isList⟩, fun j h q => q.1, fun v hv => ?_, by simp, fun b hb => ?_⟩
    · have D := Draws.list (prog := X.prog) (w := X.w) (A := A) hh it a (fun z => ap z) its.toArray
      rw [rv.length]
      exact D
    · have hv' : its[i]? = some v := by simpa using hv
      have hl := (List.getElem?_eq_some_iff.mp hv').1
      obtain ⟨u, hu, ru⟩ := rv.get (List.getElem?_eq_getElem (by rw [rv.length]; exact hl))
      rw [hv'] at hu
      cases hu
      exact ⟨_, List.getElem?_eq_getElem (by rw [rv.length]; exact hl), ru⟩
    · have : b = it ∨ b = a := by simpa using hb
      rcases this with h | h
      · exact .inl h
      · exact .inr h.symm
  | T a =>
    obtain ⟨its, rv, p, hz⟩ := I.tuple ok
    refine ⟨[it, a], fun i v => its.toArray[i]? = some v, fun i h => h.IsTupleIter it a i ∧ h.IsTuple a its.toArray, ?_, ⟨st, p⟩, fun j h q => q.1, fun v hv => ?_, by simp, fun b hb => ?_⟩
    · have D := Draws.tuple (prog := X.prog) (w := X.w) (A := A) hh it a (fun z => ap z) its.toArray
      rw [rv.length]
      exact D
    · have hv' : its[i]? = some v := by simpa using hv
      have hl := (List.getElem?_eq_some_iff.mp hv').1
      obtain ⟨u, hu, ru⟩ := rv.get (List.getElem?_eq_getElem (by rw [rv.length]; exact hl))
      rw [hv'] at hu
      cases hu
      exact ⟨_, List.getElem?_eq_getElem (by rw [rv.length]; exact hl), ru⟩
    · have : b = it ∨ b = a := by simpa using hb
      rcases this with h | h
      · exact .inl h
      · exact .inr h.symm
  | S x =>
    obtain ⟨t, st⟩ := st
    have ok : ys = x.cps.toList.map fun c => V.str ⟨#[c]⟩ := ok
    refine ⟨[it], fun i v => ∃ c u, x.cps[i]? = some c ∧ v = .str ⟨#[c]⟩ u, fun i h => h.IsStrIter it (strIterType x) x t i, ?_, st, fun j h q => ⟨t, q⟩, fun v hv => ?_, by simp, fun b hb => .inl (by simpa using hb)⟩
    · have D := Draws.text (prog := X.prog) (w := X.w) (A := A) hh it x t
      rw [ok, List.length_map]
      simpa using D
    · obtain ⟨c, u, hc, rfl⟩ := hv
      refine ⟨.str ⟨#[c]⟩, ?_, ⟨u, rfl⟩⟩
      rw [ok, List.getElem?_map]
      simp [hc]
theorem kd_begins {kd : Kd} {ys : List V} {y : V} {u : Value} (I : L2.Inv X pins σ H s) (ok : KdOk X.K H kd ys) (g : kd.arg y) (r : RelV y u) :
    ∃ (o : Obj) (Hh : Heap → Prop), Begins u o Hh ∧ Hh s.heap ∧ (∀ (h' : Heap) (it : Addr), h'.get? it = some o → KIt h' it 0 kd) ∧ ∀ b, kd.at b → b < s.heap.objs.size := by
  cases kd with
  | L a =>
    subst g
    cases r
    obtain ⟨its, rv, p, hz⟩ := I.list ok
    exact ⟨_, _, begins_list a its.toArray, p.isList, fun h' it e => ⟨_, e, rfl, rfl⟩, fun b hb => by cases hb; exact p.lt⟩
  | T a =>
    subst g
    cases r
    obtain ⟨its, rv, p, hz⟩ := I.tuple ok
    refine ⟨_, _, begins_tuple a its.toArray, p, fun h' it e => ⟨_, e, rfl, rfl⟩, fun b hb => ?_⟩
    cases hb
    obtain ⟨o, e, _⟩ := id p
    exact Heap.lt_size e
  | S x =>
    subst g
    obtain ⟨t, rfl⟩ := r
    exact ⟨_, _, begins_text x t, trivial, fun h' it e => ⟨t, _, e, rfl, rfl⟩, fun b hb => False.elim hb⟩
end
section
variable {pins : List (Addr × Obj)} {s : Shared} {σ : L2.St}
theorem KdOk.inj {H : L2.Hp} (I : L2.Inv X pins σ H s) : ∀ {kd : Kd} {ys zs : List V}, KdOk X.K H kd ys → KdOk X.K H kd zs → ys = zs
  | .L _, _, _, h1, h2 => I.list_inj h1 h2
  | .T _, _, _, h1, h2 => I.tuple_inj h1 h2
  | .S _, _, _, h1, h2 => by rw [show _ = _ from h1, show _ = _ from h2]
end
def ItZ (K : PySem.W.Frag) (k1 k2 : Kd) : It :=
  ⟨fun i H => ∃ (xs ys : List V) (x y : V), KdOk K H k1 xs ∧ KdOk K H k2 ys ∧ xs[i]? = some x ∧ ys[i]? = some y,
    fun i H v H' => ∃ T x y, v = .ref T ∧ H T = none ∧ H' = upd H T (.tup [x, y]) ∧ (∀ xs, KdOk K H k1 xs → xs[i]? = some x) ∧ ∀ ys, KdOk K H k2 ys → ys[i]? = some y,
    fun i H => ∃ xs ys : List V, KdOk K H k1 xs ∧ KdOk K H k2 ys ∧ i ≤ xs.length ∧ i ≤ ys.length ∧ (i = xs.length ∨ i = ys.length)⟩
structure ZAp (z TI TO i1 i2 : Addr) (k1 k2 : Kd) : Prop where
  d1 : TI ≠ z
  d2 : TO ≠ z
  d3 : i1 ≠ z
  d4 : i2 ≠ z
  d5 : TI ≠ TO
  d6 : TI ≠ i1
  d7 : TI ≠ i2
  d8 : TO ≠ i1
  d9 : TO ≠ i2
  d10 : i1 ≠ i2
  a1 : ∀ b ∈ [z, TI, TO, i1, i2], ¬ k1.at b
  a2 : ∀ b ∈ [z, TI, TO, i1, i2], ¬ k2.at b
theorem ZAp.sep {z TI TO i1 i2 : Addr} {k1 k2 : Kd} {fp1 fp2 : List Addr} (D : ZAp z TI TO i1 i2 k1 k2) (m1 : i1 ∈ fp1) (m2 : i2 ∈ fp2) (h1 : ∀ b ∈ fp1, b = i1 ∨ k1.at b) (h2 : ∀ b ∈ fp2, b = i2 ∨ k2.at b) : ZipSep2 z TI TO i1 i2 fp1 fp2 where
  TIz := D.d1
  TOz := D.d2
  TITO := D.d5
  TIi1 := D.d6
  mem1 := m1
  zf1 := fun h => (h1 _ h).elim (fun q => D.d3 q.symm) (D.a1 z (by simp))
  Tf1 := fun h => (h1 _ h).elim D.d8 (D.a1 TO (by simp))
  TIi2 := D.d7
  mem2 := m2
  zf2 := fun h => (h2 _ h).elim (fun q => D.d4 q.symm) (D.a2 z (by simp))
  Tf2 := fun h => (h2 _ h).elim D.d9 (D.a2 TO (by simp))
  sep1_2 := fun h => (h2 _ h).elim D.d10 (D.a2 i1 (by simp))
  sep2_1 := fun h => (h1 _ h).elim (fun q => D.d10 q.symm) (D.a1 i2 (by simp))
theorem turn_zip2 {P : Program} {w : World} {K : PySem.W.Frag} {elts : List Expr} {kk : Nat} {z TI TO i1 i2 : Addr} {k1 k2 : Kd} (D : ZAp z TI TO i1 i2 k1 k2) :
    Turn P w K (.Tuple elts kk tpos) (ItZ K k1 k2) [z, TI, TO, i1, i2] z (fun i h => IsZip h z TI TO .none ∧ IsTupOf2 h TI (.ref i1) (.ref i2) ∧ (∃ x y, IsTupOf2 h TO x y) ∧ KIt h i1 i k1 ∧ KIt h i2 i k2) where
  mem := by simp
  obj := fun i h ⟨hz, hTI, ⟨x, y, hTO⟩, h1, h2⟩ c hc => by
    have e' : c = z ∨ c = TI ∨ c = TO ∨ c = i1 ∨ c = i2 := by simpa using hc
    rcases e' with rfl | rfl | rfl | rfl | rfl
    · exact ⟨_, hz, fun v q => nomatch q⟩
    · exact ⟨_, hTI, fun v q => nomatch q⟩
    · exact ⟨_, hTO, fun v q => nomatch q⟩
    · exact h1.obj
    · exact h2.obj
  keep := fun i h h' ⟨hz, hTI, ⟨x, y, hTO⟩, h1, h2⟩ k => ⟨k z (by simp) _ hz, k TI (by simp) _ hTI, ⟨x, y, k TO (by simp) _ hTO⟩, h1.keep (k i1 (by simp)), h2.keep (k i2 (by simp))⟩
  item := by
    intro X hP hw hK hc i pins s σ H E I hf st hg
    subst hP hw hK
    obtain ⟨hz, hTI, ⟨x0, y0, hTO⟩, h1, h2⟩ := st
    obtain ⟨xs, ys, x, y, okx, oky, hx, hy⟩ := hg
    have hh : X.A.in1.handled = none := I.ok.hd hc
    obtain ⟨fp1, P1, S1, D1, s1, t1, v1, m1, f1⟩ := kd_draws I okx h1 (D.a1 i1 (by simp)) hh
    obtain ⟨fp2, P2, S2, D2, s2, t2, v2, m2, f2⟩ := kd_draws I oky h2 (D.a2 i2 (by simp)) hh
    have hzl : z < s.heap.objs.size := Heap.lt_size hz
    refine wpAny_pyNext_zipD2_item (D.sep m1 m2 f1 f2) D1 D2 hz hTI hTO s1 s2 (List.getElem?_eq_some_iff.mp hx).1 (List.getElem?_eq_some_iff.mp hy).1 fun u1 u2 h' tk p1 p2 z' TO' st1 st2 hT hsz hk => ?_
    obtain ⟨x', hx', r1⟩ := v1 u1 p1
    obtain ⟨y', hy', r2⟩ := v2 u2 p2
    refine ⟨_, rfl, wpAny_letOwnedTupleGo_zip (s := { s with heap := h', toks := tk }) z' fun h'' z'' sb => ?_⟩
    have old : ∀ c o, c ∉ [z, TI, TO, i1, i2] → s.heap.get? c = some o → h''.get? c = some o := fun c o hb q => by
      simp only [List.mem_cons, List.not_mem_nil, or_false, not_or] at hb
      exact (sb.2 c hb.1).trans (hk c o hb.1 hb.2.2.1 hb.2.2.2.1 hb.2.2.2.2 q)
    have hT2 : h''.get? s.heap.objs.size = some { cls := .type "tuple", data := .seq #[u1, u2] } := (sb.2 _ (Nat.ne_of_gt hzl)).trans hT
    have new : ObjOk X.prog X.w (upd H s.heap.objs.size (.tup [x', y'])) h'' s.heap.objs.size (.tup [x', y']) := ⟨by show 2 ≤ sizeLine; decide, [u1, u2], .cons r1 (.cons r2 .nil), ⟨_, hT2, rfl, _, rfl⟩⟩
    have I1 := I.turnedNew (t' := tk) (ch := [z, TI, TO, i1, i2]) old hf (Nat.le_refl _) new
    refine ⟨.ref s.heap.objs.size, _, I1, rfl, ⟨_, x', y', rfl, I.hok.fresh (Nat.le_refl _), rfl, fun l hl => by rw [hl.inj I okx]; exact hx', fun l hl => by rw [hl.inj I oky]; exact hy'⟩, ⟨z'', ?_, ⟨u1, u2, ?_⟩, ?_, ?_⟩, fun c hcm => ?_⟩
    · exact (sb.2 _ D.d1).trans (hk _ _ D.d1 D.d5 D.d6 D.d7 hTI)
    · exact (sb.2 _ D.d2).trans TO'
    · exact (t1 _ _ st1).keep fun o q => (sb.2 _ D.d3).trans q
    · exact (t2 _ _ st2).keep fun o q => (sb.2 _ D.d4).trans q
    · have hlt : c < s.heap.objs.size := by
        have e' : c = z ∨ c = TI ∨ c = TO ∨ c = i1 ∨ c = i2 := by simpa using hcm
        rcases e' with rfl | rfl | rfl | rfl | rfl
        · exact hzl
        · exact Heap.lt_size hTI
        · exact Heap.lt_size hTO
        · obtain ⟨_, e1, _⟩ := h1.obj; exact Heap.lt_size e1
        · obtain ⟨_, e1, _⟩ := h2.obj; exact Heap.lt_size e1
      rw [upd_ne (Nat.ne_of_lt hlt)]
      exact (hf c hcm).1
  done := by
    intro X hP hw hK hc i pins s σ H E I hf st hg
    subst hP hw hK
    obtain ⟨hz, hTI, ⟨x0, y0, hTO⟩, h1, h2⟩ := st
    obtain ⟨xs, ys, okx, oky, l1, l2, hend⟩ := hg
    have hh : X.A.in1.handled = none := I.ok.hd hc
    obtain ⟨fp1, P1, S1, D1, s1, t1, v1, m1, f1⟩ := kd_draws I okx h1 (D.a1 i1 (by simp)) hh
    obtain ⟨fp2, P2, S2, D2, s2, t2, v2, m2, f2⟩ := kd_draws I oky h2 (D.a2 i2 (by simp)) hh
    refine wpAny_pyNext_zipD2_end (D.sep m1 m2 f1 f2) D1 D2 hz hTI hTO s1 s2 l1 l2 hend fun h' tk hk => ⟨rfl, I.turnedL (t' := tk) (ch := [z, TI, TO, i1, i2]) (fun c o hb q => ?_) hf⟩
    simp only [List.mem_cons, List.not_mem_nil, or_false, not_or] at hb
    exact hk c o hb.1 hb.2.2.1 hb.2.2.2.1 hb.2.2.2.2 q
  self := fun A i s Q E st h => wpAny_pyIter_zip st.1 h
theorem RV.kd {S : Se} {W : Wd} {v : Va} {y : V} {xs : List Va} (r : RV S W v y) (h : seqL v = some xs) : ∃ (kd : Kd) (ys : List V), kd.arg y ∧ (∀ W1, Le W W1 → KdOk S.K W1.H kd ys) ∧ RVs S W xs ys := by
  cases v <;> simp only [seqL, reduceCtorEq, Option.some.injEq] at h
  case str s0 =>
    subst h
    obtain ⟨rfl, ht⟩ := r.strE
    refine ⟨.S (strS s0), (s0.map fun c => V.str ⟨#[c]⟩), rfl, fun _ _ => by simp [KdOk, strS], ?_⟩
    clear r
    induction s0 with
    | nil => exact .nil
    | cons c cs ih =>
      exact .cons (.str [c] (fun d hd => ht d (by simp at hd; simp [hd]))) (ih fun d hd => ht d (by simp [hd]))
  case tup zs =>
    subst h
    obtain ⟨a, ys, rfl, h1, h2⟩ := r.tupS
    exact ⟨.T a, ys, rfl, h1, h2⟩
  case lst zs =>
    subst h
    obtain ⟨a, ys, rfl, h1, h2, h3⟩ := r.lstN
    exact ⟨.L a, ys, rfl, fun W1 l => SqL.of (l.ke _ _ h1 h2).1, h3⟩
theorem near5 {n b : Nat} (h : b ∈ [n + 4, n + 2, n + 3, n, n + 1]) : n ≤ b := by
  simp only [List.mem_cons, List.not_mem_nil, or_false] at h
  omega
theorem zap5 (n : Nat) {k1 k2 : Kd} (l1 : ∀ b : Nat, k1.at b → b < n) (l2 : ∀ b : Nat, k2.at b → b < n) : ZAp (n + 4) (n + 2) (n + 3) n (n + 1) k1 k2 where
  d1 := show (n + 2 : Nat) ≠ n + 4 by omega
  d2 := show (n + 3 : Nat) ≠ n + 4 by omega
  d3 := show (n : Nat) ≠ n + 4 by omega
  d4 := show (n + 1 : Nat) ≠ n + 4 by omega
  d5 := show (n + 2 : Nat) ≠ n + 3 by omega
  d6 := show (n + 2 : Nat) ≠ n by omega
  d7 := show (n + 2 : Nat) ≠ n + 1 by omega
  d8 := show (n + 3 : Nat) ≠ n by omega
  d9 := show (n + 3 : Nat) ≠ n + 1 by omega
  d10 := show (n : Nat) ≠ n + 1 by omega
  a1 := fun b hb ha => Nat.lt_irrefl _ (Nat.lt_of_lt_of_le (l1 b ha) (near5 hb))
  a2 := fun b hb ha => Nat.lt_irrefl _ (Nat.lt_of_lt_of_le (l2 b ha) (near5 hb))
def iZip2 (K : PySem.W.Frag) (ta : TA) : TI := fun σ H R => ta σ H fun vs H1 => ∃ (y1 y2 : V) (k1 k2 : Kd) (xs ys : List V), vs = [y1, y2] ∧ k1.arg y1 ∧ k2.arg y2 ∧ KdOk K H1 k1 xs ∧ KdOk K H1 k2 ys ∧ R (ItZ K k1 k2) H1
theorem pi_zip2 {ta : TA} {elts : List Expr} {kk : Nat} (B : BtM X "zip") (ha : PA X [e, e2] ta) (hp : plainArgs [e, e2] = true) : PI X (.Tuple elts kk tpos) (.Call (.Name "zip" p) [e, e2] [] pos) (iZip2 X.K ta) := by
  have hp2 : plainArgs [e2] = true := by
    unfold plainArgs at *
    simp only [List.all_cons, Bool.and_eq_true] at hp ⊢
    exact hp.2
  have hs : starEach [e, e2] X.env = (false, eval e X.env) :: starEach [e2] X.env := star_cons hp
  have hpl : (backTo pos (starEach [e2] X.env)).any (·.1) = false := back_plain hp2
  refine ⟨fun pins s σ H R I h => ?_⟩
  refine PyProof.Rows.Call_ (ld_blt I B.gl B.none PyProof.Rows.boot_zip ?_)
  refine PyProof.Rows.callWith_type1 (thn (ha.run pos pins s σ H _ I h) fun us s1 ⟨vs, H1, I1, r1, q1⟩ => ?_) hs hpl
  obtain ⟨y1, y2, k1, k2, xs, ys, rfl, g1, g2, o1, o2, q⟩ := q1
  obtain ⟨u1, u2, rfl, r1, r2⟩ := Vals.two r1
  obtain ⟨b1, P1, B1, p1, f1, l1⟩ := kd_begins I1 o1 g1 r1
  obtain ⟨b2, P2, B2, p2, f2, l2⟩ := kd_begins I1 o2 g2 r2
  refine zip_begins2 B1 B2 p1 p2 fun h' hz hTI hTO e1 e2 hsz hk => wpAny_pyIter_zip hz ?_
  have I2 : L2.Inv X pins σ H1 { s1 with heap := h' } := I1.kept (t' := s1.toks) hk
  refine ⟨s1.heap.objs.size + 4, [s1.heap.objs.size + 4, s1.heap.objs.size + 2, s1.heap.objs.size + 3, s1.heap.objs.size, s1.heap.objs.size + 1], _, ItZ X.K k1 k2, H1, rfl, I2, turn_zip2 (zap5 s1.heap.objs.size l1 l2), ⟨hz, hTI, ⟨_, _, hTO⟩, f1 _ _ e1, f2 _ _ e2⟩, fun c hc => ?_, q⟩
  have hle : s1.heap.objs.size ≤ c := near5 hc
  exact I1.fpOk hle (I1.hok.fresh hle)
theorem i_zip {elts : List Expr} {kk : Nat} (B : BtM X "zip") (ha : PA X [e, e2] (tMs (seX X gn) C ms)) (hp : plainArgs [e, e2] = true) : PI X (.Tuple elts kk tpos) (.Call (.Name "zip" p) [e, e2] [] pos) (tW (seX X gn) C .zip ms) := by
  refine ⟨fun pins s σ H Rr I h => (pi_zip2 B ha hp).run pins s σ H Rr I ?_⟩
  obtain ⟨W, ρ, xs, h', vs, rfl, R, rs, e0, ew, k⟩ := h
  unfold wkL at ew
  split at ew <;> first | (cases ew; done) | skip
  all_goals (try (rename_i hh; cases hh))
  split at ew
  · rename_i a b xs1 xs2 ea eb
    cases ew
    refine ⟨W, ρ, _, h', rfl, R, rs, e0, fun W1 ys q1 l1 R1 r1 => ?_⟩
    match ys, r1 with
    | [y, z], .cons r (.cons r' .nil) =>
      obtain ⟨k1, ys1, g1, o1, t1⟩ := r.kd ea
      obtain ⟨k2, ys2, g2, o2, t2⟩ := r'.kd eb
      refine ⟨y, z, k1, k2, ys1, ys2, rfl, g1, g2, o1 W1 (Le.refl _), o2 W1 (Le.refl _), k W1 _ q1 l1 R1 fun W2 l2 R2 => ⟨fun i x hx => ?_, ?_⟩⟩
      · obtain ⟨u, v, hu, hv, rfl⟩ := zip_get hx
        obtain ⟨yu, hyu, ru⟩ := (t1.mono l2).get hu
        obtain ⟨yv, hyv, rv⟩ := (t2.mono l2).get hv
        refine ⟨⟨_, _, yu, yv, o1 W2 l2, o2 W2 l2, hyu, hyv⟩, ?_⟩
        rintro z H' ⟨T, x', y', rfl, hT, rfl, h1, h2⟩
        have e1 := h1 _ (o1 W2 l2)
        have e2 := h2 _ (o2 W2 l2)
        rw [hyu] at e1; cases e1
        rw [hyv] at e2; cases e2
        have l3 := Le.laid (o := .tup [yu, yv]) hT
        exact ⟨⟨W2.ι, W2.h, upd W2.H T _⟩, rfl, rfl, l3, R2.laid hT, .tupH upd_same (fun o => R2.notOwn hT o) (.cons (ru.mono l3) (.cons (rv.mono l3) .nil))⟩
      · have a1 := t1.length
        have a2 := t2.length
        refine ⟨_, _, o1 W2 l2, o2 W2 l2, ?_, ?_, ?_⟩ <;> rw [zip_len] <;> omega
  · cases ew
end
end Mp

set_option autoImplicit false
/-! Mp9: targets, comprehensions, statements -/
namespace Mp
open PySem L2
mutual
def tgIn (own : List Nat) : Tg → Bool
  | .nm i => own.contains i
  | .tp ts => tgsIn own ts
def tgsIn (own : List Nat) : List Tg → Bool
  | [] => true
  | t :: ts => tgIn own t && tgsIn own ts
end
/-- outside own nothing changed -/
def Same (own : List Nat) (σ σ' : L2.St) : Prop := σ'.length = σ.length ∧ ∀ j, j ∉ own → σ'[j]? = σ[j]?
theorem wipe_get : ∀ (own : List Nat) (σ : L2.St) (j : Nat), (wipe σ own)[j]? = if j ∈ own then (if j < σ.length then some none else none) else σ[j]?
  | [], σ, j => by simp [wipe]
  | v :: vs, σ, j => by
    unfold wipe
    by_cases h : v = j
    · subst h
      by_cases hl : v < σ.length
      · rw [List.getElem?_set_self (by rw [wipe_length]; exact hl)]
        simp [hl]
      · rw [List.getElem?_eq_none (by rw [List.length_set, wipe_length]; omega)]
        simp [hl]
    · rw [List.getElem?_set_ne h, wipe_get vs σ j]
      have : (j ∈ v :: vs) ↔ j ∈ vs := by simp [Ne.symm h]
      by_cases hj : j ∈ vs
      · rw [if_pos hj, if_pos (this.mpr hj)]
      · rw [if_neg hj, if_neg (fun q => hj (this.mp q))]
theorem Same.wipe {own : List Nat} {σ σ' : L2.St} (h : Same own σ σ') : wipe σ' own = L2.wipe σ own := by
  apply List.ext_getElem?
  intro j
  rw [wipe_get, wipe_get, h.1]
  by_cases hj : j ∈ own
  · rw [if_pos hj, if_pos hj]
  · rw [if_neg hj, if_neg hj, h.2 j hj]
theorem Same.refl (own : List Nat) (σ : L2.St) : Same own σ σ := ⟨rfl, fun _ _ => rfl⟩
theorem Same.trans {own : List Nat} {a b c : L2.St} (x : Same own a b) (y : Same own b c) : Same own a c := ⟨y.1.trans x.1, fun j hj => (y.2 j hj).trans (x.2 j hj)⟩
theorem wipe2 (own : List Nat) (σ : L2.St) : wipe (wipe σ own) own = wipe σ own := by
  apply List.ext_getElem?
  intro j
  rw [wipe_get, wipe_get, wipe_length]
  by_cases hj : j ∈ own <;> simp [hj]

/-! ### targets -/
def tG (S : Se) (t : Tg) : TG := fun y σ H Q => ∃ (W : Wd) (ρ ρ' : Loc) (v : Va), W.H = H ∧ RS S W ρ σ ∧ RV S W v y ∧ tgt t v ρ = some ρ' ∧
  ∀ σ' : L2.St, RS S W ρ' σ' → (∀ own, tgIn own t = true → Same own σ σ') → Q σ' H
def tGs (S : Se) (ts : List Tg) : TGs := fun ys σ H Q => ∃ (W : Wd) (ρ ρ' : Loc) (vs : List Va), W.H = H ∧ RS S W ρ σ ∧ RVs S W vs ys ∧ tgts ts vs ρ = some ρ' ∧
  ∀ σ' : L2.St, RS S W ρ' σ' → (∀ own, tgsIn own ts = true → Same own σ σ') → Q σ' H
def notStar : Expr → Bool
  | .Starred _ _ => false
  | _ => true
theorem each_cons {e : Expr} {es : List Expr} {env : Env} (h : notStar e = true) : assignEach (e :: es) env = (false, assign e env) :: assignEach es env := by
  cases e <;> first | rfl | cases h
theorem each_len : ∀ (es : List Expr) (env : Env), (assignEach es env).length = es.length
  | [], _ => rfl
  | e :: es, env => by
    cases e <;> (show _ + 1 = _; rw [each_len es env]; rfl)
theorem each_no : ∀ {es : List Expr} {env : Env}, es.all notStar = true → (assignEach es env).findIdx? (·.1) = none
  | [], _, _ => rfl
  | e :: es, env, h => by
    simp only [List.all_cons, Bool.and_eq_true] at h
    rw [each_cons h.1, List.findIdx?_cons]
    simp only [Bool.false_eq_true, if_false]
    rw [each_no h.2]
    rfl
section
variable {X : Cx} {gn : List Str} {C : Call} {e tg : Expr} {es : List Expr} {pos p : Pos} {m : Ex} {ms : Exs} {t : Tg} {ts : List Tg}
theorem PG.imp {e : Expr} {t t' : TG} (h : PG X e t) (i : ∀ y σ H Q, t' y σ H Q → t y σ H Q) : PG X e t' := ⟨fun pins s σ H v u Q I r q => h.run pins s σ H v u Q I r (i v σ H Q q)⟩
theorem PGs.imp {e : List Expr} {t t' : TGs} (h : PGs X e t) (i : ∀ y σ H Q, t' y σ H Q → t y σ H Q) : PGs X e t' := ⟨fun pins s σ H v u Q I r q => h.run pins s σ H v u Q I r (i v σ H Q q)⟩
theorem g_nm {i : Nat} {x : Str} (hN : X.N.Nodup) (hi : X.N[i]? = some x) (hx : L2.Loc X.env.scope x) (hf : X.fn x = true ∨ X.env.scope.names.lookup x = some .local) : PG X (.Name x pos) (tG (seX X gn) (.nm i)) := by
  refine PG.imp (pg_name hN hi hx hf) ?_
  rintro y σ H Q ⟨W, ρ, ρ', v, rfl, rs, r, e, k⟩
  simp only [tgt] at e
  split at e
  · cases e
    exact k _ (rs.set i r) fun own ho => ⟨by simp, fun j hj => by
      simp only [tgIn, List.contains_iff_mem] at ho
      rw [List.getElem?_set_ne (fun z => hj (by rw [← z]; exact ho))]⟩
  · cases e
theorem gs_nil : PGs X [] (tGs (seX X gn) []) := by
  refine PGs.imp pgs_nil ?_
  rintro y σ H Q ⟨W, ρ, ρ', v, rfl, rs, r, e, k⟩
  cases r with
  | nil =>
    simp only [tgts, Option.some.injEq] at e
    subst e
    exact ⟨rfl, k σ rs fun own _ => Same.refl _ _⟩
  | cons _ _ => simp [tgts] at e
theorem gs_cons (h1 : PG X e (tG (seX X gn) t)) (h2 : PGs X es (tGs (seX X gn) ts)) (hs : notStar e = true) : PGs X (e :: es) (tGs (seX X gn) (t :: ts)) := by
  refine PGs.imp (pgs_cons h1 h2 (by rw [each_cons hs]; rfl)) ?_
  rintro y σ H Q ⟨W, ρ, ρ', v, rfl, rs, r, e, k⟩
  cases r with
  | nil => simp [tgts] at e
  | cons r rr =>
    simp only [tgts] at e
    split at e
    · rename_i ρ1 e1
      refine ⟨_, _, rfl, W, ρ, ρ1, _, rfl, rs, r, e1, fun σ1 rs1 hs1 => ⟨W, ρ1, ρ', _, rfl, rs1, rr, e, fun σ2 rs2 hs2 => k σ2 rs2 fun own ho => ?_⟩⟩
      simp only [tgsIn, Bool.and_eq_true] at ho
      exact (hs1 own ho.1).trans (hs2 own ho.2)
    · cases e
theorem g_tp {kk : Nat} (hc : X.calm = true) (h : PGs X es (tGs (seX X gn) ts)) (hs : es.all notStar = true) (hl : es.length = ts.length) : PG X (.Tuple es kk pos) (tG (seX X gn) (.tp ts)) := by
  have lts : ∀ {ts : List Tg} {vs : List Va} {ρ ρ' : Loc}, tgts ts vs ρ = some ρ' → vs.length = ts.length := by
    intro ts
    induction ts with
    | nil => intro vs ρ ρ' h; cases vs <;> simp [tgts] at h ⊢
    | cons t ts ih =>
      intro vs ρ ρ' h
      cases vs with
      | nil => simp [tgts] at h
      | cons v vs =>
        simp only [tgts] at h
        split at h
        · simp [ih h]
        · cases h
  have hn : (assignEach es X.env).length = ts.length := by rw [each_len, hl]
  refine ⟨fun pins s σ H y u Q I r q => ?_⟩
  obtain ⟨W, ρ, ρ', v, rfl, rs, rv, e, k⟩ := q
  cases v <;> simp only [tgt, reduceCtorEq] at e
  case tup vs =>
    obtain ⟨a, ys, rfl, h1, h2⟩ := rv.tupS
    refine (pg_tup (k := kk) (pos := pos) hc h hn (each_no hs)).run pins s σ W.H _ u Q I r ⟨a, ys, rfl, h1 W (Le.refl _), by rw [← h2.length]; exact lts e, W, ρ, ρ', vs, rfl, rs, h2, e, fun σ' rs' hs' => k σ' rs' fun own ho => hs' own (by simpa [tgIn] using ho)⟩
  case lst vs =>
    obtain ⟨a, ys, rfl, h1, h2, h3⟩ := rv.lstN
    refine (pg_unl (k := kk) (pos := pos) hc h hn (each_no hs)).run pins s σ W.H _ u Q I r ⟨a, ys, rfl, SqL.of h1, by rw [← h3.length]; exact lts e, W, ρ, ρ', vs, rfl, rs, h3, e, fun σ' rs' hs' => k σ' rs' fun own ho => hs' own (by simpa [tgIn] using ho)⟩

/-! ### comprehensions -/
def tTs (S : Se) (C : Call) (cs : Exs) : TT := fun σ H Q => ∃ (W : Wd) (ρ : Loc) (b : Bool) (h' : Hp), W.H = H ∧ RH S W ∧ RS S W ρ σ ∧ evt C ρ cs W.h = .ok b h' ∧
  ∀ (W' : Wd), W'.h = h' → Le W W' → RH S W' → Q b W'.H
theorem PTs.imp {e : List Expr} {t t' : TT} (h : PTs X e t) (i : ∀ σ H Q, t' σ H Q → t σ H Q) : PTs X e t' := ⟨fun pins s σ H Q I q => h.run pins s σ H Q I (i σ H Q q)⟩
theorem ts_nil : PTs X [] (tTs (seX X gn) C .nil) := by
  refine PTs.imp pts_nil ?_
  rintro σ H Q ⟨W, ρ, b, h', rfl, R, rs, e, k⟩
  simp only [evt] at e
  cases e
  exact k W rfl (Le.refl _) R
theorem ts_one (h : PT X e (tT (seX X gn) C m)) : PTs X [e] (tTs (seX X gn) C (.cons m .nil)) := by
  refine PTs.imp (pts_one h) ?_
  rintro σ H Q ⟨W, ρ, b, h', rfl, R, rs, e, k⟩
  simp only [evt] at e
  obtain ⟨x, h1, e1, e⟩ := bind_ok e
  split at e
  · rename_i b0 eb
    cases e
    exact ⟨W, ρ, x, _, b, rfl, R, rs, e1, eb, fun W1 q1 l1 R1 => k W1 q1 l1 R1⟩
  · cases e
/-- a comprehension's wish -/
theorem lc_imp {w : Wk} {t : Tg} {cs : Exs} {own : List Nat} {S : Se} (ho : tgIn own t = true) {σ : L2.St} {H : L2.Hp} {Q : VK} (q : tM S C (.lc own m t w ms cs) σ H Q) : tLc (tW S C w ms) (tG S t) (tTs S C cs) (tM S C m) own σ H Q := by
  obtain ⟨W, ρ, v, h', rfl, R, rs, e, k⟩ := q
  simp only [ev] at e
  obtain ⟨xs, h1, e1, e⟩ := bind_ok e
  split at e
  · cases e
  rename_i vs ew
  obtain ⟨u, h2, e2, e⟩ := bind_ok e
  have e2 : lcg (fun x h => stepL (tgt t x (wipeL ρ own)) (fun ρ h => evt C ρ cs h) (fun ρ h => ev C ρ m h) h) h1.length vs (h1 ++ [.lst []]) = .ok u h2 := by
    revert e2
    cases lcg _ _ vs _ <;> intro e2 <;> first | (cases e2; done) | exact e2
  obtain ⟨F, hF⟩ : ∃ F : Va → Hp → Out (Option Va), F = fun x h => stepL (tgt t x (wipeL ρ own)) (fun ρ h => evt C ρ cs h) (fun ρ h => ev C ρ m h) h := ⟨_, rfl⟩
  rw [← hF] at e2
  refine ⟨W, ρ, xs, h1, vs, rfl, R, rs, e1, ew, fun W1 J q1 l1 R1 sv D hD => ?_⟩
  -- the new list is a cell
  have lc0 := Le.cell (xs := []) (ys := []) R1 hD
  have Rc := RH.cell R1 hD (xs := []) (ys := []) .nil
  generalize hWc : (⟨W1.ι ++ [D], W1.h ++ [.lst []], upd W1.H D (.lst [])⟩ : Wd) = Wc at lc0 Rc
  have hn : h1.length = W1.ι.length := by rw [R1.len, q1]
  have io0 : Wc.ι[h1.length]? = some D := by rw [← hWc, hn]; simp
  refine ⟨fun i m0 H => m0 = vs.length - i ∧ i ≤ vs.length ∧ ∃ W2 : Wd, W2.H = H ∧ RH S W2 ∧ Le Wc W2 ∧ lcg F h1.length (vs.drop i) W2.h = .ok u h2, ⟨vs.length, by simp, Nat.zero_le _, Wc, by rw [← hWc], Rc, Le.refl _, ?_⟩, ?_⟩
  · rw [← hWc, ← q1]
    rw [← q1] at e2
    simpa using e2
  rintro i m0 H ⟨rfl, hi, W2, rfl, R2, l2, eg⟩
  obtain ⟨sg, ss⟩ := sv W2 (lc0.trans l2) R2
  by_cases hlt : i < vs.length
  · refine .inr ?_
    have hx : vs[i]? = some vs[i] := List.getElem?_eq_getElem hlt
    obtain ⟨go, yl⟩ := sg i _ hx
    rw [List.drop_eq_getElem_cons hlt] at eg
    generalize vs[i] = x at *
    simp only [lcg] at eg
    obtain ⟨o, h3, e3, eg⟩ := bind_ok eg
    have e3 : stepL (tgt t x (wipeL ρ own)) (fun ρ h => evt C ρ cs h) (fun ρ h => ev C ρ m h) W2.h = .ok o h3 := by rw [hF] at e3; exact e3
    cases et : tgt t x (wipeL ρ own) with
    | none => rw [et] at e3; cases e3
    | some ρ' =>
    rw [et] at e3
    simp only [stepL] at e3
    obtain ⟨b, h4, e4, e3⟩ := bind_ok e3
    refine ⟨go, fun H' => ∃ W3 : Wd, W3.H = H' ∧ RH S W3 ∧ Le Wc W3 ∧ lcg F h1.length (vs.drop (i + 1)) W3.h = .ok u h2, fun H' ⟨W3, a1, a2, a3, a4⟩ => ⟨vs.length - (i + 1), by omega, rfl, hlt, W3, a1, a2, a3, a4⟩, fun y H' hy => ?_⟩
    obtain ⟨W3, rfl, q3, l3, R3, r3⟩ := yl y H' hy
    refine ⟨W3, wipeL ρ own, ρ', x, rfl, (rs.mono (l1.trans (lc0.trans (l2.trans l3)))).wipe own, r3, et, fun σ2 rs2 hs2 => ⟨?_, W3, ρ', b, h4, rfl, R3, rs2, by rw [q3]; exact e4, fun W4 q4 l4 R4 => ?_⟩⟩
    · rw [(hs2 own ho).wipe, wipe2]
    cases b with
    | false =>
      simp only [Bool.false_eq_true, ↓reduceIte] at e3 ⊢
      cases e3
      exact ⟨W4, rfl, R4, l2.trans (l3.trans l4), by rw [q4]; exact eg⟩
    | true =>
      simp only [↓reduceIte] at e3 ⊢
      obtain ⟨z, h5, e5, e3⟩ := bind_ok e3
      cases e3
      refine ⟨W4, ρ', z, _, rfl, R4, rs2.mono l4, by rw [q4]; exact e5, fun W5 y5 q5 l5 R5 r5 => ?_⟩
      dsimp only at eg
      split at eg
      · rename_i zs ez
        split at eg
        · rename_i hz
          have l05 := l2.trans (l3.trans (l4.trans l5))
          have io5 := l05.io _ _ io0
          rw [← q5] at ez
          obtain ⟨a, acc, b1, b2, b3⟩ := R5.cel _ zs ez
          rw [io5] at b1
          cases b1
          have hz' : zs.length < lim := by
            have : (zs.length + 1).ble lim = true := hz
            exact Nat.le_of_ble_eq_true this
          refine ⟨acc, b2, by rw [← b3.length]; exact Nat.lt_of_lt_of_le hz' lim_le, ⟨W5.ι, W5.h.set h1.length (.lst (zs ++ [z])), upd W5.H D (.lst (acc ++ [y5]))⟩, rfl, R5.store ez io5 (b3.append (.cons r5 .nil)), l05.trans (Le.store R5 ez io5), ?_⟩
          show lcg F _ _ (W5.h.set _ _) = _
          rw [q5]
          exact eg
        · cases eg
      · cases eg
  · have hi' : i = vs.length := by omega
    subst hi'
    refine .inl ⟨ss, ?_⟩
    rw [List.drop_length] at eg
    simp only [lcg] at eg
    cases eg
    unfold frz at e
    split at e
    · rename_i zs ez
      cases e
      have io2 := l2.io _ _ io0
      refine k ⟨W2.ι, W2.h.set h1.length .gone, W2.H⟩ _ rfl (l1.trans (lc0.trans (l2.trans Le.free))) R2.free (RV.freed R2 ez io2)
    · cases e
end
end Mp

set_option autoImplicit false
/-! Mp10: statements -/
namespace Mp
open PySem L2
/-! ### a, *b = .. -/
section
open PySem.Spec PySem.Calls PyProof.Rows PySem.W
variable {prog : Program} {w : World} {A : Around} {E : Value → Shared → Prop} {s : Shared}
abbrev Rest2 (s : Shared) (x : Value) (r : List Value) (Q : List Value → Shared → Prop) : Prop := ∀ (h2 : Heap) (tk : Nat), (∀ b o, s.heap.get? b = some o → h2.get? b = some o) → Q [x, .ref h2.objs.size] { s with heap := h2.push { cls := .type "list", data := .seq r.toArray }, toks := tk }
theorem star2L {l : Addr} {its : Array Value} {x : Value} {r : List Value} {Q : List Value → Shared → Prop} (hh : A.handled = none) (hl : s.heap.IsList l its) (ei : its.toList = x :: r) (hz : its.size ≤ sizeLine) (h : Rest2 s x r Q) : wpAny (model prog w) A (unpackItems (.ref l) 2 (some 1)) Q E s := by
  have sz : its.size = r.length + 1 := by rw [← Array.length_toList, ei]; rfl
  have lz : l < s.heap.objs.size := by obtain ⟨_, q, _⟩ := hl; exact Heap.lt_size q
  have ne := Nat.ne_of_lt lz
  unfold unpackItems
  refine wpAny_bind ?_
  unfold notIterableAtAll
  refine wpAny_bind (wpAny_specialOf hl.typeIs slot_list_iter.lookup (wpAny_pure ?_)); simp only [Bool.false_eq_true, if_false]
  refine wpAny_bind (wpAny_holding (wpAny_pyIter_list hl (wpAny_bind (wpAny_holding (kun_draw ne 1 0 _ _ ⟨_, Heap.get?_push_size _ rfl, rfl, rfl⟩ (hl.push _) (by omega) fun g gi gs => ?_)))))
  have gl : g.IsList l its := (hl.push _).extBut gs.extBut ne
  have g1 : g.IsListIter s.heap.objs.size l 1 := gi
  have i1 : s.heap.objs.size < g.objs.size := by obtain ⟨_, q, _⟩ := g1; exact Heap.lt_size q
  have i2 : l < g.objs.size := by obtain ⟨_, q, _⟩ := gl; exact Heap.lt_size q
  have e1 : (its.toList.drop 0).take 1 = [x] := by rw [ei]; rfl
  have e2 : its.toList.drop 1 = r := by rw [ei]; rfl
  rw [e1, if_neg (by simp)]
  refine wpAny_bind (wpAny_holding (kun_collect (s := { s with heap := g }) (T := "list_iterator") (.inr (.inr (.inl rfl))) (Walks.list (A := A.in1) hh s.heap.objs.size l ne its) (fun j u st => st.1.typeIs) (by omega) ⟨g1, gl⟩ i1 i2 (fun g2 tk hk => ?_) hz))
  rw [e2, if_neg (by simp)]
  refine wpAny_bind (wpAny_newList (wpAny_pure ?_) (by simp; omega))
  simp only [Nat.sub_self, Nat.sub_zero, List.take_length, List.drop_length, List.append_nil, List.cons_append, List.nil_append]
  exact h g2 tk fun b o e => hk b o (Nat.ne_of_lt (Heap.lt_size e)) (gs.extBut b o (Nat.ne_of_lt (Heap.lt_size e)) (Heap.get?_push_of_some _ e))
theorem star2T {l : Addr} {its : Array Value} {x : Value} {r : List Value} {Q : List Value → Shared → Prop} (hh : A.handled = none) (hl : IsTup s.heap l its) (ei : its.toList = x :: r) (hz : its.size ≤ sizeLine) (h : Rest2 s x r Q) : wpAny (model prog w) A (unpackItems (.ref l) 2 (some 1)) Q E s := by
  have sz : its.size = r.length + 1 := by rw [← Array.length_toList, ei]; rfl
  have lz : l < s.heap.objs.size := by obtain ⟨_, q, _⟩ := hl; exact Heap.lt_size q
  have ne := Nat.ne_of_lt lz
  unfold unpackItems
  refine wpAny_bind ?_
  unfold notIterableAtAll
  refine wpAny_bind (wpAny_specialOf hl.typeIs slot_tuple_iter.lookup (wpAny_pure ?_)); simp only [Bool.false_eq_true, if_false]
  refine wpAny_bind (wpAny_holding (iter_tuple hl (wpAny_bind (wpAny_holding (draw_tuple ne 1 0 _ _ ⟨_, Heap.get?_push_size _ rfl, rfl, rfl⟩ (hl.push _) (by omega) fun g gi gs => ?_)))))
  have gl : IsTup g l its := (hl.push _).extBut gs.extBut ne
  have g1 : IsTupIter g s.heap.objs.size l 1 := gi
  have i1 : s.heap.objs.size < g.objs.size := by obtain ⟨_, q, _⟩ := g1; exact Heap.lt_size q
  have i2 : l < g.objs.size := by obtain ⟨_, q, _⟩ := gl; exact Heap.lt_size q
  have e1 : (its.toList.drop 0).take 1 = [x] := by rw [ei]; rfl
  have e2 : its.toList.drop 1 = r := by rw [ei]; rfl
  rw [e1, if_neg (by simp)]
  refine wpAny_bind (wpAny_holding (kun_collect (s := { s with heap := g }) (T := "tuple_iterator") (.inr (.inr (.inr rfl))) (Walks.tuple (A := A.in1) hh s.heap.objs.size l ne its) (fun j u st => st.1.typeIs) (by omega) ⟨g1, gl⟩ i1 i2 (fun g2 tk hk => ?_) hz))
  rw [e2, if_neg (by simp)]
  refine wpAny_bind (wpAny_newList (wpAny_pure ?_) (by simp; omega))
  simp only [Nat.sub_self, Nat.sub_zero, List.take_length, List.drop_length, List.append_nil, List.cons_append, List.nil_append]
  exact h g2 tk fun b o e => hk b o (Nat.ne_of_lt (Heap.lt_size e)) (gs.extBut b o (Nat.ne_of_lt (Heap.lt_size e)) (Heap.get?_push_of_some _ e))
end
section
variable {X : Cx} {gn : List Str} {C : Call} {e a b c tg : Expr} {es : List Expr} {pos p : Pos} {m m1 m2 : Ex} {ms : Exs} {t : Tg} {ts : List Tg}
def gSta (K : PySem.W.Frag) (i j : Nat) : TG := fun u σ H Q => ∃ (a : Addr) (x : V) (ys : List V), u = .ref a ∧ (SqL K H a (x :: ys) ∨ SqT K H a (x :: ys)) ∧ ∀ D : Addr, H D = none → Q ((σ.set i (some x)).set j (some (.ref D))) (upd H D (.lst ys))
theorem pg_sta {i j : Nat} {x y : Str} {px py p1 : Pos} {kk : Nat} (hc : X.calm = true) (gx : PG X (.Name x px) (gName i)) (gy : PG X (.Name y py) (gName j)) : PG X (.Tuple [.Name x px, .Starred (.Name y py) p1] kk pos) (gSta X.K i j) := by
  refine ⟨fun pins s σ H v u Q I r hw => ?_⟩
  obtain ⟨a, z, ys, rfl, hq, q⟩ := hw
  cases r
  have key : ∀ {its : List Value}, Vals (z :: ys) its → ∃ (u1 : Value) (us : List Value), its.toArray.toList = u1 :: us ∧ RelV z u1 ∧ Vals ys us := fun {its} rv => by
    cases rv with
    | cons r rs => exact ⟨_, _, by simp, r, rs⟩
  have fin : ∀ (u1 : Value) (us : List Value), RelV z u1 → Vals ys us → ys.length ≤ sizeLine → Rest2 s u1 us fun vs s2 => wpAny (model X.prog X.w) X.A (PySem.assignInOrder [assign (.Name x px) X.env, assign (.Name y py) X.env] vs) (fun _ s' => ∃ σ' H', L2.Inv X pins σ' H' s' ∧ Q σ' H') X.xe s2 := fun u1 us r1 rs hz h2 tk hk => by
    have I1 : L2.Inv X pins σ H { s with heap := h2 } := I.kept (t' := s.toks) hk
    have I2 := I1.lnew (t' := tk) rs hz
    refine PyProof.Rows.assignInOrder_cons (thn (gx.run pins _ σ _ z u1 (fun σ' H' => σ' = σ.set i (some z) ∧ H' = upd H h2.objs.size (.lst ys)) I2 r1 ⟨rfl, rfl⟩) fun _ s3 ⟨σ3, H3, I3, e1, e2⟩ => ?_)
    subst e1 e2
    refine PyProof.Rows.assignInOrder_cons (thn (gy.run pins s3 _ _ (.ref h2.objs.size) (.ref h2.objs.size) (fun σ' H' => σ' = (σ.set i (some z)).set j (some (.ref h2.objs.size)) ∧ H' = upd H h2.objs.size (.lst ys)) I3 rfl ⟨rfl, rfl⟩) fun _ s4 ⟨σ4, H4, I4, e1, e2⟩ => ?_)
    subst e1 e2
    exact PyProof.Rows.assignInOrder_nil ⟨_, _, I4, q h2.objs.size I1.fresh⟩
  rw [PyProof.Rows.assign_Tuple]
  refine wpAny_bind (wpAny_standAt ?_)
  unfold unpack
  show wpAny (model X.prog X.w) X.A (holding [.ref a] (unpackItems (.ref a) 2 (some 1)) >>= fun vs => PySem.assignInOrder [assign (.Name x px) X.env, assign (.Name y py) X.env] vs) _ _ _
  rcases hq with hq | hq
  · obtain ⟨its, rv, p1, hz⟩ := I.list hq
    obtain ⟨u1, us, ei, r1, rs⟩ := key rv
    simp only [List.length_cons] at hz
    exact wpAny_bind (wpAny_holding (star2L (I.ok.hd hc) p1.isList ei (by rw [List.size_toArray, ← rv.length]; exact hz) (fin u1 us r1 rs (by omega))))
  · obtain ⟨its, rv, p1, hz⟩ := I.tuple hq
    obtain ⟨u1, us, ei, r1, rs⟩ := key rv
    simp only [List.length_cons] at hz
    exact wpAny_bind (wpAny_holding (star2T (I.ok.hd hc) p1 ei (by rw [List.size_toArray, ← rv.length]; exact hz) (fin u1 us r1 rs (by omega))))

/-! ### statements -/
def endM (S : Se) (W : Wd) (D : Ends) : Fl → Loc → Prop
  | .nx, ρ => ∀ σ : L2.St, RS S W ρ σ → D.nx σ W.H
  | .bk, ρ => ∀ σ : L2.St, RS S W ρ σ → D.bk σ W.H
  | .ct, ρ => ∀ σ : L2.St, RS S W ρ σ → D.ct σ W.H
  | .rt v, _ => ∀ y : V, RV S W v y → D.rt y W.H
def tS (S : Se) (C : Call) (m : St) : TS := fun D σ H => ∃ (W : Wd) (ρ : Loc) (q : Fl × Loc) (h' : Hp), W.H = H ∧ RH S W ∧ RS S W ρ σ ∧ ex C m ρ W.h = .ok q h' ∧ ∀ W' : Wd, W'.h = h' → Le W W' → RH S W' → endM S W' D q.1 q.2
def tSs (S : Se) (C : Call) (m : Sts) : TS := fun D σ H => ∃ (W : Wd) (ρ : Loc) (q : Fl × Loc) (h' : Hp), W.H = H ∧ RH S W ∧ RS S W ρ σ ∧ exs C m ρ W.h = .ok q h' ∧ ∀ W' : Wd, W'.h = h' → Le W W' → RH S W' → endM S W' D q.1 q.2
theorem PS.imp {e : Stmt} {t t' : TS} (h : PS X e t) (i : ∀ D σ H, t' D σ H → t D σ H) : PS X e t' := ⟨fun pins s σ H D I q => h.run pins s σ H D I (i D σ H q)⟩
theorem PSs.imp {e : List Stmt} {t t' : TS} (h : PSs X e t) (i : ∀ D σ H, t' D σ H → t D σ H) : PSs X e t' := ⟨fun pins s σ H D I q => h.run pins s σ H D I (i D σ H q)⟩
variable {st : Stmt} {sts sts2 : List Stmt} {n : St} {ns n1 n2 : Sts}
theorem ss_nil : PSs X [] (tSs (seX X gn) C .nil) := by
  refine PSs.imp pss_nil ?_
  rintro D σ H ⟨W, ρ, q, h', rfl, R, rs, e, k⟩
  simp only [exs] at e
  cases e
  exact k W rfl (Le.refl _) R σ rs
theorem ss_cons (h1 : PS X st (tS (seX X gn) C n)) (h2 : PSs X sts (tSs (seX X gn) C ns)) : PSs X (st :: sts) (tSs (seX X gn) C (.cons n ns)) := by
  refine PSs.imp (pss_cons h1 h2) ?_
  rintro D σ H ⟨W, ρ, q, h', rfl, R, rs, e, k⟩
  simp only [exs] at e
  obtain ⟨⟨f, ρ1⟩, h1, e1, e⟩ := bind_ok e
  refine ⟨W, ρ, (f, ρ1), h1, rfl, R, rs, e1, fun W1 q1 l1 R1 => ?_⟩
  cases f with
  | nx => exact fun σ1 rs1 => ⟨W1, ρ1, q, h', rfl, R1, rs1, by rw [q1]; exact e, fun W2 q2 l2 R2 => k W2 q2 (l1.trans l2) R2⟩
  | rt v => cases e; exact k W1 q1 l1 R1
  | bk => cases e; exact k W1 q1 l1 R1
  | ct => cases e; exact k W1 q1 l1 R1
/-- swapsWith is nothing for what is no comprehension -/
def noComp : Expr → Bool
  | .ListComp .. | .SetComp .. | .DictComp .. => false
  | _ => true
theorem sw_no {t : Option Expr} {l : Nat} {env : Env} (h : noComp e = true) : swapsWith e t l env = pure false := by
  cases e <;> first | rfl | cases h
theorem sws_no {t : Expr} {l : Nat} {env : Env} (h : noComp e = true) : swapsWithSole [t] e l env = pure false := sw_no h
def noTup : Expr → Bool
  | .Tuple .. => false
  | _ => true
theorem st_no {env : Env} (h : noTup e = true) : swappedStores [tg] e env = pure none := by
  unfold swappedStores
  split
  · rename_i ts vs hh
    split at hh
    · cases h
    · cases h
    · cases hh
  · rfl
theorem st_nm {i : Str} {q : Pos} {env : Env} : swappedStores [.Name i q] e env = pure none := by cases e <;> rfl
theorem st_sub {o i : Expr} {q : Pos} {env : Env} : swappedStores [.Subscript o i q] e env = pure none := by cases e <;> rfl
theorem s_ev (h : PE X e (tM (seX X gn) C m)) (hs : noComp e = true) : PS X (.Expr e pos) (tS (seX X gn) C (.ev m)) := by
  refine PS.imp (ps_expr h (sw_no hs)) ?_
  rintro D σ H ⟨W, ρ, q, h', rfl, R, rs, e, k⟩
  simp only [ex] at e
  obtain ⟨x, h1, e1, e⟩ := bind_ok e
  cases e
  exact ⟨W, ρ, x, _, rfl, R, rs, e1, fun W1 y q1 l1 R1 r1 => k W1 q1 l1 R1 σ (rs.mono l1)⟩
theorem asg_imp {S : Se} {D : Ends} {σ : L2.St} {H : L2.Hp} (h : tS S C (.as t m) D σ H) : tAsg (tM S C m) (tG S t) D σ H := by
  obtain ⟨W, ρ, q, h', rfl, R, rs, e, k⟩ := h
  simp only [ex] at e
  obtain ⟨x, h1, e1, e⟩ := bind_ok e
  split at e
  · rename_i ρ1 et
    cases e
    exact ⟨W, ρ, x, _, rfl, R, rs, e1, fun W1 y q1 l1 R1 r1 => ⟨W1, ρ, ρ1, x, rfl, rs.mono l1, r1, et, fun σ' rs' _ => k W1 q1 l1 R1 σ' rs'⟩⟩
  · cases e
theorem s_as (h : PE X e (tM (seX X gn) C m)) (g : PG X tg (tG (seX X gn) t)) (hs : noComp e = true) (hw : swappedStores [tg] e X.env = pure none) (hn : notStar tg = true) : PS X (.Assign [tg] e pos) (tS (seX X gn) C (.as t m)) :=
  PS.imp (ps_asg h g (sws_no hs) hw (by rw [each_cons hn]; rfl)) fun D σ H q => asg_imp q
theorem gname_imp {i : Nat} {S : Se} {D : Ends} {σ : L2.St} {H : L2.Hp} {te : TE} (h : tAsg te (tG S (.nm i)) D σ H) (mono : ∀ σ H Q Q', (∀ x H', Q x H' → Q' x H') → te σ H Q → te σ H Q') : tAsg te (gName i) D σ H := by
  refine mono _ _ _ _ (fun x H' q => ?_) h
  obtain ⟨W, ρ, ρ', v, rfl, rs, r, e, k⟩ := q
  simp only [tgt] at e
  split at e
  · cases e
    exact k _ (rs.set i r) fun own ho => ⟨by simp, fun j hj => by
      simp only [tgIn, List.contains_iff_mem] at ho
      rw [List.getElem?_set_ne (fun z => hj (by rw [← z]; exact ho))]⟩
  · cases e
theorem s_rt (h : PE X e (tM (seX X gn) C m)) : PS X (.Return (some e) pos) (tS (seX X gn) C (.rt m)) := by
  refine PS.imp (ps_ret h) ?_
  rintro D σ H ⟨W, ρ, q, h', rfl, R, rs, e, k⟩
  simp only [ex] at e
  obtain ⟨x, h1, e1, e⟩ := bind_ok e
  cases e
  exact ⟨W, ρ, x, _, rfl, R, rs, e1, fun W1 y q1 l1 R1 r1 => k W1 q1 l1 R1 y r1⟩
theorem s_rtf (h : PE X e (tM (seX X gn) C m)) : PS X (.Return (some e) pos) (tS (seX X gn) C (.rtf m)) := by
  refine PS.imp (ps_ret h) ?_
  rintro D σ H ⟨W, ρ, q, h', rfl, R, rs, e, k⟩
  simp only [ex] at e
  obtain ⟨x, h1, e1, e⟩ := bind_ok e
  split at e
  · rename_i r
    obtain ⟨v, h2, e2, e⟩ := bind_ok e
    cases e
    unfold frz at e2
    split at e2
    · rename_i zs ez
      cases e2
      refine ⟨W, ρ, _, _, rfl, R, rs, e1, fun W1 y q1 l1 R1 r1 => ?_⟩
      cases r1 with
      | ref ei =>
        rw [← q1] at ez
        exact k ⟨W1.ι, W1.h.set r .gone, W1.H⟩ (by rw [q1]) (l1.trans Le.free) R1.free _ (RV.freed R1 ez ei)
    · cases e2
  · cases e
theorem s_rn : PS X (.Return none pos) (tS (seX X gn) C .rn) := by
  refine PS.imp ps_retN ?_
  rintro D σ H ⟨W, ρ, q, h', rfl, R, rs, e, k⟩
  simp only [ex] at e
  cases e
  exact k W rfl (Le.refl _) R .non .non
theorem s_ps : PS X (.Pass pos) (tS (seX X gn) C .ps) := by
  refine PS.imp ps_pass ?_
  rintro D σ H ⟨W, ρ, q, h', rfl, R, rs, e, k⟩
  simp only [ex] at e
  cases e
  exact k W rfl (Le.refl _) R σ rs
theorem s_iff (hc : PT X c (tT (seX X gn) C m)) (ha : PSs X sts (tSs (seX X gn) C n1)) (hb : PSs X sts2 (tSs (seX X gn) C n2)) : PS X (.If c sts sts2 pos) (tS (seX X gn) C (.iff m n1 n2)) := by
  refine PS.imp (ps_if hc ha hb) ?_
  rintro D σ H ⟨W, ρ, q, h', rfl, R, rs, e, k⟩
  simp only [ex] at e
  obtain ⟨x, h1, e1, e⟩ := bind_ok e
  split at e
  · rename_i et
    refine ⟨W, ρ, x, h1, true, rfl, R, rs, e1, et, fun W1 q1 l1 R1 => ?_⟩
    simp only [↓reduceIte]
    exact ⟨W1, ρ, q, h', rfl, R1, rs.mono l1, by rw [q1]; exact e, fun W2 q2 l2 R2 => k W2 q2 (l1.trans l2) R2⟩
  · rename_i et
    refine ⟨W, ρ, x, h1, false, rfl, R, rs, e1, et, fun W1 q1 l1 R1 => ?_⟩
    simp only [Bool.false_eq_true, ↓reduceIte]
    exact ⟨W1, ρ, q, h', rfl, R1, rs.mono l1, by rw [q1]; exact e, fun W2 q2 l2 R2 => k W2 q2 (l1.trans l2) R2⟩
  · cases e
theorem s_sta {i j : Nat} {x y : Str} {px py p1 : Pos} {kk : Nat} (hc : X.calm = true) (gx : PG X (.Name x px) (gName i)) (gy : PG X (.Name y py) (gName j)) (h : PE X e (tM (seX X gn) C m)) (hs : noComp e = true) (hw : noTup e = true) :
    PS X (.Assign [.Tuple [.Name x px, .Starred (.Name y py) p1] kk p] e pos) (tS (seX X gn) C (.sta i j m)) := by
  refine PS.imp (ps_asg h (pg_sta hc gx gy) (sws_no hs) (st_no hw) (by rw [each_cons rfl]; rfl)) ?_
  rintro D σ H ⟨W, ρ, q, h', rfl, R, rs, e, k⟩
  simp only [ex] at e
  obtain ⟨v, h1, e1, e⟩ := bind_ok e
  have fin : ∀ (z : Va) (zs : List Va), (match tgt (.nm i) z ρ with
      | some ρ => match tgt (.nm j) (.lst zs) ρ with
        | some ρ => Out.ok (Fl.nx, ρ) h1
        | none => .bad
      | none => .bad) = .ok q h' → ∀ (W1 : Wd) (a : Addr) (y : V) (ys : List V), W1.h = h1 → Le W W1 → RH (seX X gn) W1 → (SqL X.K W1.H a (y :: ys) ∨ SqT X.K W1.H a (y :: ys)) → RVs (seX X gn) W1 (z :: zs) (y :: ys) → gSta X.K i j (.ref a) σ W1.H D.nx := by
    intro z zs ee W1 a y ys q1 l1 R1 hq rr
    cases rr with
    | cons r1 r2 =>
    split at ee
    · rename_i ρ1 et
      split at ee
      · rename_i ρ2 et2
        cases ee
        refine ⟨a, y, ys, rfl, hq, fun Dn hD => ?_⟩
        have l2 := Le.laid (o := .lst ys) hD
        have R2 := RH.laid (o := .lst ys) R1 hD
        simp only [tgt] at et et2
        split at et <;> first | (cases et; done) | skip
        cases et
        split at et2 <;> first | (cases et2; done) | skip
        cases et2
        refine k ⟨W1.ι, W1.h, upd W1.H Dn (.lst ys)⟩ q1 (l1.trans l2) R2 _ (((rs.mono (l1.trans l2)).set i (r1.mono l2)).set j (.lst upd_same (fun o => R1.notOwn hD o) (r2.mono l2)))
      · cases ee
    · cases ee
  split at e
  · rename_i z zs
    refine ⟨W, ρ, _, _, rfl, R, rs, e1, fun W1 y q1 l1 R1 r1 => ?_⟩
    obtain ⟨a, ys, rfl, g1, g2, g3⟩ := r1.lstN
    cases g3 with
    | cons g3 g4 => exact fin z zs e W1 a _ _ q1 l1 R1 (.inl (SqL.of g1)) (.cons g3 g4)
  · rename_i z zs
    refine ⟨W, ρ, _, _, rfl, R, rs, e1, fun W1 y q1 l1 R1 r1 => ?_⟩
    obtain ⟨a, ys, rfl, g1, g3⟩ := r1.tupS
    cases g3 with
    | cons g3 g4 => exact fin z zs e W1 a _ _ q1 l1 R1 (.inr (g1 W1 (Le.refl _))) (.cons g3 g4)
  · cases e
theorem s_par {i j : Nat} {x y : Str} {px py pt pt2 : Pos} {kt k2 : Nat} (hc : X.calm = true) (hN : X.N.Nodup) (hi : X.N[i]? = some x) (hj : X.N[j]? = some y) (hij : i ≠ j) (hx : X.env.scope.names.lookup x = some .local) (hy : X.env.scope.names.lookup y = some .local)
    (ha : PE X a (tM (seX X gn) C m1)) (hb : PE X b (tM (seX X gn) C m2)) (hp : plainArgs [a, b] = true) (hw : swappedStores [.Tuple [.Name x px, .Name y py] kt pt] (.Tuple [a, b] k2 pt2) X.env = pure (some [x, y])) :
    PS X (.Assign [.Tuple [.Name x px, .Name y py] kt pt] (.Tuple [a, b] k2 pt2) pos) (tS (seX X gn) C (.par i j m1 m2)) := by
  have hp2 : plainArgs [b] = true := by
    unfold plainArgs at *
    simp only [List.all_cons, Bool.and_eq_true] at hp ⊢
    exact hp.2
  refine PS.imp (ps_par hc hN hi hj hij hx hy (pa_cons ha (pa_cons hb pa_nil (star_cons hp2)) (star_cons hp)) hw) ?_
  rintro D σ H ⟨W, ρ, q, h', rfl, R, rs, e, k⟩
  simp only [ex] at e
  obtain ⟨v, h1, e1, e⟩ := bind_ok e
  obtain ⟨u, h2, e2, e⟩ := bind_ok e
  split at e
  · rename_i ρ1 et
    split at e
    · rename_i ρ2 et2
      cases e
      simp only [tgt] at et et2
      split at et <;> first | (cases et; done) | skip
      cases et
      split at et2 <;> first | (cases et2; done) | skip
      cases et2
      exact ⟨W, ρ, v, h1, rfl, R, rs, e1, fun W1 y1 q1 l1 R1 r1 => ⟨W1, ρ, u, _, rfl, R1, rs.mono l1, by rw [q1]; exact e2, fun W2 y2 q2 l2 R2 r2 => ⟨y1, y2, rfl, k W2 q2 (l1.trans l2) R2 _ (((rs.mono (l1.trans l2)).set i (r1.mono l2)).set j r2)⟩⟩⟩
    · cases e
  · cases e
def notSlice : Expr → Bool
  | .Slice .. => false
  | _ => true
theorem asg_sub {o a : Expr} {p : Pos} {env : Env} (h : notSlice a = true) (v : Value) : assign (.Subscript o a p) env v = (do
      let ov ← holding [v] (eval o env)
      let iv ← holding [v, ov] (eval a env)
      standAt p
      holding [v, ov, iv] (setItem ov iv v)
      release [v, ov, iv] []) := by cases a <;> first | rfl | cases h
theorem plain_ix {a : Expr} (h : notSlice a = true) : PlainIx a := fun o i => by cases a <;> first | rfl | cases h
theorem s_sub {o : Expr} (ho : PE X o (tM (seX X gn) C m1)) (hi : PE X a (tM (seX X gn) C m2)) (he : PE X e (tM (seX X gn) C m)) (hs : noComp e = true) (hna : notSlice a = true) : PS X (.Assign [.Subscript o a p] e pos) (tS (seX X gn) C (.sub m1 m2 m)) := by
  refine PS.imp (ps_asg he (pg_sub ho hi set_list (asg_sub hna)) (sws_no hs) st_sub (by rw [each_cons rfl]; rfl)) ?_
  rintro D σ H ⟨W, ρ, q, h', rfl, R, rs, e, k⟩
  simp only [ex] at e
  obtain ⟨v, h1, e1, e⟩ := bind_ok e
  obtain ⟨u, h2, e2, e⟩ := bind_ok e
  obtain ⟨w, h3, e3, e⟩ := bind_ok e
  split at e
  · rename_i nn kk _
    split at e
    · rename_i xs ex
      split at e
      · rename_i ys es
        cases e
        unfold setL at es
        split at es
        · rename_i hk
          cases es
          simp only [Bool.and_eq_true, decide_eq_true_eq] at hk
          refine ⟨W, ρ, v, h1, rfl, R, rs, e1, fun W1 y1 q1 l1 R1 r1 => ⟨W1, ρ, _, h2, rfl, R1, rs.mono l1, by rw [q1]; exact e2, fun W2 y2 q2 l2 R2 r2 => ⟨W2, ρ, _, _, rfl, R2, rs.mono (l1.trans l2), by rw [q2]; exact e3, fun W3 y3 q3 l3 R3 r3 => ?_⟩⟩⟩
          have r2' := r2.mono l3
          cases r2' with
          | ref ei =>
            have ei3 := r3.intE
            subst ei3
            rw [← q3] at ex
            obtain ⟨a', zs, b1, b2, b3⟩ := R3.cel _ xs ex
            rw [ei] at b1
            cases b1
            refine ⟨_, zs, kk, kk.toNat, rfl, rfl, b2, ?_, ?_⟩
            · rw [← b3.length]
              unfold ixN
              rw [if_pos (by omega)]
              simp
              omega
            · exact k ⟨W3.ι, W3.h.set nn (.lst (xs.set kk.toNat v)), upd W3.H _ _⟩ (by rw [q3]) (l1.trans (l2.trans (l3.trans (Le.store R3 ex ei)))) (R3.store ex ei (b3.set _ (r1.mono (l2.trans l3)))) σ (rs.mono (l1.trans (l2.trans (l3.trans (Le.store R3 ex ei)))))
        · cases es
      · cases e
    · cases e
  · cases e
end
end Mp

set_option autoImplicit false
/-! Mp11: append, loops, comprehensions in place -/
namespace Mp
open PySem L2
section
variable {X : Cx} {gn : List Str} {C : Call} {e a b c tg iter elt : Expr} {es ifs : List Expr} {pos p : Pos} {m m1 m2 : Ex} {ms : Exs} {t : Tg} {ts : List Tg} {st : Stmt} {sts sts2 : List Stmt} {n : St} {ns n1 n2 : Sts} {w : Wk}
theorem isCell_spec {h : Hp} {x : Va} (e : isCell h x = true) : ∃ n xs, x = .ref n ∧ h[n]? = some (.lst xs) := by
  cases x <;> simp only [isCell, Bool.false_eq_true] at e
  rename_i n
  cases hc : h[n]? with
  | none => rw [hc] at e; cases e
  | some c =>
    cases c with
    | lst xs => exact ⟨n, xs, rfl, hc⟩
    | gone => rw [hc] at e; cases e
theorem s_apd {o : Expr} {p1 p2 : Pos} (ho : PE X o (tM (seX X gn) C m1)) (he : PE X e (tM (seX X gn) C m)) (hb : plainBase o = true) (hp : plainArgs [e] = true) (hline : (p1.endLine == p2.line) = true) :
    PS X (.Expr (.Call (.Attribute o "append" p1) [e] [] p2) pos) (tS (seX X gn) C (.apd m1 m)) := by
  have h1 := pe_bmM (gn := gn) PySem.F.plainAttrs_list PySem.F.slot_list_append PySem.F.type_list_append mt_append ho (pa_cons he pa_nil (star_cons hp)) hb hp (Nat.le_of_ble_eq_true rfl) hline
  refine PS.imp (ps_expr h1 rfl) ?_
  rintro D σ H ⟨W, ρ, q, h', rfl, R, rs, e, k⟩
  simp only [ex] at e
  obtain ⟨v, h1, e1, e⟩ := bind_ok e
  split at e
  case isFalse => cases e
  rename_i hcell
  obtain ⟨u, h2, e2, e⟩ := bind_ok e
  split at e
  · rename_i nn _
    split at e
    · rename_i xs ex
      split at e
      · rename_i hz
        cases e
        have hz' : xs.length < lim := Nat.le_of_ble_eq_true hz
        refine ⟨W, ρ, _, h1, rfl, R, rs, e1, fun W1 y1 q1 l1 R1 r1 => ⟨?_, W1, ρ, u, _, rfl, R1, rs.mono l1, by rw [q1]; exact e2, fun W2 y2 q2 l2 R2 r2 => ?_⟩⟩
        · -- the cell is a list already
          obtain ⟨n', zs, eqn, ez⟩ := isCell_spec hcell
          cases eqn
          obtain ⟨a', ys, b1, b2, b3⟩ := R1.cel _ zs (by rw [q1]; exact ez)
          cases r1 with
          | ref ei =>
            rw [ei] at b1
            cases b1
            exact .inl (.inl ⟨rfl, ys, SqL.of b2⟩)
        · have r1' := r1.mono l2
          cases r1' with
          | ref ei =>
            rw [← q2] at ex
            obtain ⟨a', zs, b1, b2, b3⟩ := R2.cel _ xs ex
            rw [ei] at b1
            cases b1
            refine ⟨_, zs, y2, rfl, rfl, b2, by rw [← b3.length]; exact Nat.lt_of_lt_of_le hz' lim_le, ?_⟩
            exact k ⟨W2.ι, W2.h.set nn (.lst (xs ++ [u])), upd W2.H _ _⟩ (by rw [q2]) (l1.trans (l2.trans (Le.store R2 ex ei))) (R2.store ex ei (b3.append (.cons r2 .nil))) σ (rs.mono (l1.trans (l2.trans (Le.store R2 ex ei))))
      · cases e
    · cases e
  · cases e

/-! ### comprehensions -/
theorem blk_calm {s : Shared} {H : L2.Hp} {scope : Scope} {ce : Env} {fp : List Addr} (hc : X.calm = true) : (X.blk s H scope ce fp).calm = true := hc
def noSet : Expr → Bool
  | .Set .. => false
  | _ => true
theorem fold_no {env : Env} {x : Value} (h : noSet e = true) : foldedSetIterable e env x = pure x := by cases e <;> first | rfl | cases h
theorem p_lc {scope : Scope} {own : List (Str × Nat)} {cs : Exs} (hc : X.calm = true) (hN : X.N.Nodup) (hi : PI X tg iter (tW (seX X gn) C w ms)) (ok : BlkOk X.N X.env.scope scope own) (ho : tgIn (own.map (·.2)) t = true)
    (hg : ∀ (s : Shared) (H : L2.Hp) (D : Addr) (cl : List (Str × Addr)) (fp : List Addr), PG (X.blk s H scope (compEnvC scope cl D X.env) fp) tg (tG (seX X gn) t))
    (ht : ∀ (s : Shared) (H : L2.Hp) (D : Addr) (cl : List (Str × Addr)) (fp : List Addr), PTs (X.blk s H scope (compEnvC scope cl D X.env) fp) ifs (tTs (seX X gn) C cs))
    (he : ∀ (s : Shared) (H : L2.Hp) (D : Addr) (cl : List (Str × Addr)) (fp : List Addr), PE (X.blk s H scope (compEnvC scope cl D X.env) fp) elt (tM (seX X gn) C m)) (hs : noSet iter = true) :
    PE X (.ListComp elt [⟨tg, iter, ifs, 0⟩] scope pos) (tM (seX X gn) C (.lc (own.map (·.2)) m t w ms cs)) :=
  PE.imp (pe_lc hc hN hi ok hg ht he (fun _ => fold_no hs)) fun σ H Q q => lc_imp ho q
theorem s_lc {i : Nat} {y : Str} {py : Pos} {scope : Scope} {own : List (Str × Nat)} {cs : Exs} (hc : X.calm = true) (hN : X.N.Nodup) (hy : X.N[i]? = some y) (hyl : X.env.scope.names.lookup y = some .local)
    (hsw : swapsWith (.ListComp elt [⟨tg, iter, ifs, 0⟩] scope p) (some (.Name y py)) pos.line X.env = pure true) (hi : PI X tg iter (tW (seX X gn) C w ms)) (ok : BlkOk X.N X.env.scope scope own) (ho : tgIn (own.map (·.2)) t = true)
    (hg : ∀ (s : Shared) (H : L2.Hp) (D : Addr) (cl : List (Str × Addr)) (fp : List Addr), PG (X.blk s H scope (compEnvC scope cl D X.env) fp) tg (tG (seX X gn) t))
    (ht : ∀ (s : Shared) (H : L2.Hp) (D : Addr) (cl : List (Str × Addr)) (fp : List Addr), PTs (X.blk s H scope (compEnvC scope cl D X.env) fp) ifs (tTs (seX X gn) C cs))
    (he : ∀ (s : Shared) (H : L2.Hp) (D : Addr) (cl : List (Str × Addr)) (fp : List Addr), PE (X.blk s H scope (compEnvC scope cl D X.env) fp) elt (tM (seX X gn) C m)) (hs : noSet iter = true) :
    PS X (.Assign [.Name y py] (.ListComp elt [⟨tg, iter, ifs, 0⟩] scope p) pos) (tS (seX X gn) C (.as (.nm i) (.lc (own.map (·.2)) m t w ms cs))) := by
  refine PS.imp (ps_setLc hc hN hy hyl hsw hi ok hg ht he (fun _ => fold_no hs)) fun D σ H q => ?_
  have q1 := asg_imp q
  refine lc_imp (Q := fun x H1 => gName i x σ H1 D.nx) ho ?_
  obtain ⟨W, ρ, v, h', rfl, R, rs, e, k⟩ := q1
  refine ⟨W, ρ, v, h', rfl, R, rs, e, fun W1 y1 w1 l1 R1 r1 => ?_⟩
  obtain ⟨W2, ρ2, ρ', v2, hH, rs2, r2, e2, k2⟩ := k W1 y1 w1 l1 R1 r1
  simp only [tgt] at e2
  split at e2
  · cases e2
    exact k2 _ (rs2.set i r2) fun own ho => ⟨by simp, fun j hj => by
      simp only [tgIn, List.contains_iff_mem] at ho
      rw [List.getElem?_set_ne (fun z => hj (by rw [← z]; exact ho))]⟩
  · cases e2

/-! ### for -/
theorem for_imp {S : Se} {D : Ends} {σ : L2.St} {H : L2.Hp} (q : tS S C (.fo t w ms ns) D σ H) : tFor (tW S C w ms) (tG S t) (tSs S C ns) D σ H := by
  obtain ⟨W, ρ, f, h', rfl, R, rs, e, k⟩ := q
  simp only [ex] at e
  obtain ⟨xs, h1, e1, e⟩ := bind_ok e
  split at e
  case h_2 => cases e
  rename_i vs ew
  refine ⟨W, ρ, xs, h1, vs, rfl, R, rs, e1, ew, fun W1 J q1 l1 R1 sv => ?_⟩
  refine ⟨fun i m0 σ H => m0 = vs.length - i ∧ i ≤ vs.length ∧ ∃ (W2 : Wd) (ρ2 : Loc), W2.H = H ∧ RH S W2 ∧ Le W1 W2 ∧ RS S W2 ρ2 σ ∧ forg (tgt t) (exs C ns) (vs.drop i) ρ2 W2.h = .ok f h', ⟨vs.length, by simp, Nat.zero_le _, W1, ρ, rfl, R1, Le.refl _, rs.mono l1, by rw [q1]; simpa using e⟩, ?_⟩
  rintro i m0 σ0 H ⟨rfl, hi, W2, ρ2, rfl, R2, l2, rs2, eg⟩
  obtain ⟨sg, ss⟩ := sv W2 l2 R2
  by_cases hlt : i < vs.length
  · refine .inr ?_
    have hx : vs[i]? = some vs[i] := List.getElem?_eq_getElem hlt
    obtain ⟨go, yl⟩ := sg i _ hx
    rw [List.drop_eq_getElem_cons hlt] at eg
    generalize vs[i] = x at *
    simp only [forg] at eg
    split at eg
    · cases eg
    rename_i ρ3 et
    obtain ⟨⟨fl, ρ4⟩, h3, e3, eg⟩ := bind_ok eg
    refine ⟨go, fun σ' H' => ∃ (W3 : Wd) (ρ5 : Loc), W3.H = H' ∧ RH S W3 ∧ Le W1 W3 ∧ RS S W3 ρ5 σ' ∧ forg (tgt t) (exs C ns) (vs.drop (i + 1)) ρ5 W3.h = .ok f h', fun σ' H' ⟨W3, ρ5, a1, a2, a3, a4, a5⟩ => ⟨vs.length - (i + 1), by omega, rfl, hlt, W3, ρ5, a1, a2, a3, a4, a5⟩, fun y H' hy => ?_⟩
    obtain ⟨W3, rfl, q3, l3, R3, r3⟩ := yl y H' hy
    refine ⟨W3, ρ2, ρ3, x, rfl, rs2.mono l3, r3, et, fun σ2 rs3 _ => ⟨W3, ρ3, (fl, ρ4), h3, rfl, R3, rs3, by rw [q3]; exact e3, fun W4 q4 l4 R4 => ?_⟩⟩
    have l14 := l2.trans (l3.trans l4)
    cases fl with
    | nx => exact fun σ4 rs4 => ⟨W4, ρ4, rfl, R4, l14, rs4, by rw [q4]; exact eg⟩
    | ct => exact fun σ4 rs4 => ⟨W4, ρ4, rfl, R4, l14, rs4, by rw [q4]; exact eg⟩
    | bk => cases eg; exact k W4 q4 (l1.trans l14) R4
    | rt v => cases eg; exact k W4 q4 (l1.trans l14) R4
  · have hi' : i = vs.length := by omega
    subst hi'
    rw [List.drop_length] at eg
    simp only [forg] at eg
    cases eg
    exact .inl ⟨ss, k W2 rfl (l1.trans l2) R2 σ0 rs2⟩
theorem s_fo (hp : PassesOwn (model X.prog X.w) X.A X.env X.xe) (hc : X.calm = true) (hi : PI X tg iter (tW (seX X gn) C w ms)) (hg : PG X tg (tG (seX X gn) t)) (hb : PSs X sts (tSs (seX X gn) C ns)) (hs : noSet iter = true) :
    PS X (.For tg iter sts [] pos) (tS (seX X gn) C (.fo t w ms ns)) := PS.imp (ps_for hp hc hi hg hb (fun _ => fold_no hs)) fun D σ H q => for_imp q
end
end Mp

set_option autoImplicit false
/-! Mp12: a look whether Mp's code tells what the program's code says -/
namespace Mp
open PySem L2
structure Ck where
  N : List Str
  sc : Scope
  cs : List (Str × Va)
  fs : List (Str × Nat)
  bs : List Str
def Ck.lk (k : Ck) (x : Str) : Option NameKind := k.sc.names.lookup x
def Ck.blk (k : Ck) (sc : Scope) : Ck := { k with sc := sc }
mutual
def vaEq : Va → Va → Bool
  | .non, .non => true
  | .bl a, .bl b => a == b
  | .int a, .int b => a == b
  | .str a, .str b => a == b
  | .tup a, .tup b => vasEq a b
  | .lst a, .lst b => vasEq a b
  | .dic a b, .dic c d => vasEq a c && vasEq b d
  | .ref a, .ref b => a == b
  | .ty a, .ty b => a == b
  | .gl a, .gl b => a == b
  | .scr a, .scr b => a == b
  | _, _ => false
def vasEq : List Va → List Va → Bool
  | [], [] => true
  | a :: as, b :: bs => vaEq a b && vasEq as bs
  | _, _ => false
end
mutual
theorem vaEq_eq : ∀ {a b : Va}, vaEq a b = true → a = b
  | .non, b, h => by cases b <;> simp [vaEq] at h ⊢
  | .bl x, b, h => by cases b <;> simp [vaEq] at h ⊢; exact h
  | .int x, b, h => by cases b <;> simp [vaEq] at h ⊢; exact h
  | .str x, b, h => by cases b <;> simp [vaEq] at h ⊢; exact h
  | .tup x, b, h => by cases b <;> simp [vaEq] at h ⊢; exact vasEq_eq h
  | .lst x, b, h => by cases b <;> simp [vaEq] at h ⊢; exact vasEq_eq h
  | .dic x y, b, h => by cases b <;> simp [vaEq] at h ⊢; exact ⟨vasEq_eq h.1, vasEq_eq h.2⟩
  | .ref x, b, h => by cases b <;> simp [vaEq] at h ⊢; exact h
  | .ty x, b, h => by cases b <;> simp [vaEq] at h ⊢; exact h
  | .gl x, b, h => by cases b <;> simp [vaEq] at h ⊢; exact h
  | .scr x, b, h => by cases b <;> simp [vaEq] at h ⊢; exact h
theorem vasEq_eq : ∀ {a b : List Va}, vasEq a b = true → a = b
  | [], b, h => by cases b <;> simp [vasEq] at h ⊢
  | x :: xs, b, h => by cases b <;> simp [vasEq] at h ⊢; exact ⟨vaEq_eq h.1, vasEq_eq h.2⟩
end
def visB : Option NameKind → Bool
  | some .local | some .cell | some .free => true
  | _ => false
def gloB : Option NameKind → Bool
  | some .globalImplicit => true
  | _ => false
def locB : Option NameKind → Bool
  | some .local | some .cell => true
  | _ => false
def lclB : Option NameKind → Bool
  | some .local => true
  | _ => false
def dbg (x : Str) : Bool := (x == ("__debug__" : Str)) || (x == ("__classdict__" : Str)) || (x == ("__name__" : Str))
def opIs : Op → Operator → Bool
  | .add, .Add | .sub, .Sub | .mul, .Mult | .fdv, .FloorDiv | .mod, .Mod | .pow, .Pow => true
  | _, _ => false
def cmpIs (o : Op) (q : CmpOp) : Bool := match cmpOf o with
  | some p => decide (p = q)
  | none => false
def constIs (v : Va) (e : Expr) : Bool := match e with
  | .Constant .none _ _ => vaEq v .non
  | .Constant (.bool b) _ _ => vaEq v (.bl b)
  | .Constant (.int i) _ _ => vaEq v (.int i)
  | .Constant (.str x) _ _ => (match v with | .str s => x.cps.toList == s && s.all (fun c => Nat.blt c 0x110000) | _ => false)
  | _ => false
/-- a built-in function or type: its name, whether it is a type -/
def blNm : Bl → Option String
  | .len => some "len" | .all => some "all" | .any => some "any" | .max2 => some "max" | .strOf => some "str" | .intOf => some "int" | .tupOf => some "tuple" | .lstOf => some "list"
  | _ => none
def blMt : Bl → Option String
  | .join => some "join" | .split => some "split" | .get1 => some "get" | .get2 => some "get"
  | _ => none
def Ck.glo (k : Ck) (x : Str) : Bool := gloB (k.lk x) && !dbg x
def Ck.bt (k : Ck) (x : Str) : Bool := k.glo x && k.bs.contains x
def Ck.nm (k : Ck) (i : Nat) (x : Str) : Bool := decide (k.N[i]? = some x) && !dbg x
def ownP (k : Ck) (own : List Nat) : List (Str × Nat) := own.map fun i => ((k.N[i]?).getD "", i)
mutual
def cT (k : Ck) : Tg → Expr → Bool
  | .nm i, .Name x _ => k.nm i x && locB (k.lk x)
  | .tp ts, .Tuple es _ _ => cTs k ts es
  | _, _ => false
def cTs (k : Ck) : List Tg → List Expr → Bool
  | [], [] => true
  | t :: ts, e :: es => cT k t e && notStar e && cTs k ts es
  | _, _ => false
end
def isNames : List Ty → List Expr → Bool
  | [], [] => true
  | t :: ts, e :: es => (match e with | .Name y _ => decide (y = Str.ofString (tyName t)) | _ => false) && isNames ts es
  | _, _ => false
def isTup : Expr → Bool
  | .Tuple .. => true
  | _ => false
def cW (ce : List Expr → Bool) (k : Ck) (w : Wk) (tg iter : Expr) : Bool := match w with
  | .seq => ce [iter]
  | .rng1 => (match iter with | .Call (.Name x _) [a] [] _ => decide (x = "range") && k.bt x && ce [a] && plainArgs [a] | _ => false)
  | .rng2 => (match iter with | .Call (.Name x _) [a, b] [] _ => decide (x = "range") && k.bt x && ce [a, b] && plainArgs [a, b] | _ => false)
  | .enu => (match iter with | .Call (.Name x _) [a] [] _ => decide (x = "enumerate") && k.bt x && ce [a] && plainArgs [a] && isTup tg | _ => false)
  | .zip => (match iter with | .Call (.Name x _) [a, b] [] _ => decide (x = "zip") && k.bt x && ce [a, b] && plainArgs [a, b] && isTup tg | _ => false)
mutual
def cE : Ex → Ck → Expr → Bool
  | .no, k, e => false
  | .k v, k, e => constIs v e || (match e with | .Name x _ => k.glo x && (match k.cs.lookup x with | some u => vaEq u v | none => false) | _ => false)
  | .v i, k, e => (match e with | .Name x _ => k.nm i x && visB (k.lk x) | _ => false)
  | .op o a b, k, e => (match e with
    | .BinOp ea q eb _ => opIs o q && cE a k ea && cE b k eb
    | .Compare ea [q] [eb] _ => cmpIs o q && cE a k ea && cE b k eb && !behindInMarks q eb
    | _ => false)
  | .ch o o' a b c, k, e => (match e with
    | .Compare ea [q, q'] [eb, ec] _ => cmpIs o q && cmpIs o' q' && cE a k ea && cE b k eb && cE c k ec && !lastMarks [q, q'] [eb, ec]
    | _ => false)
  | .ng a, k, e => (match e with | .UnaryOp .USub ea _ => cE a k ea | _ => false)
  | .nt a, k, e => (match e with | .UnaryOp .Not ea _ => cE a k ea | _ => false)
  | .isN a, k, e => (match e with | .Compare ea [.Is] [.Constant .none _ _] _ => cE a k ea | _ => false)
  | .noN a, k, e => (match e with | .Compare ea [.IsNot] [.Constant .none _ _] _ => cE a k ea | _ => false)
  | .an a b, k, e => (match e with
    | .BoolOp .And [ea, eb] _ => cE a k ea && cE b k eb
    | .BoolOp .And (ea :: eb :: ec :: es) p => cE a k ea && cE b k (.BoolOp .And (eb :: ec :: es) p)
    | _ => false)
  | .oo a b, k, e => (match e with
    | .BoolOp .Or [ea, eb] _ => cE a k ea && cE b k eb
    | .BoolOp .Or (ea :: eb :: ec :: es) p => cE a k ea && cE b k (.BoolOp .Or (eb :: ec :: es) p)
    | _ => false)
  | .fi c a b, k, e => (match e with | .IfExp ec ea eb _ => cE c k ec && cE a k ea && cE b k eb | _ => false)
  | .tu ms, k, e => (match e with | .Tuple es _ _ => cEs ms k es && plainArgs es | _ => false)
  | .li ms, k, e => (match e with | .List es _ => cEs ms k es && plainArgs es | _ => false)
  | .lc1 ms, k, e => (match e with | .List es _ => cEs ms k es && plainArgs es | _ => false)
  | .di ks ms, k, e => (match e with
    | .Dict keys values _ => cEs ms k values && decide (keys.length = values.length) && keysOk ks && decide (keys.length = ks.length) && (ks.zip keys).all (fun p => match p.2 with | some e => isKeyE p.1 e | none => false)
    | _ => false)
  | .ix a b, k, e => (match e with | .Subscript ea eb _ => cE a k ea && cE b k eb && notSlice eb | _ => false)
  | .sl a lo hi, k, e => (match e with | .Subscript ea (.Slice l h none _) _ => cE a k ea && cO lo k l && cO hi k h | _ => false)
  | .cf f ms, k, e => (match e with | .Call (.Name x _) es [] _ => k.glo x && decide (k.fs.lookup x = some f) && cEs ms k es && plainArgs es | _ => false)
  | .cb b ms, k, e => (match e with
    | .Call (.Name x _) (e0 :: es) [] _ => (match blNm b with | some s => decide (x = Str.ofString s) && k.bt x && cEs ms k (e0 :: es) && plainArgs (e0 :: es) | none => false)
    | .Call (.Attribute o name p1) (e0 :: es) [] p2 => (match blMt b with
      | some s => decide (name = Str.ofString s) && cEs ms k (o :: e0 :: es) && plainArgs (e0 :: es) && plainBase o && Nat.blt (e0 :: es).length 30 && (p1.endLine == p2.line)
      | none => false)
    | _ => false)
  | .isi a ts, k, e => (match e with
    | .Call (.Name x _) [ea, .Name y _] [] _ => decide (x = "isinstance") && k.bt x && cE a k ea && plainArgs [ea] && (match ts with | [t] => decide (y = Str.ofString (tyName t)) && k.bt y | _ => false)
    | .Call (.Name x _) [ea, .Tuple es _ _] [] _ => decide (x = "isinstance") && k.bt x && cE a k ea && plainArgs [ea] && !ts.isEmpty && Nat.blt ts.length 100 && ts.all (fun t => k.bt (tyName t)) && isNames ts es
    | _ => false)
  | .lc own m t w ms cs, k, e => (match e with
    | .ListComp elt [⟨tg, iter, ifs, 0⟩] scope _ => blkC k.N k.sc scope (ownP k own) && tgIn own t && cT (k.blk scope) t tg && cE m (k.blk scope) elt && cEs cs (k.blk scope) ifs && Nat.blt ifs.length 2 && noSet iter &&
        cW (fun l => cEs ms k l) k w tg iter
    | _ => false)
def cEs : Exs → Ck → List Expr → Bool
  | .nil, k, es => es.isEmpty
  | .cons m ms, k, es => (match es with | e :: es => cE m k e && cEs ms k es | [] => false)
def cO : Exo → Ck → Option Expr → Bool
  | .none, k, e => e.isNone
  | .some m, k, e => (match e with | some e => cE m k e | none => false)
end
end Mp

set_option autoImplicit false
/-! Mp13: .. and what it tells, for expressions -/
namespace Mp
open PySem L2
structure FnP (X : Cx) (gn : List Str) (C : Call) (f : Nat) (x : Str) : Prop where
  ok : ∃ k, C8.Cal X.prog X.w X.K X.mg X.base k x (spM (seX X gn) C f) [] ∧ Room k X.A
structure Cok (X : Cx) (gn : List Str) (C : Call) (k : Ck) : Prop where
  N : X.N = k.N
  nod : X.N.Nodup
  kf : X.env.scope.kind = .function
  calm : X.calm = true
  un : X.A.units + 65 < cLine
  lo : ∀ x, k.lk x = some .local → X.env.scope.names.lookup x = some .local
  ce : ∀ x, k.lk x = some .cell → X.env.scope.names.lookup x = some .cell
  fr : ∀ x, k.lk x = some .free → X.env.scope.names.lookup x = some .cell ∨ X.env.scope.names.lookup x = some .free
  gl : ∀ x, k.lk x = some .globalImplicit → X.env.kindOf x = some .globalImplicit
  fn : ∀ x, k.lk x = some .cell → X.fn x = true
  cs : ∀ x v, k.cs.lookup x = some v → ∃ (u : Value) (y : V), X.mg x = some u ∧ RelV y u ∧ ∀ W, RV (seX X gn) W v y
  fs : ∀ x f, k.fs.lookup x = some f → FnP X gn C f x
  bs : ∀ x, x ∈ k.bs → X.mg x = none
theorem dbg_no {x : Str} (h : dbg x = false) : (x == ("__debug__" : Str)) = false ∧ (x == ("__classdict__" : Str)) = false ∧ x ≠ "__name__" := by
  unfold dbg at h
  simp only [Bool.or_eq_false_iff] at h
  exact ⟨h.1.1, h.1.2, fun e => by subst e; simp at h⟩
theorem gloB_eq {o : Option NameKind} (h : gloB o = true) : o = some .globalImplicit := by
  unfold gloB at h
  split at h
  · rfl
  · cases h
section
variable {X : Cx} {gn : List Str} {C : Call} {k : Ck}
theorem Cok.glo (ok : Cok X gn C k) {x : Str} (h : k.glo x = true) : Gl X x ∧ dbg x = false := by
  unfold Ck.glo at h
  simp only [Bool.and_eq_true, Bool.not_eq_true'] at h
  exact ⟨ok.gl x (gloB_eq h.1), h.2⟩
theorem Cok.bt (ok : Cok X gn C k) {x : Str} (h : k.bt x = true) : BtM X x ∧ dbg x = false := by
  unfold Ck.bt at h
  simp only [Bool.and_eq_true, List.contains_iff_mem] at h
  obtain ⟨g, d⟩ := ok.glo h.1
  exact ⟨⟨g, ok.bs x h.2⟩, d⟩
theorem Cok.nm (ok : Cok X gn C k) {i : Nat} {x : Str} (h : k.nm i x = true) : X.N[i]? = some x ∧ dbg x = false := by
  unfold Ck.nm at h
  simp only [Bool.and_eq_true, Bool.not_eq_true', decide_eq_true_eq] at h
  rw [ok.N]
  exact h
theorem Cok.vis (ok : Cok X gn C k) {x : Str} (h : visB (k.lk x) = true) : Vis X.env.scope x := by
  unfold visB at h
  split at h
  · rename_i e; exact .inl (ok.lo x e)
  · rename_i e; exact .inr (.inl (ok.ce x e))
  · rename_i e; exact .inr (ok.fr x e)
  · cases h
theorem Cok.loc (ok : Cok X gn C k) {x : Str} (h : locB (k.lk x) = true) : L2.Loc X.env.scope x ∧ (X.fn x = true ∨ X.env.scope.names.lookup x = some .local) := by
  unfold locB at h
  split at h
  · rename_i e; exact ⟨.inl (ok.lo x e), .inr (ok.lo x e)⟩
  · rename_i e; exact ⟨.inr (ok.ce x e), .inl (ok.fn x e)⟩
  · cases h
theorem Cok.fnM (ok : Cok X gn C k) {x : Str} {f : Nat} (h : k.glo x = true) (hf : k.fs.lookup x = some f) : FnM X gn C f x := by
  obtain ⟨g, d⟩ := ok.glo h
  obtain ⟨j, ⟨a, fd, ps, ds, F, hm, hk, hb, hv⟩, hr⟩ := (ok.fs x f hf).ok
  cases hv
  exact ⟨g, (dbg_no d).1, C8.CX0, j, a, fd, ps, C8.E0, F, hr, hm, hk, hb, C8.pass0⟩
theorem lk_map {f : Str → NameKind → NameKind} : ∀ (names : List (Str × NameKind)) (x : Str), (names.map fun (n, k) => (n, f n k)).lookup x = (names.lookup x).map (f x)
  | [], x => rfl
  | (n, k) :: r, x => by
    show List.lookup x ((n, f n k) :: _) = _
    simp only [List.lookup_cons]
    cases h : x == n with
    | true =>
      have : x = n := by simpa using h
      subst this
      rfl
    | false => exact lk_map r x
theorem relabel_lk (scope : Scope) (env : Env) (x : Str) : (relabel scope env).names.lookup x = (scope.names.lookup x).map fun k => if (k == .free && env.scope.kind == .function && env.kindOf x == some .cell) = true then NameKind.cell else k := by
  have e : (relabel scope env).names = scope.names.map fun (n, k) => (n, if (k == .free && env.scope.kind == .function && env.kindOf n == some .cell) = true then NameKind.cell else k) := by
    unfold relabel
    apply List.map_congr_left
    rintro ⟨n, q⟩ _
    dsimp only
    split <;> rfl
  rw [e]
  exact lk_map (f := fun n k => if (k == .free && env.scope.kind == .function && env.kindOf n == some .cell) = true then NameKind.cell else k) _ _
theorem Cok.blkOk (ok : Cok X gn C k) {scope : Scope} {own : List (Str × Nat)} (hb : blkC k.N k.sc scope own = true) : BlkOk X.N X.env.scope scope own := by
  have b := blkOk_by hb
  refine ⟨b.kind, b.uniq, by rw [ok.N]; exact b.ix, fun y hy e => ?_, by rw [ok.N]; exact b.own⟩
  rcases b.free y hy e with h | h
  · exact .inl (ok.ce _ h)
  · exact ok.fr _ h
theorem Cok.blk (ok : Cok X gn C k) {scope : Scope} {own : List (Str × Nat)} (hb : blkC k.N k.sc scope own = true) (s : Shared) (H : L2.Hp) (D : Addr) (cl : List (Str × Addr)) (fp : List Addr) :
    Cok (X.blk s H scope (compEnvC scope cl D X.env) fp) gn C (k.blk scope) := by
  have b := blkOk_by hb
  · refine ⟨ok.N, ok.nod, b.kind, ok.calm, ok.un, fun x h => ?_, fun x h => ?_, fun x h => ?_, fun x h => ?_, fun x h => ?_, ok.cs, fun x f h => ⟨(ok.fs x f h).ok⟩, ok.bs⟩
    · show (relabel scope X.env).names.lookup x = _
      rw [relabel_lk, show scope.names.lookup x = _ from h]
      rfl
    · show (relabel scope X.env).names.lookup x = _
      rw [relabel_lk, show scope.names.lookup x = _ from h]
      rfl
    · show (relabel scope X.env).names.lookup x = _ ∨ (relabel scope X.env).names.lookup x = _
      rw [relabel_lk, show scope.names.lookup x = _ from h]
      simp only [Option.map_some]
      split
      · exact .inl rfl
      · exact .inr rfl
    · show (relabel scope X.env).names.lookup x = _
      rw [relabel_lk, show scope.names.lookup x = _ from h]
      rfl
    · show (scope.names.lookup x == some .cell) = true
      rw [show scope.names.lookup x = _ from h]
      rfl
theorem opIs_eq {o : Op} {q : Operator} (h : opIs o q = true) : pyOp o = binaryOp q := by
  unfold opIs at h
  split at h <;> first | rfl | cases h
theorem cmpIs_eq {o : Op} {q : CmpOp} (h : cmpIs o q = true) : cmpOf o = some q := by
  unfold cmpIs at h
  split at h
  · rename_i p e
    rw [e, of_decide_eq_true h]
  · cases h
theorem const_pe {v : Va} {e : Expr} (h : constIs v e = true) : ∃ y, PE X e (tC y) ∧ ∀ W, RV (seX X gn) W v y := by
  unfold constIs at h
  split at h
  · rw [vaEq_eq h]; exact ⟨.non, pe_non, fun _ => .non⟩
  · rw [vaEq_eq h]; exact ⟨.bl _, pe_bl, fun _ => .bl _⟩
  · rw [vaEq_eq h]; exact ⟨.int _, pe_int, fun _ => .int _⟩
  · rename_i x _ _
    split at h
    · rename_i s
      simp only [Bool.and_eq_true, beq_iff_eq, List.all_eq_true] at h
      have hx : x = strS s := by
        rw [← h.1]
        rcases x with ⟨a⟩
        simp [strS]
      rw [hx]
      exact ⟨.str (strS s), pe_str, fun _ => .str s fun c hc => Nat.le_of_ble_eq_true (h.2 c hc)⟩
    · cases h
  · cases h

mutual
theorem cT_sound (ok : Cok X gn C k) : ∀ {t : Tg} {e : Expr}, cT k t e = true → PG X e (tG (seX X gn) t)
  | .nm i, e, h => by
    cases e <;> simp only [cT, Bool.false_eq_true] at h
    simp only [Bool.and_eq_true] at h
    obtain ⟨hi, d⟩ := ok.nm h.1
    obtain ⟨l1, l2⟩ := ok.loc h.2
    exact g_nm ok.nod hi l1 l2
  | .tp ts, e, h => by
    cases e <;> simp only [cT, Bool.false_eq_true] at h
    obtain ⟨h1, h2, h3⟩ := cTs_sound ok h
    exact g_tp ok.calm h1 h2 h3
theorem cTs_sound (ok : Cok X gn C k) : ∀ {ts : List Tg} {es : List Expr}, cTs k ts es = true → PGs X es (tGs (seX X gn) ts) ∧ es.all notStar = true ∧ es.length = ts.length
  | [], [], _ => ⟨gs_nil, rfl, rfl⟩
  | [], _ :: _, h => by simp [cTs] at h
  | _ :: _, [], h => by simp [cTs] at h
  | t :: ts, e :: es, h => by
    simp only [cTs, Bool.and_eq_true] at h
    obtain ⟨h1, h2, h3⟩ := cTs_sound ok h.2
    exact ⟨gs_cons (cT_sound ok h.1.1) h1 h.1.2, by simp [h.1.2, h2], by simp [h3]⟩
end
def PB (X : Cx) (gn : List Str) (C : Call) (e : Expr) (m : Ex) : Prop := PE X e (tM (seX X gn) C m) ∧ PT X e (tT (seX X gn) C m)
def AllPB (X : Cx) (gn : List Str) (C : Call) : List Expr → Exs → Prop
  | [], .nil => True
  | e :: es, .cons m ms => PB X gn C e m ∧ AllPB X gn C es ms
  | _, _ => False
theorem pb_of {e : Expr} {m : Ex} (h : PE X e (tM (seX X gn) C m)) (he : ∀ whole, isTrue e X.env whole = (do let v ← whole; standAt e.pos; holding [v] (truthy v))) : PB X gn C e m := ⟨h, q_any h he⟩
theorem plain_tail {e : Expr} {es : List Expr} (h : plainArgs (e :: es) = true) : plainArgs es = true := by
  unfold plainArgs at *
  simp only [List.all_cons, Bool.and_eq_true] at h
  exact h.2
theorem args_of : ∀ {es : List Expr} {ms : Exs}, AllPB X gn C es ms → plainArgs es = true → PA X es (tMs (seX X gn) C ms)
  | [], .nil, _, _ => a_nil
  | [], .cons _ _, h, _ => h.elim
  | _ :: _, .nil, h, _ => h.elim
  | e :: es, .cons m ms, h, hp => a_cons h.1.1 (args_of h.2 (plain_tail hp)) hp
theorem pw_of {op : BoolOp} {es : List Expr} {p : Pos} {t : TT} (h : PT X (.BoolOp op es p) t) : PW X (.BoolOp op es p) t := ⟨fun wh => h.run⟩
theorem iter_sound (ok : Cok X gn C k) {ms : Exs} {w : Wk} {tg iter : Expr} (hall : ∀ es, cEs ms k es = true → AllPB X gn C es ms) (h : cW (fun l => cEs ms k l) k w tg iter = true) : PI X tg iter (tW (seX X gn) C w ms) := by
  cases w <;> simp only [cW] at h
  case seq =>
    have a := hall _ h
    cases ms with
    | nil => exact a.elim
    | cons m ms =>
      cases ms with
      | nil => exact i_seq a.1.1
      | cons _ _ => exact a.2.elim
  case rng1 =>
    split at h <;> first | (cases h; done) | skip
    simp only [Bool.and_eq_true, decide_eq_true_eq] at h
    obtain ⟨⟨⟨rfl, hb⟩, hc⟩, hp⟩ := h
    exact i_rng1 (ok.bt hb).1 (args_of (hall _ hc) hp) hp
  case rng2 =>
    split at h <;> first | (cases h; done) | skip
    simp only [Bool.and_eq_true, decide_eq_true_eq] at h
    obtain ⟨⟨⟨rfl, hb⟩, hc⟩, hp⟩ := h
    exact i_rng2 (ok.bt hb).1 (args_of (hall _ hc) hp) hp
  case enu =>
    split at h <;> first | (cases h; done) | skip
    simp only [Bool.and_eq_true, decide_eq_true_eq] at h
    obtain ⟨⟨⟨⟨rfl, hb⟩, hc⟩, hp⟩, ht⟩ := h
    unfold isTup at ht
    split at ht
    · exact i_enu (ok.bt hb).1 (args_of (hall _ hc) hp) hp
    · cases ht
  case zip =>
    split at h <;> first | (cases h; done) | skip
    simp only [Bool.and_eq_true, decide_eq_true_eq] at h
    obtain ⟨⟨⟨⟨rfl, hb⟩, hc⟩, hp⟩, ht⟩ := h
    unfold isTup at ht
    split at ht
    · exact i_zip (ok.bt hb).1 (args_of (hall _ hc) hp) hp
    · cases ht
theorem bl_sound (ok : Cok X gn C k) {b : Bl} {s : String} {ms : Exs} {x : Str} {p pos : Pos} {e : Expr} {es : List Expr} (hs : blNm b = some s) (hx : x = Str.ofString s) (hb : k.bt x = true) (ha : PA X (e :: es) (tMs (seX X gn) C ms)) (hp : plainArgs (e :: es) = true) :
    PE X (.Call (.Name x p) (e :: es) [] pos) (tM (seX X gn) C (.cb b ms)) := by
  obtain ⟨B, d⟩ := ok.bt hb
  obtain ⟨d1, d2, d3⟩ := dbg_no d
  subst hx
  cases b <;> simp only [blNm, Option.some.injEq, reduceCtorEq] at hs <;> subst hs
  · exact p_cbB B (by first | decide +kernel | kernel_rfl) d3 d1 b_len ha hp
  · exact p_cbB B (by first | decide +kernel | kernel_rfl) d3 d1 (b_all ok.calm) ha hp
  · exact p_cbB B (by first | decide +kernel | kernel_rfl) d3 d1 (b_any ok.calm) ha hp
  · exact p_cbB B (by first | decide +kernel | kernel_rfl) d3 d1 (b_max2 ok.calm) ha hp
  · exact p_cbT B (by first | decide +kernel | kernel_rfl) d3 d1 b_str ha hp
  · exact p_cbT B (by first | decide +kernel | kernel_rfl) d3 d1 b_int ha hp
  · exact p_cbT B (by first | decide +kernel | kernel_rfl) d3 d1 b_tup ha hp
  · exact p_cbT B (by first | decide +kernel | kernel_rfl) d3 d1 b_lst ha hp
theorem dr_ref {h : Hp} {n : Nat} : (∃ xs, dr h (.ref n) = .lst xs) ∨ dr h (.ref n) = .ref n := by
  rcases dr_cases h (.ref n) with ⟨m, xs, _, _, e⟩ | e
  · exact .inl ⟨xs, e⟩
  · exact .inr e
theorem str_first {b : Bl} (hb : b = .join ∨ b = .split) {u : Va} {us : List Va} {v : Va} (e : blv b (u :: us) = some v) : ∃ a, u = .str a := by
  rcases hb with rfl | rfl <;> unfold blv at e <;> split at e <;> first | (cases e; done) | skip
  all_goals
    first
      | (rename_i h1 h2; cases h1; done)
      | (rename_i h1 h2; cases h2; exact ⟨_, rfl⟩)
      | (rename_i h1; cases h1; exact ⟨_, rfl⟩)
theorem dic_first {b : Bl} (hb : b = .get1 ∨ b = .get2) {u : Va} {us : List Va} {v : Va} (e : blv b (u :: us) = some v) : ∃ ks vs, u = .dic ks vs := by
  rcases hb with rfl | rfl <;> unfold blv at e <;> split at e <;> first | (cases e; done) | skip
  all_goals
    first
      | (rename_i h1 h2; cases h1; done)
      | (rename_i h1 h2; cases h2; exact ⟨_, _, rfl⟩)
      | (rename_i h1; cases h1; exact ⟨_, _, rfl⟩)
theorem mt_sound (ok : Cok X gn C k) {b : Bl} {s : String} {m : Ex} {ms : Exs} {name : Str} {p1 p2 : Pos} {o e : Expr} {es : List Expr} (hs : blMt b = some s) (hx : name = Str.ofString s) (ho : PE X o (tM (seX X gn) C m)) (ha : PA X (e :: es) (tMs (seX X gn) C ms)) (hp : plainArgs (e :: es) = true)
    (hb : plainBase o = true) (hfew : (e :: es).length < 30) (hline : (p1.endLine == p2.line) = true) : PE X (.Call (.Attribute o name p1) (e :: es) [] p2) (tM (seX X gn) C (.cb b (.cons m ms))) := by
  subst hx
  have strT : (b = .join ∨ b = .split) → ∀ (W : Wd) (u : Va) (x : V) (us : List Va) (h' : Hp) (v : Va), RH (seX X gn) W → RV (seX X gn) W u x → blv b (dr h' u :: us) = some v → (∀ (hh : Hp), dr hh u = u) → tyM (seX X gn) "str" x W.H := fun hb W u x us h' v R r e hd => by
    obtain ⟨a, ea⟩ := str_first hb e
    rw [hd] at ea
    subst ea
    obtain ⟨rfl, _⟩ := r.strE
    exact .inl rfl
  have dicT : (b = .get1 ∨ b = .get2) → ∀ (W : Wd) (u : Va) (x : V) (us : List Va) (h' : Hp) (v : Va), RH (seX X gn) W → RV (seX X gn) W u x → blv b (dr h' u :: us) = some v → (∀ (hh : Hp), dr hh u = u) → tyM (seX X gn) "dict" x W.H := fun hb W u x us h' v R r e hd => by
    obtain ⟨ks, vs, ea⟩ := dic_first hb e
    rw [hd] at ea
    subst ea
    cases r with
    | dicH e1 n ek rr nd ne => exact .inl (.inr (.inr (.inl ⟨rfl, .inl ⟨_, e1⟩⟩)))
    | dicK D kk l rr => exact .inr ⟨rfl, _, _, _, rfl, D⟩
  have nr1 : (b = .join ∨ b = .split) → ∀ (u : Va) (us : List Va) (h' : Hp) (v : Va), blv b (dr h' u :: us) = some v → ∀ n, u ≠ .ref n := fun hb u us h' v e n en => by
    subst en
    obtain ⟨a, ea⟩ := str_first hb e
    rcases dr_ref (h := h') (n := n) with ⟨xs, q⟩ | q <;> rw [q] at ea <;> cases ea
  have nr2 : (b = .get1 ∨ b = .get2) → ∀ (u : Va) (us : List Va) (h' : Hp) (v : Va), blv b (dr h' u :: us) = some v → ∀ n, u ≠ .ref n := fun hb u us h' v e n en => by
    subst en
    obtain ⟨ks, vs, ea⟩ := dic_first hb e
    rcases dr_ref (h := h') (n := n) with ⟨xs, q⟩ | q <;> rw [q] at ea <;> cases ea
  cases b <;> simp only [blMt, Option.some.injEq, reduceCtorEq] at hs <;> subst hs
  · exact p_bm PySem.F.plainAttrs_str PySem.F.slot_str_join PySem.F.type_str_join m_join (strT (.inl rfl)) (nr1 (.inl rfl)) ho ha hb hp hfew hline
  · exact p_bm PySem.F.plainAttrs_str PySem.F.slot_str_split PySem.F.type_str_split m_split (strT (.inr rfl)) (nr1 (.inr rfl)) ho ha hb hp hfew hline
  · exact p_bm PySem.F.plainAttrs_dict PySem.F.slot_dict_get PySem.F.type_dict_get (m_get1 ok.un) (dicT (.inl rfl)) (nr2 (.inl rfl)) ho ha hb hp hfew hline
  · exact p_bm PySem.F.plainAttrs_dict PySem.F.slot_dict_get PySem.F.type_dict_get (m_get2 ok.un) (dicT (.inr rfl)) (nr2 (.inr rfl)) ho ha hb hp hfew hline
end
end Mp

set_option autoImplicit false
/-! Mp14: the look is sound, expressions -/
namespace Mp
open PySem L2
theorem isNames_eq : ∀ {ts : List Ty} {es : List Expr}, isNames ts es = true → es.map (fun e => match e with | .Name x _ => x | _ => "") = ts.map (fun t => (tyName t : Str)) ∧ (es.all fun e => match e with | .Name _ _ => true | _ => false) = true
  | [], [], _ => ⟨rfl, rfl⟩
  | [], _ :: _, h => by simp [isNames] at h
  | _ :: _, [], h => by simp [isNames] at h
  | t :: ts, e :: es, h => by
    simp only [isNames, Bool.and_eq_true] at h
    obtain ⟨h1, h2⟩ := isNames_eq h.2
    cases e <;> simp only [Bool.false_eq_true, decide_eq_true_eq] at h
    · exact h.1.elim
    all_goals first | exact h.1.elim | skip
    exact ⟨by simp [h1, h.1], by simp [h2]⟩
mutual
theorem cE_sound : ∀ (m : Ex) {X : Cx} {gn : List Str} {C : Call} {k : Ck} {e : Expr}, Cok X gn C k → cE m k e = true → PB X gn C e m
  | .no, X, gn, C, k, e, ok, h => by simp [cE] at h
  | .k v, X, gn, C, k, e, ok, h => by
    simp only [cE, Bool.or_eq_true] at h
    rcases h with h | h
    · obtain ⟨y, hp, r⟩ := const_pe (X := X) (gn := gn) h
      refine pb_of (p_k hp r) fun w => ?_
      unfold constIs at h
      split at h <;> first | rfl | cases h
    · split at h
      · rename_i x _
        simp only [Bool.and_eq_true] at h
        obtain ⟨g, d⟩ := ok.glo h.1
        split at h
        · rename_i u eu
          obtain ⟨w, y, hm, r, rv⟩ := ok.cs x u eu
          have := vaEq_eq h.2
          subst this
          exact pb_of (p_k (pe_glob g hm r (dbg_no d).1) rv) fun _ => rfl
        · cases h.2
      · cases h
  | .v i, X, gn, C, k, e, ok, h => by
    simp only [cE] at h
    split at h
    · simp only [Bool.and_eq_true] at h
      obtain ⟨hi, d⟩ := ok.nm h.1
      exact pb_of (p_var hi (ok.vis h.2) (dbg_no d).1 (dbg_no d).2.1) fun _ => rfl
    · cases h
  | .op o a b, X, gn, C, k, e, ok, h => by
    simp only [cE] at h
    split at h
    · simp only [Bool.and_eq_true] at h
      exact pb_of (p_op (opIs_eq h.1.1) ok.un (cE_sound a ok h.1.2).1 (cE_sound b ok h.2).1) fun _ => rfl
    · simp only [Bool.and_eq_true, Bool.not_eq_true'] at h
      have ha := (cE_sound a ok h.1.1.2).1
      have hb := (cE_sound b ok h.1.2).1
      exact ⟨p_cmp (cmpIs_eq h.1.1.1) ok.un ha hb h.2, q_cmp (cmpIs_eq h.1.1.1) ok.un ha hb h.2⟩
    · cases h
  | .ch o o' a b c, X, gn, C, k, e, ok, h => by
    simp only [cE] at h
    split at h
    · simp only [Bool.and_eq_true, Bool.not_eq_true'] at h
      obtain ⟨⟨⟨⟨⟨h1, h2⟩, h3⟩, h4⟩, h5⟩, h6⟩ := h
      have ha := (cE_sound a ok h3).1
      have hb := (cE_sound b ok h4).1
      have hc := (cE_sound c ok h5).1
      exact ⟨p_ch (cmpIs_eq h1) (cmpIs_eq h2) ok.un ha hb hc h6, q_ch (cmpIs_eq h1) (cmpIs_eq h2) ok.un ha hb hc h6⟩
    · cases h
  | .ng a, X, gn, C, k, e, ok, h => by
    simp only [cE] at h
    split at h
    · exact pb_of (p_ng (cE_sound a ok h).1) fun _ => rfl
    · cases h
  | .nt a, X, gn, C, k, e, ok, h => by
    simp only [cE] at h
    split at h
    · exact ⟨p_nt (cE_sound a ok h).1, q_nt (cE_sound a ok h).2⟩
    · cases h
  | .isN a, X, gn, C, k, e, ok, h => by
    simp only [cE] at h
    split at h
    · exact ⟨p_isN (cE_sound a ok h).1, q_isN (cE_sound a ok h).1⟩
    · cases h
  | .noN a, X, gn, C, k, e, ok, h => by
    simp only [cE] at h
    split at h
    · exact ⟨p_noN (cE_sound a ok h).1, q_noN (cE_sound a ok h).1⟩
    · cases h
  | .an a b, X, gn, C, k, e, ok, h => by
    simp only [cE] at h
    split at h
    · simp only [Bool.and_eq_true] at h
      obtain ⟨a1, a2⟩ := cE_sound a ok h.1
      obtain ⟨b1, b2⟩ := cE_sound b ok h.2
      exact ⟨p_an a1 (pe_one b1), (q_an a2 (pw_and1 b2)).pt⟩
    · simp only [Bool.and_eq_true] at h
      obtain ⟨a1, a2⟩ := cE_sound a ok h.1
      obtain ⟨b1, b2⟩ := cE_sound b ok h.2
      exact ⟨p_an a1 b1, (q_an a2 (pw_of b2)).pt⟩
    · cases h
  | .oo a b, X, gn, C, k, e, ok, h => by
    simp only [cE] at h
    split at h
    · simp only [Bool.and_eq_true] at h
      obtain ⟨a1, a2⟩ := cE_sound a ok h.1
      obtain ⟨b1, b2⟩ := cE_sound b ok h.2
      exact ⟨p_oo a1 (pe_one b1), (q_oo a2 (pw_or1 b2)).pt⟩
    · simp only [Bool.and_eq_true] at h
      obtain ⟨a1, a2⟩ := cE_sound a ok h.1
      obtain ⟨b1, b2⟩ := cE_sound b ok h.2
      exact ⟨p_oo a1 b1, (q_oo a2 (pw_of b2)).pt⟩
    · cases h
  | .fi c a b, X, gn, C, k, e, ok, h => by
    simp only [cE] at h
    split at h
    · simp only [Bool.and_eq_true] at h
      obtain ⟨c1, c2⟩ := cE_sound c ok h.1.1
      obtain ⟨a1, a2⟩ := cE_sound a ok h.1.2
      obtain ⟨b1, b2⟩ := cE_sound b ok h.2
      exact ⟨p_fi c2 a1 b1, q_fi c2 a2 b2⟩
    · cases h
  | .tu ms, X, gn, C, k, e, ok, h => by
    simp only [cE] at h
    split at h
    · simp only [Bool.and_eq_true] at h
      exact pb_of (p_tu (args_of (cEs_sound ms ok h.1) h.2)) fun _ => rfl
    · cases h
  | .li ms, X, gn, C, k, e, ok, h => by
    simp only [cE] at h
    split at h
    · simp only [Bool.and_eq_true] at h
      exact pb_of (p_li (args_of (cEs_sound ms ok h.1) h.2)) fun _ => rfl
    · cases h
  | .lc1 ms, X, gn, C, k, e, ok, h => by
    simp only [cE] at h
    split at h
    · simp only [Bool.and_eq_true] at h
      exact pb_of (p_lc1 (args_of (cEs_sound ms ok h.1) h.2)) fun _ => rfl
    · cases h
  | .di ks ms, X, gn, C, k, e, ok, h => by
    simp only [cE] at h
    split at h
    · rename_i keys values pos
      simp only [Bool.and_eq_true, decide_eq_true_eq] at h
      obtain ⟨⟨⟨⟨h1, h2⟩, h3⟩, h4⟩, h5⟩ := h
      have all := cEs_sound ms ok h1
      have pps : ∀ {ks : List Va} {keys : List (Option Expr)} {values : List Expr} {ms : Exs}, AllPB X gn C values ms → keys.length = values.length → keys.length = ks.length → ((ks.zip keys).all fun p => match p.2 with | some e => isKeyE p.1 e | none => false) = true → PPs X pos keys values (trsM (seX X gn) C ks ms) ∧ keys.map (fun o => o.isSome) = ks.map (fun _ => true) := by
        intro ks
        induction ks with
        | nil =>
          intro keys values ms a l1 l2 z
          have : keys = [] := List.length_eq_zero_iff.mp l2
          subst this
          have : values = [] := List.length_eq_zero_iff.mp l1.symm
          subst this
          exact ⟨by cases ms <;> exact pps_nil, rfl⟩
        | cons q ks ih =>
          intro keys values ms a l1 l2 z
          match keys, values, ms, a, l1, l2, z with
          | o :: keys, v :: values, .cons m ms, a, l1, l2, z =>
            simp only [List.zip_cons_cons, List.all_cons, Bool.and_eq_true] at z
            obtain ⟨i1, i2⟩ := ih a.2 (by simpa using l1) (by simpa using l2) z.2
            cases o with
            | none => cases z.1
            | some ek => exact ⟨pps_c (show isKeyE q ek = true from z.1) a.1.1 i1, by simp [i2]⟩
          | _ :: _, [], _, _, l1, _, _ => simp at l1
          | [], _, _, _, _, l2, _ => simp at l2
          | _ :: _, _ :: _, .nil, a, _, _, _ => exact a.elim
      obtain ⟨p1, p2⟩ := pps all h2 h4 h5
      exact pb_of (p_di p1 p2 h5 h3 h2) fun _ => rfl
    · cases h
  | .ix a b, X, gn, C, k, e, ok, h => by
    simp only [cE] at h
    split at h
    · simp only [Bool.and_eq_true] at h
      exact pb_of (p_ix ok.un (cE_sound a ok h.1.1).1 (cE_sound b ok h.1.2).1 (plain_ix h.2)) fun _ => rfl
    · cases h
  | .sl a lo hi, X, gn, C, k, e, ok, h => by
    simp only [cE] at h
    split at h
    · simp only [Bool.and_eq_true] at h
      exact pb_of (p_sl (cE_sound a ok h.1.1).1 (cO_sound lo ok h.1.2) (cO_sound hi ok h.2)) fun _ => rfl
    · cases h
  | .cf f ms, X, gn, C, k, e, ok, h => by
    simp only [cE] at h
    split at h
    · rename_i x _ es _
      simp only [Bool.and_eq_true, decide_eq_true_eq] at h
      have F := ok.fnM h.1.1.1 h.1.1.2
      have all := cEs_sound ms ok h.1.2
      cases es with
      | nil =>
        cases ms with
        | nil => exact pb_of (p_cf0 F) fun _ => rfl
        | cons _ _ => exact all.elim
      | cons e0 es => exact pb_of (p_cf F (args_of all h.2) h.2) fun _ => rfl
    · cases h
  | .cb b ms, X, gn, C, k, e, ok, h => by
    simp only [cE] at h
    split at h
    · split at h
      · rename_i s es
        simp only [Bool.and_eq_true, decide_eq_true_eq] at h
        obtain ⟨⟨⟨h1, h2⟩, h3⟩, h4⟩ := h
        exact pb_of (bl_sound ok es h1 h2 (args_of (cEs_sound ms ok h3) h4) h4) fun _ => rfl
      · cases h
    · split at h
      · rename_i s es
        simp only [Bool.and_eq_true, decide_eq_true_eq] at h
        obtain ⟨⟨⟨⟨⟨h1, h2⟩, h3⟩, h4⟩, h5⟩, h6⟩ := h
        have all := cEs_sound ms ok h2
        cases ms with
        | nil => exact all.elim
        | cons m ms => exact pb_of (mt_sound ok es h1 all.1.1 (args_of all.2 h3) h3 h4 (Nat.le_of_ble_eq_true h5) h6) fun _ => rfl
      · cases h
    · cases h
  | .isi a ts, X, gn, C, k, e, ok, h => by
    simp only [cE] at h
    split at h
    · rename_i x _ ea y _ _
      simp only [Bool.and_eq_true, decide_eq_true_eq] at h
      obtain ⟨⟨⟨⟨h1, h2⟩, h3⟩, h4⟩, h5⟩ := h
      subst h1
      split at h5
      · rename_i t
        simp only [Bool.and_eq_true, decide_eq_true_eq] at h5
        obtain ⟨h6, h7⟩ := h5
        subst h6
        exact pb_of (p_isi1 (ok.bt h2).1 (ok.bt h7).1 (cE_sound a ok h3).1 h4) fun _ => rfl
      · cases h5
    · rename_i x _ ea es _ _ _
      simp only [Bool.and_eq_true, decide_eq_true_eq, Bool.not_eq_true', List.all_eq_true] at h
      obtain ⟨⟨⟨⟨⟨⟨⟨h1, h2⟩, h3⟩, h4⟩, h5⟩, h6⟩, h7⟩, h8⟩ := h
      subst h1
      obtain ⟨n1, n2⟩ := isNames_eq h8
      exact pb_of (p_isiN (ok.bt h2).1 (fun t ht => (ok.bt (h7 t ht)).1) (Nat.le_of_ble_eq_true h6) (by intro z; subst z; cases h5) n1 n2 (cE_sound a ok h3).1 h4) fun _ => rfl
    · cases h
  | .lc own m t w ms cs, X, gn, C, k, e, ok, h => by
    simp only [cE] at h
    split at h
    · rename_i elt tg iter ifs scope pos0
      simp only [Bool.and_eq_true] at h
      obtain ⟨⟨⟨⟨⟨⟨⟨h1, h2⟩, h3⟩, h4⟩, h5⟩, h6⟩, h7⟩, h8⟩ := h
      have eo : (ownP k own).map (·.2) = own := by unfold ownP; rw [List.map_map]; exact List.map_id' _
      have hi := iter_sound ok (fun es he => cEs_sound ms ok he) h8
      have b := fun s H D cl fp => ok.blk h1 s H D cl fp
      have ht : ∀ (s : Shared) (H : L2.Hp) (D : Addr) (cl : List (Str × Addr)) (fp : List Addr), PTs (X.blk s H scope (compEnvC scope cl D X.env) fp) ifs (tTs (seX X gn) C cs) := fun s H D cl fp => by
        have all := cEs_sound cs (b s H D cl fp) h5
        match ifs, cs, all, h6 with
        | [], .nil, _, _ => exact ts_nil
        | [c], .cons m .nil, all, _ => exact ts_one all.1.2
        | [], .cons _ _, all, _ => exact all.elim
        | _ :: _, .nil, all, _ => exact all.elim
        | [_], .cons _ (.cons _ _), all, _ => exact all.2.elim
        | _ :: _ :: _, _, _, h6 => simp [Nat.blt] at h6
      have key := p_lc (pos := pos0) (own := ownP k own) (m := m) (t := t) (ms := ms) (w := w) (cs := cs) ok.calm ok.nod hi (ok.blkOk h1) (by rw [eo]; exact h2) (fun s H D cl fp => cT_sound (b s H D cl fp) h3) ht (fun s H D cl fp => (cE_sound m (b s H D cl fp) h4).1) h7
      rw [eo] at key
      exact pb_of key fun _ => rfl
    · cases h
theorem cEs_sound : ∀ (ms : Exs) {X : Cx} {gn : List Str} {C : Call} {k : Ck} {es : List Expr}, Cok X gn C k → cEs ms k es = true → AllPB X gn C es ms
  | .nil, X, gn, C, k, es, ok, h => by
    cases es with
    | nil => exact True.intro
    | cons _ _ => simp [cEs] at h
  | .cons m ms, X, gn, C, k, es, ok, h => by
    cases es with
    | nil => simp [cEs] at h
    | cons e es =>
      simp only [cEs, Bool.and_eq_true] at h
      exact ⟨cE_sound m ok h.1, cEs_sound ms ok h.2⟩
theorem cO_sound : ∀ (m : Exo) {X : Cx} {gn : List Str} {C : Call} {k : Ck} {e : Option Expr}, Cok X gn C k → cO m k e = true → PO X e (tO (seX X gn) C m)
  | .none, X, gn, C, k, e, ok, h => by
    cases e with
    | none => exact o_none
    | some _ => simp [cO] at h
  | .some m, X, gn, C, k, e, ok, h => by
    cases e with
    | none => simp [cO] at h
    | some e => exact o_some (cE_sound m ok (by simpa [cO] using h)).1
end
end Mp

set_option autoImplicit false
/-! Mp15: the look is sound, statements -/
namespace Mp
open PySem L2
section
variable {X : Cx} {gn : List Str} {C : Call} {k : Ck} {a b c : Expr} {m m1 m2 m3 : Ex} {pos : Pos}
theorem s_par3 {i j l : Nat} {x y z : Str} {px py pz pt pt2 : Pos} {kt k2 : Nat} (hc : X.calm = true) (hN : X.N.Nodup) (hi : X.N[i]? = some x) (hj : X.N[j]? = some y) (hl : X.N[l]? = some z) (hij : i ≠ j) (hil : i ≠ l) (hjl : j ≠ l)
    (hx : X.env.scope.names.lookup x = some .local) (hy : X.env.scope.names.lookup y = some .local) (hz : X.env.scope.names.lookup z = some .local)
    (ha : PA X [a, b, c] (tMs (seX X gn) C (.cons m1 (.cons m2 (.cons m3 .nil))))) (hw : swappedStores [.Tuple [.Name x px, .Name y py, .Name z pz] kt pt] (.Tuple [a, b, c] k2 pt2) X.env = pure (some [x, y, z])) :
    PS X (.Assign [.Tuple [.Name x px, .Name y py, .Name z pz] kt pt] (.Tuple [a, b, c] k2 pt2) pos) (tS (seX X gn) C (.par3 i j l m1 m2 m3)) := by
  refine PS.imp (ps_par3 hc hN hi hj hl hij hil hjl hx hy hz ha hw) ?_
  rintro D σ H ⟨W, ρ, q, h', rfl, R, rs, e, kk⟩
  simp only [ex] at e
  obtain ⟨v, h1, e1, e⟩ := bind_ok e
  obtain ⟨u, h2, e2, e⟩ := bind_ok e
  obtain ⟨w, h3, e3, e⟩ := bind_ok e
  split at e
  · cases e
    refine ⟨W, ρ, [v, u, w], h', rfl, R, rs, by simp [evs, e1, e2, e3], fun W1 ys q1 l1 R1 r1 => ?_⟩
    match ys, r1 with
    | [y1, y2, y3], .cons r1 (.cons r2 (.cons r3 .nil)) => exact ⟨y1, y2, y3, rfl, kk W1 q1 l1 R1 _ ((((rs.mono l1).set i r1).set j r2).set l r3)⟩
  · cases e
theorem lclB_eq {o : Option NameKind} (h : lclB o = true) : o = some .local := by
  unfold lclB at h
  split at h
  · rfl
  · cases h
def swOk (vs : List Expr) : Bool := plainArgs vs && !vs.all (foldedForSure 8) && !vs.all (constantsAlone 8)
theorem swOk_plain {vs : List Expr} (h : swOk vs = true) : plainArgs vs = true := by unfold swOk at h; simp only [Bool.and_eq_true] at h; exact h.1.1
theorem blockF {env : Env} (h : env.scope.kind = .function) : env.blockKind = .function := by
  unfold Env.blockKind
  rw [h]
  rfl
theorem star_any {vs : List Expr} (h : plainArgs vs = true) : (vs.any fun | .Starred .. => true | _ => false) = false := by
  unfold plainArgs at h
  rw [List.all_eq_true] at h
  rw [List.any_eq_false]
  intro e he
  have := h e he
  cases e <;> first | exact Bool.false_ne_true | cases this
theorem sw2 {env : Env} {x y : Str} {px py pt pt2 : Pos} {kt k2 : Nat} (kf : env.scope.kind = .function) (hx : env.kindOf x = some .local) (hy : env.kindOf y = some .local) (hl : (px.line == py.line) = true) (hxy : (x == y) = false) (h : swOk [a, b] = true) :
    swappedStores [.Tuple [.Name x px, .Name y py] kt pt] (.Tuple [a, b] k2 pt2) env = pure (some [x, y]) := by
  unfold swOk at h
  simp only [Bool.and_eq_true, Bool.not_eq_true'] at h
  have e1 : (py.line == px.line) = true := by rw [beq_iff_eq] at hl ⊢; exact hl.symm
  have e2 : (y == x) = false := by rw [beq_eq_false_iff_ne] at hxy ⊢; exact fun z => hxy z.symm
  have hk : ∀ {q : Option NameKind}, q = some .local → (q == some NameKind.local) = true := fun h => by rw [h]; rfl
  have hs := star_any h.1.1
  unfold swappedStores
  simp only [List.length_cons, List.length_nil, blockF kf]
  rw [if_neg (by simp)]
  refine Eq.trans (if_neg (fun q => Bool.false_ne_true (hs.symm.trans q))) ?_
  simp only [List.head?_cons, Option.map_some, Option.getD_some, List.filterMap_cons, List.filterMap_nil, hk hx, hk hy, Expr.pos, e1, beq_self_eq_true, Bool.and_true, if_true]
  rw [if_neg (by simp [List.eraseDups_cons, e2]), if_neg (by rw [h.1.2]; simp)]
  rw [if_neg (by rw [h.2]; simp)]
theorem sw3 {env : Env} {x y z : Str} {px py pz pt pt2 : Pos} {kt k2 : Nat} (kf : env.scope.kind = .function) (hx : env.kindOf x = some .local) (hy : env.kindOf y = some .local) (hz : env.kindOf z = some .local) (hl : (px.line == py.line) = true) (hl2 : (px.line == pz.line) = true)
    (hxy : (x == y) = false) (hxz : (x == z) = false) (hyz : (y == z) = false) (h : swOk [a, b, c] = true) :
    swappedStores [.Tuple [.Name x px, .Name y py, .Name z pz] kt pt] (.Tuple [a, b, c] k2 pt2) env = pure (some [x, y, z]) := by
  unfold swOk at h
  simp only [Bool.and_eq_true, Bool.not_eq_true'] at h
  have e1 : (py.line == px.line) = true := by rw [beq_iff_eq] at hl ⊢; exact hl.symm
  have e1' : (pz.line == px.line) = true := by rw [beq_iff_eq] at hl2 ⊢; exact hl2.symm
  have e2 : (y == x) = false := by rw [beq_eq_false_iff_ne] at hxy ⊢; exact fun z => hxy z.symm
  have e3 : (z == x) = false := by rw [beq_eq_false_iff_ne] at hxz ⊢; exact fun z => hxz z.symm
  have e4 : (z == y) = false := by rw [beq_eq_false_iff_ne] at hyz ⊢; exact fun z => hyz z.symm
  have hk : ∀ {q : Option NameKind}, q = some .local → (q == some NameKind.local) = true := fun h => by rw [h]; rfl
  have hs := star_any h.1.1
  unfold swappedStores
  simp only [List.length_cons, List.length_nil, blockF kf]
  rw [if_neg (by simp)]
  refine Eq.trans (if_neg (fun q => Bool.false_ne_true (hs.symm.trans q))) ?_
  simp only [List.head?_cons, Option.map_some, Option.getD_some, List.filterMap_cons, List.filterMap_nil, hk hx, hk hy, hk hz, Expr.pos, e1, e1', beq_self_eq_true, Bool.and_true, if_true]
  rw [if_neg (by simp [List.eraseDups_cons, e2, e3, e4]), if_neg (by rw [h.1.2]; simp)]
  rw [if_neg (by rw [h.2]; simp)]

/-! ### the look at statements -/
def swN (tg e : Expr) : Bool := match tg with
  | .Name .. => true
  | .Subscript .. => true
  | _ => noTup e
def celT (k : Ck) : Expr → Bool
  | .Name x _ => (match k.lk x with | some .cell => true | _ => false)
  | _ => false
/-- a pair to a pair, a name among the targets captured: not swapped -/
def swT (k : Ck) (tg : Expr) : Bool := match tg with
  | .Tuple ts _ _ => ts.any (celT k)
  | _ => false
/-- a comprehension whose value is stored in the plain way -/
def swC (k : Ck) (tg : Expr) : Bool := match tg with
  | .Name x _ => celT k tg
  | .Tuple .. => true
  | _ => false
/-- .. in the short way -/
def swB (k : Ck) (tg e : Expr) : Bool := match tg, e with
  | .Name y py, .ListComp _ _ scope p => lclB (k.lk y) && py.line == p.line && !(scope.names.any fun (n, q) => n == y && (q == .local || q == .cell))
  | _, _ => false
def isLc : Ex → Bool
  | .lc .. => true
  | _ => false
def isLC : Expr → Bool
  | .ListComp .. => true
  | _ => false
def isNm : Tg → Bool
  | .nm _ => true
  | _ => false
mutual
def cS : St → Ck → Stmt → Bool
  | .no, k, s => true
  | .ev m, k, s => (match s with | .Expr e _ => cE m k e && noComp e | _ => false)
  | .as t m, k, s => (match s with
    | .Assign [tg] e pos => cT k t tg && notStar tg && cE m k e && ((noComp e && (swN tg e || swT k tg)) || (isLC e && swC k tg && noTup e) || (isLc m && isNm t && swB k tg e))
    | _ => false)
  | .sta i j m, k, s => (match s with
    | .Assign [.Tuple [.Name x _, .Starred (.Name y _) _] _ _] e _ => k.nm i x && locB (k.lk x) && k.nm j y && locB (k.lk y) && cE m k e && noComp e && noTup e
    | _ => false)
  | .par i j a b, k, s => (match s with
    | .Assign [.Tuple [.Name x px, .Name y py] _ _] (.Tuple [ea, eb] _ _) _ => k.nm i x && k.nm j y && lclB (k.lk x) && lclB (k.lk y) && cE a k ea && cE b k eb && (px.line == py.line) && !(x == y) && swOk [ea, eb] && decide (i ≠ j)
    | _ => false)
  | .par3 i j l a b c, k, s => (match s with
    | .Assign [.Tuple [.Name x px, .Name y py, .Name z pz] _ _] (.Tuple [ea, eb, ec] _ _) _ => k.nm i x && k.nm j y && k.nm l z && lclB (k.lk x) && lclB (k.lk y) && lclB (k.lk z) && cE a k ea && cE b k eb && cE c k ec && (px.line == py.line) && (px.line == pz.line) && !(x == y) && !(x == z) && !(y == z) && swOk [ea, eb, ec] && decide (i ≠ j) && decide (i ≠ l) && decide (j ≠ l)
    | _ => false)
  | .sub o i m, k, s => (match s with | .Assign [.Subscript eo ei _] e _ => cE o k eo && cE i k ei && cE m k e && noComp e && notSlice ei | _ => false)
  | .apd o m, k, s => (match s with | .Expr (.Call (.Attribute eo name p1) [e] [] p2) _ => decide (name = "append") && cE o k eo && cE m k e && plainBase eo && plainArgs [e] && (p1.endLine == p2.line) | _ => false)
  | .iff m a b, k, s => (match s with | .If c p q _ => cE m k c && cSs a k p && cSs b k q | _ => false)
  | .fo t w ms b, k, s => (match s with | .For tg iter p [] _ => cT k t tg && cW (fun l => cEs ms k l) k w tg iter && noSet iter && cSs b k p | _ => false)
  | .rt m, k, s => (match s with | .Return (some e) _ => cE m k e | _ => false)
  | .rtf m, k, s => (match s with | .Return (some e) _ => cE m k e | _ => false)
  | .rn, k, s => (match s with | .Return none _ => true | _ => false)
  | .ps, k, s => (match s with | .Pass _ => true | _ => false)
def cSs : Sts → Ck → List Stmt → Bool
  | .nil, k, ss => ss.isEmpty
  | .cons m ms, k, ss => (match ss with | s :: ss => cS m k s && cSs ms k ss | [] => false)
end
theorem fm_lt {α β : Type} {f : α → Option β} : ∀ {ts : List α}, (∃ t ∈ ts, f t = none) → (ts.filterMap f).length < ts.length
  | [], ⟨t, h, _⟩ => by cases h
  | t :: ts, ⟨u, hu, hn⟩ => by
    have hle := List.length_filterMap_le f ts
    cases ht : f t with
    | none => rw [List.filterMap_cons_none ht, List.length_cons]; omega
    | some y =>
      rw [List.filterMap_cons_some ht, List.length_cons, List.length_cons]
      rcases List.mem_cons.mp hu with rfl | hu
      · rw [ht] at hn; cases hn
      · have := fm_lt ⟨u, hu, hn⟩
        omega
theorem swT_no (ok : Cok X gn C k) {tg e : Expr} (h : swT k tg = true) : swappedStores [tg] e X.env = pure none := by
  cases tg <;> simp only [swT, Bool.false_eq_true] at h
  rename_i ts kk pp
  rw [List.any_eq_true] at h
  obtain ⟨t, ht, hc⟩ := h
  cases t <;> simp only [celT, Bool.false_eq_true] at hc
  rename_i x px
  split at hc
  case h_2 => cases hc
  rename_i hk
  have hk := ok.ce x hk
  cases e <;> first | rfl | skip
  rename_i vs k2 p2
  unfold swappedStores
  simp only []
  split
  · rfl
  · split
    · rfl
    · rw [if_pos]
      simp only [Bool.or_eq_true, bne_iff_ne]
      refine .inl (Nat.ne_of_lt (fm_lt ⟨_, ht, ?_⟩))
      have e0 : X.env.kindOf x = some .cell := hk
      simp [e0]
theorem sw_val {elt : Expr} {gs : List Comprehension} {scope : Scope} {p py : Pos} {y : Str} {l : Nat} {env : Env} : swapsWith (.ListComp elt gs scope p) (some (.Name y py)) l env =
    pure (env.blockKind == .function && env.kindOf y == some .local && py.line == p.line && !(scope.names.any fun (n, q) => n == y && (q == .local || q == .cell))) := rfl
theorem isLc_eq {m : Ex} (h : isLc m = true) : ∃ own m' t w ms cs, m = .lc own m' t w ms cs := by
  cases m <;> first | exact ⟨_, _, _, _, _, _, rfl⟩ | cases h
theorem lc_parts {own : List Nat} {t : Tg} {w : Wk} {ms cs : Exs} {e : Expr} (ok : Cok X gn C k) (h : cE (.lc own m t w ms cs) k e = true) : ∃ (elt tg iter : Expr) (ifs : List Expr) (scope : Scope) (pos0 : Pos), e = .ListComp elt [⟨tg, iter, ifs, 0⟩] scope pos0 ∧
    PI X tg iter (tW (seX X gn) C w ms) ∧ BlkOk X.N X.env.scope scope (ownP k own) ∧ tgIn own t = true ∧ (ownP k own).map (·.2) = own ∧
    (∀ (s : Shared) (H : L2.Hp) (D : Addr) (cl : List (Str × Addr)) (fp : List Addr), PG (X.blk s H scope (compEnvC scope cl D X.env) fp) tg (tG (seX X gn) t)) ∧
    (∀ (s : Shared) (H : L2.Hp) (D : Addr) (cl : List (Str × Addr)) (fp : List Addr), PTs (X.blk s H scope (compEnvC scope cl D X.env) fp) ifs (tTs (seX X gn) C cs)) ∧
    (∀ (s : Shared) (H : L2.Hp) (D : Addr) (cl : List (Str × Addr)) (fp : List Addr), PE (X.blk s H scope (compEnvC scope cl D X.env) fp) elt (tM (seX X gn) C m)) ∧ noSet iter = true := by
  simp only [cE] at h
  split at h
  · rename_i elt tg iter ifs scope pos0
    simp only [Bool.and_eq_true] at h
    obtain ⟨⟨⟨⟨⟨⟨⟨h1, h2⟩, h3⟩, h4⟩, h5⟩, h6⟩, h7⟩, h8⟩ := h
    have eo : (ownP k own).map (·.2) = own := by unfold ownP; rw [List.map_map]; exact List.map_id' _
    have hi := iter_sound ok (fun es he => cEs_sound ms ok he) h8
    have b := fun s H D cl fp => ok.blk h1 s H D cl fp
    refine ⟨elt, tg, iter, ifs, scope, pos0, rfl, hi, ok.blkOk h1, h2, eo, fun s H D cl fp => cT_sound (b s H D cl fp) h3, fun s H D cl fp => ?_, fun s H D cl fp => (cE_sound m (b s H D cl fp) h4).1, h7⟩
    have all := cEs_sound cs (b s H D cl fp) h5
    match ifs, cs, all, h6 with
    | [], .nil, _, _ => exact ts_nil
    | [c], .cons m .nil, all, _ => exact ts_one all.1.2
    | [], .cons _ _, all, _ => exact all.elim
    | _ :: _, .nil, all, _ => exact all.elim
    | [_], .cons _ (.cons _ _), all, _ => exact all.2.elim
    | _ :: _ :: _, _, _, h6 => simp [Nat.blt] at h6
  · cases h
mutual
theorem cS_sound (hp : PassesOwn (model X.prog X.w) X.A X.env X.xe) (ok : Cok X gn C k) : ∀ (n : St) {s : Stmt}, cS n k s = true → PS X s (tS (seX X gn) C n)
  | .no, s, h => PS.imp ps_never (by
    rintro D σ H ⟨W, ρ, q, h', rfl, R, rs, e, kk⟩
    simp only [ex] at e
    cases e)
  | .ev m, s, h => by
    simp only [cS] at h
    split at h
    · simp only [Bool.and_eq_true] at h
      exact s_ev (cE_sound m ok h.1).1 h.2
    · cases h
  | .as t m, s, h => by
    simp only [cS] at h
    split at h
    case h_2 => cases h
    rename_i tg e pos
    simp only [Bool.and_eq_true, Bool.or_eq_true] at h
    obtain ⟨⟨⟨h1, h2⟩, h3⟩, h4⟩ := h
    have g := cT_sound ok h1
    have he := (cE_sound m ok h3).1
    have asg : swapsWithSole [tg] e pos.line X.env = pure false → swappedStores [tg] e X.env = pure none → PS X (.Assign [tg] e pos) (tS (seX X gn) C (.as t m)) := fun a b =>
      PS.imp (ps_asg he g a b (by rw [each_cons h2]; rfl)) fun D σ H q => asg_imp q
    rcases h4 with (⟨n1, n2⟩ | ⟨⟨n1, n2⟩, n3⟩) | ⟨⟨n1, n2⟩, n3⟩
    · refine asg (sws_no n1) ?_
      rcases n2 with n2 | n2
      · unfold swN at n2
        split at n2
        · exact st_nm
        · exact st_sub
        · exact st_no n2
      · exact swT_no ok n2
    · unfold swC at n2
      split at n2
      · rename_i y py
        refine asg ?_ st_nm
        simp only [celT] at n2
        split at n2
        case h_2 => cases n2
        rename_i hk
        have e0 : X.env.kindOf y = some .cell := ok.ce y hk
        cases e <;> simp only [isLC, Bool.false_eq_true] at n1
        refine Eq.trans (sw_val (py := py) (y := y) (l := pos.line) (env := X.env)) ?_
        rw [e0, show ((some NameKind.cell : Option NameKind) == some NameKind.local) = false from rfl]
        simp
      · refine asg ?_ (st_no n3)
        cases e <;> rfl
      · cases n2
    · obtain ⟨own, m', t', w, ms, cs, rfl⟩ := isLc_eq n1
      obtain ⟨elt, tg', iter, ifs, scope, pos0, rfl, hi, hb, ho, eo, hg, ht, hE, hs⟩ := lc_parts ok h3
      cases t <;> simp only [isNm, Bool.false_eq_true] at n2
      rename_i i
      cases tg <;> simp only [swB, Bool.false_eq_true] at n3
      rename_i y py
      simp only [Bool.and_eq_true, Bool.not_eq_true'] at n3
      obtain ⟨⟨n4, n5⟩, n6⟩ := n3
      have hl := ok.lo y (lclB_eq n4)
      have hk : X.env.kindOf y = some .local := hl
      simp only [cT, Bool.and_eq_true] at h1
      have hsw : swapsWith (.ListComp elt [⟨tg', iter, ifs, 0⟩] scope pos0) (some (.Name y py)) pos.line X.env = pure true := by
        rw [sw_val, hk, blockF ok.kf, n5, n6]
        rfl
      have key := s_lc (m := m') (t := t') (ms := ms) (cs := cs) (w := w) ok.calm ok.nod (ok.nm h1.1).1 hl hsw hi hb (by rw [eo]; exact ho) hg ht hE hs
      rw [eo] at key
      exact key
  | .sta i j m, s, h => by
    simp only [cS] at h
    split at h
    · simp only [Bool.and_eq_true] at h
      obtain ⟨⟨⟨⟨⟨⟨h1, h2⟩, h3⟩, h4⟩, h5⟩, h6⟩, h7⟩ := h
      obtain ⟨x1, x2⟩ := ok.loc h2
      obtain ⟨y1, y2⟩ := ok.loc h4
      exact s_sta ok.calm (pg_name ok.nod (ok.nm h1).1 x1 x2) (pg_name ok.nod (ok.nm h3).1 y1 y2) (cE_sound m ok h5).1 h6 h7
    · cases h
  | .par i j a b, s, h => by
    simp only [cS] at h
    split at h
    · simp only [Bool.and_eq_true, Bool.not_eq_true', decide_eq_true_eq] at h
      obtain ⟨⟨⟨⟨⟨⟨⟨⟨⟨h1, h2⟩, h3⟩, h4⟩, h5⟩, h6⟩, h7⟩, h8⟩, h9⟩, h10⟩ := h
      have hx := ok.lo _ (lclB_eq h3)
      have hy := ok.lo _ (lclB_eq h4)
      have hp := swOk_plain h9
      exact s_par ok.calm ok.nod (ok.nm h1).1 (ok.nm h2).1 h10 hx hy (cE_sound a ok h5).1 (cE_sound b ok h6).1 hp (sw2 ok.kf hx hy h7 h8 h9)
    · cases h
  | .par3 i j l a b c, s, h => by
    simp only [cS] at h
    split at h
    · simp only [Bool.and_eq_true, Bool.not_eq_true', decide_eq_true_eq] at h
      obtain ⟨⟨⟨⟨⟨⟨⟨⟨⟨⟨⟨⟨⟨⟨⟨⟨⟨h1, h2⟩, h3⟩, h4⟩, h5⟩, h6⟩, h7⟩, h8⟩, h9⟩, h10⟩, h11⟩, h12⟩, h13⟩, h14⟩, h15⟩, h16⟩, h17⟩, h18⟩ := h
      have hx := ok.lo _ (lclB_eq h4)
      have hy := ok.lo _ (lclB_eq h5)
      have hz := ok.lo _ (lclB_eq h6)
      have hp := swOk_plain h15
      exact s_par3 ok.calm ok.nod (ok.nm h1).1 (ok.nm h2).1 (ok.nm h3).1 h16 h17 h18 hx hy hz (args_of ⟨cE_sound a ok h7, cE_sound b ok h8, cE_sound c ok h9, True.intro⟩ hp) (sw3 ok.kf hx hy hz h10 h11 h12 h13 h14 h15)
    · cases h
  | .sub o i m, s, h => by
    simp only [cS] at h
    split at h
    · simp only [Bool.and_eq_true] at h
      obtain ⟨⟨⟨⟨h1, h2⟩, h3⟩, h4⟩, h5⟩ := h
      exact s_sub (cE_sound o ok h1).1 (cE_sound i ok h2).1 (cE_sound m ok h3).1 h4 h5
    · cases h
  | .apd o m, s, h => by
    simp only [cS] at h
    split at h
    · simp only [Bool.and_eq_true, decide_eq_true_eq] at h
      obtain ⟨⟨⟨⟨⟨rfl, h2⟩, h3⟩, h4⟩, h5⟩, h6⟩ := h
      exact s_apd (cE_sound o ok h2).1 (cE_sound m ok h3).1 h4 h5 h6
    · cases h
  | .iff m a b, s, h => by
    simp only [cS] at h
    split at h
    · simp only [Bool.and_eq_true] at h
      exact s_iff (cE_sound m ok h.1.1).2 (cSs_sound hp ok a h.1.2) (cSs_sound hp ok b h.2)
    · cases h
  | .fo t w ms b, s, h => by
    simp only [cS] at h
    split at h
    · simp only [Bool.and_eq_true] at h
      exact s_fo hp ok.calm (iter_sound ok (fun es he => cEs_sound ms ok he) h.1.1.2) (cT_sound ok h.1.1.1) (cSs_sound hp ok b h.2) h.1.2
    · cases h
  | .rt m, s, h => by
    simp only [cS] at h
    split at h
    · exact s_rt (cE_sound m ok h).1
    · cases h
  | .rtf m, s, h => by
    simp only [cS] at h
    split at h
    · exact s_rtf (cE_sound m ok h).1
    · cases h
  | .rn, s, h => by
    simp only [cS] at h
    split at h
    · exact s_rn
    · cases h
  | .ps, s, h => by
    simp only [cS] at h
    split at h
    · exact s_ps
    · cases h
theorem cSs_sound (hp : PassesOwn (model X.prog X.w) X.A X.env X.xe) (ok : Cok X gn C k) : ∀ (ns : Sts) {ss : List Stmt}, cSs ns k ss = true → PSs X ss (tSs (seX X gn) C ns)
  | .nil, ss, h => by
    cases ss with
    | nil => exact ss_nil
    | cons _ _ => simp [cSs] at h
  | .cons n ns, ss, h => by
    cases ss with
    | nil => simp [cSs] at h
    | cons s ss =>
      simp only [cSs, Bool.and_eq_true] at h
      exact ss_cons (cS_sound hp ok n h.1) (cSs_sound hp ok ns h.2)
end
end
end Mp

set_option autoImplicit false
/-! Mp16: the defs of a text, all at once -/
namespace Mp
open PySem L2
/-- one def: its name, its statement, its names, its parameters -/
structure De where
  x : Str
  st : Stmt
  N : List Str
  ps : List Str
structure Gs where
  cs : List (Str × Va)
  fs : List (Str × Nat)
  bs : List Str
def Gs.ck (G : Gs) (d : De) : Ck := ⟨d.N, C8.fnScope d.st, G.cs, G.fs, G.bs⟩
/-- the look at a def and its code in Mp -/
def lookD (G : Gs) (d : De) (F : Fn) : Bool := C8.scC d.N d.ps (C8.fnScope d.st) && decide (F.np = d.ps.length) && decide (F.ns = d.N.length) && cSs F.body (G.ck d) (C8.fnBody d.st)
def BindsAll (fd : FuncData) (ps : List Str) : Prop := ∀ us : List Value, us.length = ps.length → bindArgs fd ⟨us, []⟩ = pure (ps.zip us)
structure GsOk (K : PySem.W.Frag) (w : World) (mg : Str → Option Value) (gn : List Str) (G : Gs) (T : List De) : Prop where
  cs : ∀ x v, G.cs.lookup x = some v → ∃ (u : Value) (y : V), mg x = some u ∧ RelV y u ∧ ∀ W, RV ⟨K, w, mg, gn⟩ W v y
  bs : ∀ x, x ∈ G.bs → mg x = none
  de : ∀ (i : Nat) (d : De), T[i]? = some d → ∃ (f : Addr) (fd : FuncData), C8.Def K mg d.x d.st f fd ∧ BindsAll fd d.ps
  fs : ∀ (x : Str) (i : Nat), G.fs.lookup x = some i → ∃ d, T[i]? = some d ∧ d.x = x
theorem rs_start {S : Se} {W : Wd} {vs : List Va} {ys : List V} {N : List Str} (r : RVs S W vs ys) : RS S W (start N.length vs) (L2.start N ys) := by
  have hl := r.length
  refine ⟨by simp [start, L2.start, hl], fun i v e => ?_⟩
  unfold start at e
  unfold L2.start
  by_cases hi : i < vs.length
  · rw [List.getElem?_append_left (by simpa using hi), List.getElem?_map] at e
    obtain ⟨u, hu, eu⟩ := Option.map_eq_some_iff.mp e
    cases eu
    obtain ⟨y, hy, ry⟩ := r.get hu
    exact ⟨y, by rw [List.getElem?_append_left (by rw [List.length_map, ← hl]; exact hi), List.getElem?_map, hy]; rfl, ry⟩
  · rw [List.getElem?_append_right (by simpa using hi), List.getElem?_replicate] at e
    split at e <;> cases e
theorem fnoks {Pr : Program} {w : World} {K : PySem.W.Frag} {mg : Str → Option Value} {base : Heap} {gn : List Str} {G : Gs} {T : List De} {P : List Fn} (ok : GsOk K w mg gn G T)
    (hl : ∀ (i : Nat) (d : De), T[i]? = some d → ∃ F, P[i]? = some F ∧ lookD G d F = true) : ∀ (n : Nat) (i : Nat) (d : De), T[i]? = some d → ∀ {f : Addr} {fd : FuncData}, C8.Def K mg d.x d.st f fd → FnOk Pr w K mg base C8.CX0 n f fd d.ps (spM ⟨K, w, mg, gn⟩ (calls P n) i) := by
  intro n
  induction n with
  | zero =>
    intro i d hd f fd D
    have no : ∀ {vs H Q E}, spM ⟨K, w, mg, gn⟩ (calls P 0) i vs H Q E → False := fun ⟨W, us, v, h', _, _, _, e, _⟩ => by simp [calls] at e
    exact ⟨fun vs H Q E h => (no h).elim, fun A outer s H args us vs Q E _ _ _ _ h => (no h).elim⟩
  | succ n ih =>
    intro i d hd f fd D
    obtain ⟨F, hF, look⟩ := hl i d hd
    unfold lookD at look
    simp only [Bool.and_eq_true, decide_eq_true_eq] at look
    obtain ⟨⟨⟨l1, l2⟩, l3⟩, l4⟩ := look
    have lenOf : ∀ vs H Q E, spM ⟨K, w, mg, gn⟩ (calls P (n + 1)) i vs H Q E → vs.length = d.ps.length := fun vs H Q E ⟨W, us, v, h', _, _, r, e, _⟩ => by
      simp only [calls, hF, runF] at e
      split at e
      · rename_i hn
        rw [← r.length, hn, l2]
      · cases e
    refine C8.fn0 D.fn (C8.fnScope_by l1) lenOf (fun cdv A outer s H vs Q E hr hsp => ?_)
    obtain ⟨W, us, v, h', rfl, R, r, e, k⟩ := hsp
    simp only [calls, hF, runF] at e
    split at e
    case isFalse => cases e
    obtain ⟨⟨fl, ρ'⟩, h1, e1, e⟩ := bind_ok e
    refine ⟨tSs ⟨K, w, mg, gn⟩ (calls P n) F.body, cSs_sound (gn := gn) (k := G.ck d) PassesOwn.never ?_ F.body l4, W, start F.ns us, (fl, ρ'), h1, rfl, R, by rw [l3]; exact rs_start r, e1, fun W1 q1 l1 R1 => ?_⟩
    · have S := C8.fnScope_by l1
      exact ⟨rfl, S.nd, S.kind, rfl, by have := hr.un; show (A.deeper (PyProof.Rows.envOfC d.x (C8.fnScope d.st) s.heap.objs.size f cdv)).units + 65 < cLine; omega, fun x h => h, fun x h => h, fun x h => .inr h, fun x h => h, fun x h => rfl, ok.cs, fun x j hj => by
        obtain ⟨d', hd', hx⟩ := ok.fs x j hj
        subst hx
        obtain ⟨f', fd', D', hb'⟩ := ok.de j d' hd'
        exact ⟨n, ⟨f', fd', d'.ps, [], ih j d' hd' D', D'.mgf, D'.kp, .all hb', .nil⟩, hr⟩, ok.bs⟩
    · cases fl with
      | nx => cases e; exact fun σ' _ => k W1 _ q1 l1 R1 .non
      | rt u => cases e; exact fun y ry => k W1 y q1 l1 R1 ry
      | bk => cases e
      | ct => cases e

/-! ### the law's promise -/
def spLaw (K : PySem.W.Frag) : Sp := fun vs H Q _ => ∃ (a : Addr) (ns : List Int), vs = [.ref a] ∧ SqL K H a (ns.map V.int) ∧ ns.length ≤ 63 ∧ ∀ H', Q (.bl true) H'
theorem law_imp {K : PySem.W.Frag} {w : World} {mg : Str → Option Value} {gn : List Str} {C : Call} {i : Nat} (pure : ∀ ns : List Int, ns.length ≤ 63 → ∃ h', C i [.scr ns] [] = .ok (.bl true) h') (vs : List V) (H : L2.Hp) (Q : VK) (E : XK) (q : spLaw K vs H Q E) : spM ⟨K, w, mg, gn⟩ C i vs H Q E := by
  obtain ⟨a, ns, rfl, hS, hl, k⟩ := q
  obtain ⟨h', e⟩ := pure ns hl
  refine ⟨⟨[], [], H⟩, [.scr ns], .bl true, h', rfl, ⟨rfl, fun n xs e => by simp at e, fun n m xs ys a e => by simp at e⟩, .cons ?_ .nil, e, fun W1 y q1 l1 R1 r1 => by rw [r1.blE]; exact k _⟩
  have no : ¬ Own (⟨[], [], H⟩ : Wd) a := fun ⟨n, xs, e, _⟩ => by simp at e
  rcases hS with hS | hS
  · rcases hS with hS | ⟨ob, hS⟩
    · exact .scr hS no (.inl rfl)
    · exact .scr hS no (.inr ⟨ob, rfl⟩)
  · exact .scrK hS
theorem law_fn {Pr : Program} {w : World} {K : PySem.W.Frag} {mg : Str → Option Value} {gn : List Str} {G : Gs} {T : List De} {P : List Fn} {n i : Nat} {d : De} {x : Str} {fa : Addr} {fd : FuncData} (ok : GsOk K w mg gn G T)
    (hl : ∀ (i : Nat) (d : De), T[i]? = some d → ∃ F, P[i]? = some F ∧ lookD G d F = true) (hd : T[i]? = some d) (hps : d.ps = [x]) (D : C8.Def K mg d.x d.st fa fd) (hb0 : BindsAll fd d.ps)
    (pure : ∀ ns : List Int, ns.length ≤ 63 → ∃ h', calls P n i [.scr ns] [] = .ok (.bl true) h') :
    ∃ fd : FuncData, (∀ (s : Shared) (u : Value), BindsTo s fd ⟨[u], []⟩ [(x, u)]) ∧ ∀ base : Heap, K.In base → base.Ns mainGlobals mg → FnOk Pr w K mg base C8.CX0 n fa fd [x] (spLaw K) := by
  rw [hps] at hb0
  refine ⟨fd, fun s u => .of_eq (hb0 [u] rfl), fun base _ _ => ?_⟩
  have F := fnoks (Pr := Pr) (base := base) ok hl n i d hd D
  rw [hps] at F
  exact F.imp (law_imp pure)
/-! ### what the head gives -/
theorem fun_mk {K : PySem.W.Frag} {x : Str} {st : Stmt} {f : Addr} {oc dV kV doc pm cdv ct : Value} {od an : Option Addr} {osl : Array (Option Value)}
    (lk : K.lookup f = some ⟨oc, od, .func (PySem.W.fnOf x x (C8.fnArgs st) (C8.fnBody st) (C8.fnScope st) dV kV doc pm an cdv ct), osl⟩) (hcd : PySem.W.codeIn K cdv x = true) : C8.Fun K x x st f (PySem.W.fnOf x x (C8.fnArgs st) (C8.fnBody st) (C8.fnScope st) dV kV doc pm an cdv ct) :=
  ⟨⟨oc, od, dV, kV, doc, pm, an, cdv, ct, osl, rfl, lk, hcd⟩⟩
/-- the tables, one row at a time -/
inductive DeAll (K : PySem.W.Frag) (mg : Str → Option Value) : List De → Prop where
  | nil : DeAll K mg []
  | cons {d : De} {T : List De} {f : Addr} {fd : FuncData} (D : C8.Def K mg d.x d.st f fd) (b : BindsAll fd d.ps) (r : DeAll K mg T) : DeAll K mg (d :: T)
theorem DeAll.get {K : PySem.W.Frag} {mg : Str → Option Value} : ∀ {T : List De}, DeAll K mg T → ∀ (i : Nat) (d : De), T[i]? = some d → ∃ (f : Addr) (fd : FuncData), C8.Def K mg d.x d.st f fd ∧ BindsAll fd d.ps
  | _, .nil, i, d, h => by simp at h
  | _, .cons D b _, 0, d, h => by simp at h; subst h; exact ⟨_, _, D, b⟩
  | _, .cons _ _ r, i + 1, d, h => r.get i d (by simpa using h)
theorem looks {G : Gs} {T : List De} {P : List Fn} (h : (T.zip P).all (fun p => lookD G p.1 p.2) = true) (hn : T.length = P.length) (i : Nat) (d : De) (e : T[i]? = some d) : ∃ F, P[i]? = some F ∧ lookD G d F = true := by
  have hi : i < T.length := (List.getElem?_eq_some_iff.mp e).1
  have hp : P[i]? = some P[i] := List.getElem?_eq_getElem (by omega)
  refine ⟨_, hp, ?_⟩
  rw [List.all_eq_true] at h
  refine h (d, P[i]) ?_
  exact List.mem_of_getElem? (i := i) (by rw [List.getElem?_zip_eq_some]; exact ⟨e, hp⟩)
theorem fs_of {G : Gs} {T : List De} (h : G.fs = (T.zip (List.range T.length)).map fun p => (p.1.x, p.2)) (x : Str) (i : Nat) (e : G.fs.lookup x = some i) : ∃ d, T[i]? = some d ∧ d.x = x := by
  rw [h] at e
  have m := PySem.mem_of_lookup e
  obtain ⟨p, hp, ep⟩ := List.mem_map.mp m
  obtain ⟨j, hj⟩ := List.getElem?_of_mem hp
  rw [List.getElem?_zip_eq_some] at hj
  cases ep
  have hr := hj.2
  have : p.2 = j := by
    have hl := (List.getElem?_eq_some_iff.mp hr).1
    rw [List.getElem?_eq_getElem hl] at hr
    simp at hr
    exact hr.symm
  rw [this]
  exact ⟨p.1, hj.1, rfl⟩
end Mp

set_option autoImplicit false
/-! Mp17: the constants of a text -/
namespace Mp
open PySem L2
/-! ### a value of the written part -/
mutual
def vIn (K : PySem.W.Frag) : Va → Value → Bool
  | .non, u => (match u with | .none => true | _ => false)
  | .bl b, u => (match u with | .bool c => b == c | _ => false)
  | .int i, u => (match u with | .int j _ => i == j | _ => false)
  | .str s, u => (match u with | .str x _ => x.cps.toList == s && s.all (fun c => Nat.blt c 0x110000) | _ => false)
  | .tup vs, u => (match u with
    | .ref a => (match K.lookup a with
      | some ⟨.type c, _, .seq its _, _⟩ => decide (c = "tuple") && Nat.ble its.size lim && vsIn K vs its.toList
      | _ => false)
    | _ => false)
  | _, _ => false
def vsIn (K : PySem.W.Frag) : List Va → List Value → Bool
  | [], us => us.isEmpty
  | v :: vs, us => (match us with | u :: us => vIn K v u && vsIn K vs us | [] => false)
end
mutual
theorem vIn_sound {K : PySem.W.Frag} : ∀ (v : Va) {u : Value}, vIn K v u = true → ∃ y : V, RelV y u ∧ ∀ (w : World) (mg : Str → Option Value) (gn : List Str) (W : Wd), RV ⟨K, w, mg, gn⟩ W v y
  | .non, u, h => by
    simp only [vIn] at h
    split at h
    · exact ⟨.non, rfl, fun _ _ _ _ => .non⟩
    · cases h
  | .bl b, u, h => by
    simp only [vIn] at h
    split at h
    · simp only [beq_iff_eq] at h
      subst h
      exact ⟨.bl b, rfl, fun _ _ _ _ => .bl b⟩
    · cases h
  | .int i, u, h => by
    simp only [vIn] at h
    split at h
    · simp only [beq_iff_eq] at h
      subst h
      exact ⟨.int i, ⟨_, rfl⟩, fun _ _ _ _ => .int i⟩
    · cases h
  | .str s, u, h => by
    simp only [vIn] at h
    split at h
    · rename_i x t
      simp only [Bool.and_eq_true, beq_iff_eq, List.all_eq_true] at h
      have hx : x = strS s := by
        rw [← h.1]
        rcases x with ⟨a⟩
        simp [strS]
      subst hx
      exact ⟨.str (strS s), ⟨t, rfl⟩, fun _ _ _ _ => .str s fun c hc => Nat.le_of_ble_eq_true (h.2 c hc)⟩
    · cases h
  | .tup vs, u, h => by
    simp only [vIn] at h
    split at h
    · rename_i a
      split at h
      · rename_i c od its n sl ek
        simp only [Bool.and_eq_true, decide_eq_true_eq] at h
        obtain ⟨⟨rfl, h2⟩, h3⟩ := h
        obtain ⟨ys, r, rv⟩ := vsIn_sound vs h3
        exact ⟨.ref a, rfl, fun w mg gn W => .tupK ⟨_, its, n, ek, rfl, rfl, Nat.le_trans (Nat.le_of_ble_eq_true h2) lim_le, r⟩ (rv w mg gn W)⟩
      · cases h
    · cases h
  | .lst _, u, h => by simp [vIn] at h
  | .dic _ _, u, h => by simp [vIn] at h
  | .ref _, u, h => by simp [vIn] at h
  | .ty _, u, h => by simp [vIn] at h
  | .gl _, u, h => by simp [vIn] at h
  | .scr _, u, h => by simp [vIn] at h
theorem vsIn_sound {K : PySem.W.Frag} : ∀ (vs : List Va) {us : List Value}, vsIn K vs us = true → ∃ ys : List V, Vals ys us ∧ ∀ (w : World) (mg : Str → Option Value) (gn : List Str) (W : Wd), RVs ⟨K, w, mg, gn⟩ W vs ys
  | [], us, h => by
    simp only [vsIn, List.isEmpty_iff] at h
    subst h
    exact ⟨[], .nil, fun _ _ _ _ => .nil⟩
  | v :: vs, us, h => by
    simp only [vsIn] at h
    split at h
    · simp only [Bool.and_eq_true] at h
      obtain ⟨y, r, rv⟩ := vIn_sound v h.1
      obtain ⟨ys, rs, rvs⟩ := vsIn_sound vs h.2
      exact ⟨y :: ys, .cons r rs, fun w mg gn W => .cons (rv w mg gn W) (rvs w mg gn W)⟩
    · cases h
end
/-! ### a dict of the written part -/
theorem key_is {e : DictEntry} {x : Str} {i : Int} (h : He.keyOf e = some (x, i)) : (∃ t, e.key = .str x t) := by
  unfold He.keyOf at h
  split at h
  · rename_i y t q
    cases h
    exact ⟨t, q⟩
  · cases h
theorem find_ents {P : Params} {z : Str} : ∀ {l : List DictEntry} {ks : List Str} {ys : List V}, l.map He.keyOf = He.keysIn P ks → Vals ys (l.map (·.val)) → ((l.find? (·.key.isStr z)).map (·.val) = none ∧ zlook (ks.map fun x => Va.str (strL x)) ys (.str (strL z)) = none ∨ ∃ u y, (l.find? (·.key.isStr z)).map (·.val) = some u ∧ zlook (ks.map fun x => Va.str (strL x)) ys (.str (strL z)) = some y ∧ RelV y u) ∧ l.any (·.refKey) = false
  | [], [], ys, h, r => ⟨.inl ⟨rfl, rfl⟩, rfl⟩
  | [], _ :: _, ys, h, r => by simp [He.keysIn] at h
  | _ :: _, [], ys, h, r => by simp [He.keysIn] at h
  | e :: l, k :: ks, ys, h, r => by
    have h1 : He.keyOf e :: l.map He.keyOf = some (k, PyData.keyHash P k) :: He.keysIn P ks := h
    injection h1 with h2 h3
    obtain ⟨t, hk⟩ := key_is h2
    match ys, r with
    | y :: ys, .cons r rs =>
      obtain ⟨i1, i2⟩ := find_ents (z := z) h3 rs
      have hr : e.refKey = false := by unfold DictEntry.refKey; rw [hk]
      refine ⟨?_, by rw [List.any_cons, hr, i2]; rfl⟩
      have hs : e.key.isStr z = (k == z) := by rw [hk]; rfl
      have hv : veq (.str (strL k)) (.str (strL z)) = (k == z) := by
        rw [Bool.eq_iff_iff]
        simp only [veq, beq_iff_eq]
        constructor
        · intro q
          rcases k with ⟨a⟩
          rcases z with ⟨b⟩
          have : a = b := by simpa [strL] using q
          rw [this]
        · intro q; rw [q]
      cases hz : k == z with
      | true =>
        refine .inr ⟨e.val, y, ?_, ?_, r⟩
        · rw [List.find?_cons, hs, hz]; rfl
        · simp only [zlook, List.map_cons, List.zip_cons_cons, List.find?_cons, hv, hz]; rfl
      | false =>
        have f1 : (e :: l).find? (·.key.isStr z) = l.find? (·.key.isStr z) := by rw [List.find?_cons, hs, hz]
        have f2 : zlook ((k :: ks).map fun x => Va.str (strL x)) (y :: ys) (.str (strL z)) = zlook (ks.map fun x => Va.str (strL x)) ys (.str (strL z)) := by
          simp only [zlook, List.map_cons, List.zip_cons_cons, List.find?_cons, hv, hz]
        rw [f1, f2]
        exact i1
theorem dic_rv {K : PySem.W.Frag} {w : World} {a : Addr} {es : Array DictEntry} {n : Nat} {ks : List Str} {vs : List Va} (h1 : K.lookup a = some ⟨.type "dict", none, .dict es n, #[]⟩) (h2 : es.toList.map He.keyOf = He.keysIn w.params ks) (low : (a == sysModules) = false) (h3 : vsIn K vs (es.toList.map (·.val)) = true) (mg : Str → Option Value) (gn : List Str) (W : Wd) :
    RV ⟨K, w, mg, gn⟩ W (.dic (ks.map fun x => .str (strL x)) vs) (.ref a) := by
  obtain ⟨ys, r, rv⟩ := vsIn_sound vs h3
  refine .dicK (ys := ys) (es := es) (n := n) ⟨h1, He.keysLit_of h2, low⟩ (fun k hk => ?_) (fun z => ?_) (rv w mg gn W)
  · obtain ⟨x, _, ex⟩ := List.mem_map.mp hk
    exact ⟨_, ex.symm⟩
  · obtain ⟨f, g⟩ := find_ents (z := z) h2 r
    have e : PySem.W.nsIn K a z = some ((es.toList.find? (·.key.isStr z)).map (·.val)) := by
      unfold PySem.W.nsIn
      rw [h1]
      dsimp only
      cases hf : es.toList.find? (·.key.isStr z) with
      | some e => rfl
      | none =>
        dsimp only
        rw [g]
        rfl
    refine ⟨_, e, ?_⟩
    rcases f with ⟨e1, e2⟩ | ⟨u, y, e1, e2, e3⟩
    · rw [e1]
      show RelO (zlook _ _ _) none
      rw [e2]
      trivial
    · rw [e1]
      show RelO (zlook _ _ _) (some u)
      rw [e2]
      exact e3
/-! ### the table of constants -/
inductive CsAll (K : PySem.W.Frag) (w : World) (mg : Str → Option Value) (gn : List Str) : List (Str × Va) → Prop where
  | nil : CsAll K w mg gn []
  | cons {x : Str} {v : Va} {r : List (Str × Va)} (h : ∃ (u : Value) (y : V), mg x = some u ∧ RelV y u ∧ ∀ W, RV ⟨K, w, mg, gn⟩ W v y) (q : CsAll K w mg gn r) : CsAll K w mg gn ((x, v) :: r)
theorem CsAll.get {K : PySem.W.Frag} {w : World} {mg : Str → Option Value} {gn : List Str} : ∀ {l : List (Str × Va)}, CsAll K w mg gn l → ∀ x v, l.lookup x = some v → ∃ (u : Value) (y : V), mg x = some u ∧ RelV y u ∧ ∀ W, RV ⟨K, w, mg, gn⟩ W v y
  | _, .nil, x, v, h => by simp at h
  | _, .cons (x := k) h q, x, v, e => by
    rw [List.lookup_cons] at e
    split at e
    · rename_i hb
      have : x = k := by simpa using hb
      subst this
      cases e
      exact h
    · exact q.get x v e
section
variable {K : PySem.W.Frag} {w : World} {mg : Str → Option Value} {gn : List Str} {h : Heap}
theorem CsAll.val {x : Str} {v : Va} {u : Value} {r : List (Str × Va)} (X : K.In h) (G : h.Ns mainGlobals mg) (a : PySem.W.nsIn K mainGlobals x = some (some u)) (i : vIn K v u = true) (q : CsAll K w mg gn r) : CsAll K w mg gn ((x, v) :: r) := by
  obtain ⟨y, r1, rv⟩ := vIn_sound v i
  exact .cons ⟨u, y, PySem.W.mg_of X G a, r1, fun W => rv w mg gn W⟩ q
theorem CsAll.dic {x : Str} {a : Addr} {es : Array DictEntry} {n : Nat} {ks : List Str} {cks vs : List Va} {r : List (Str × Va)} (X : K.In h) (G : h.Ns mainGlobals mg) (e : PySem.W.nsIn K mainGlobals x = some (some (.ref a))) (h1 : K.lookup a = some ⟨.type "dict", none, .dict es n, #[]⟩)
    (h2 : es.toList.map He.keyOf = He.keysIn w.params ks) (low : (a == sysModules) = false) (h3 : vsIn K vs (es.toList.map (·.val)) = true) (h4 : vasEq cks (ks.map fun x => .str (strL x)) = true) (q : CsAll K w mg gn r) : CsAll K w mg gn ((x, .dic cks vs) :: r) := by
  rw [vasEq_eq h4]
  exact .cons ⟨.ref a, .ref a, PySem.W.mg_of X G e, rfl, fun W => dic_rv h1 h2 low h3 mg gn W⟩ q
theorem DeAll.mk {x : Str} {st : Stmt} {N ps : List Str} {T : List De} {f : Addr} {oc kV doc pm cdv ct : Value} {od an : Option Addr} {osl : Array (Option Value)} (X : K.In h) (G : h.Ns mainGlobals mg)
    (a : PySem.W.nsIn K mainGlobals x = some (some (.ref f))) (lk : K.lookup f = some ⟨oc, od, .func (PySem.W.fnOf x x (C8.fnArgs st) (C8.fnBody st) (C8.fnScope st) .none kV doc pm an cdv ct), osl⟩) (c : PySem.W.codeIn K cdv x = true) (kp : PySem.W.keepIn K (.ref f) = true)
    (hb : BindsAll (PySem.W.fnOf x x (C8.fnArgs st) (C8.fnBody st) (C8.fnScope st) .none kV doc pm an cdv ct) ps) (r : DeAll K mg T) : DeAll K mg (⟨x, st, N, ps⟩ :: T) :=
  .cons (d := ⟨x, st, N, ps⟩) ⟨fun_mk lk c, PySem.W.mg_of X G a, kp⟩ hb r
/-- the names that stay the built-ins' -/
inductive BsAll (mg : Str → Option Value) : List Str → Prop where
  | nil : BsAll mg []
  | cons {x : Str} {r : List Str} (e : mg x = none) (q : BsAll mg r) : BsAll mg (x :: r)
theorem BsAll.get {mg : Str → Option Value} : ∀ {l : List Str}, BsAll mg l → ∀ x ∈ l, mg x = none
  | _, .nil, x, h => by cases h
  | _, .cons e q, x, h => by
    rcases List.mem_cons.mp h with rfl | h
    · exact e
    · exact q.get x h
theorem BsAll.mk {x : Str} {r : List Str} (X : K.In h) (G : h.Ns mainGlobals mg) (a : PySem.W.nsIn K mainGlobals x = some none) (q : BsAll mg r) : BsAll mg (x :: r) := .cons (PySem.W.mg_none_of X G a) q
theorem gs_ok {G : Gs} {T : List De} (c : CsAll K w mg gn G.cs) (b : BsAll mg G.bs) (d : DeAll K mg T) (f : G.fs = (T.zip (List.range T.length)).map fun p => (p.1.x, p.2)) : GsOk K w mg gn G T := ⟨c.get, b.get, d.get, fs_of f⟩
theorem fin {l : PySem.W.OpenLaw} {G : Gs} {T : List De} {P : List Fn} {n i : Nat} {d : De} {x : Str} {fa : Addr} (X : K.In h) (hmg : mg d.x = some (.ref fa)) (c : CsAll K w mg [] G.cs) (b : BsAll mg G.bs) (de : DeAll K mg T) (f : G.fs = (T.zip (List.range T.length)).map fun p => (p.1.x, p.2))
    (hl : ∀ (i : Nat) (d : De), T[i]? = some d → ∃ F, P[i]? = some F ∧ lookD G d F = true) (hd : T[i]? = some d) (hps : d.ps = [x]) (pure : ∀ ns : List Int, ns.length ≤ 63 → ∃ h', calls P n i [.scr ns] [] = .ok (.bl true) h') :
    ∃ fd : FuncData, (∀ (s : Shared) (u : Value), BindsTo s fd ⟨[u], []⟩ [(x, u)]) ∧ ∀ base : Heap, K.In base → base.Ns mainGlobals mg → FnOk l.prog w K mg base C8.CX0 n fa fd [x] (spLaw K) := by
  have ok := gs_ok c b de f
  obtain ⟨fa2, fd, D, hb⟩ := ok.de i d hd
  have e := D.mgf.symm.trans hmg
  cases e
  exact law_fn ok hl hd hps D hb pure
end
end Mp

set_option autoImplicit false
/-! Mp18: code that changes no cell, without the cells -/
namespace Mp
def noRef : Va → Bool
  | .ref _ => false
  | _ => true
def plc (f : Va → Option (Option Va)) : List Va → Option (List Va)
  | [] => some []
  | x :: xs => match f x with
    | none => none
    | some o => match plc f xs with
      | none => none
      | some ys => some (match o with | some y => y :: ys | none => ys)
def pfor (tg : Va → Loc → Option Loc) (body : Loc → Option (Fl × Loc)) : List Va → Loc → Option (Fl × Loc)
  | [], ρ => some (.nx, ρ)
  | x :: xs, ρ => match tg x ρ with
    | none => none
    | some ρ => match body ρ with
      | none => none
      | some r => match r.1 with
        | .nx | .ct => pfor tg body xs r.2
        | .bk => some (.nx, r.2)
        | .rt v => some (.rt v, r.2)
abbrev PCall := Nat → List Va → Option Va
def p1 (x : Option Va) (f : Va → Option Va) : Option Va := match x with
  | some v => if noRef v then f v else none
  | none => none
def pstep (g : Option Loc) (ct : Loc → Option Bool) (cv : Loc → Option Va) : Option (Option Va) := match g with
  | none => none
  | some ρ => match ct ρ with
    | none => none
    | some b => if b then (match cv ρ with | some y => some (some y) | none => none) else some none
mutual
def pev (C : PCall) (ρ : Loc) : Ex → Option Va
  | .no => none
  | .k v => some v
  | .v i => match ρ[i]? with
    | some (some v) => some v
    | _ => none
  | .op o a b => p1 (pev C ρ a) fun x => p1 (pev C ρ b) fun y => opv o x y
  | .ch o p a b c => p1 (pev C ρ a) fun x => p1 (pev C ρ b) fun y => match opv o x y with
    | some (.bl true) => p1 (pev C ρ c) fun z => opv p y z
    | some (.bl false) => some (.bl false)
    | _ => none
  | .ng a => p1 (pev C ρ a) fun x => match x with | .int i => some (.int (-i)) | _ => none
  | .nt a => p1 (pev C ρ a) fun x => (tru x).map fun b => .bl (!b)
  | .isN a => p1 (pev C ρ a) fun x => some (.bl (match x with | .non => true | _ => false))
  | .noN a => p1 (pev C ρ a) fun x => some (.bl (match x with | .non => false | _ => true))
  | .an a b => p1 (pev C ρ a) fun x => match tru x with
    | some true => pev C ρ b
    | some false => some x
    | none => none
  | .oo a b => p1 (pev C ρ a) fun x => match tru x with
    | some true => some x
    | some false => pev C ρ b
    | none => none
  | .fi c a b => p1 (pev C ρ c) fun x => match tru x with
    | some true => pev C ρ a
    | some false => pev C ρ b
    | none => none
  | .tu es => match pevs C ρ es with | some xs => if Nat.ble xs.length lim then some (.tup xs) else none | none => none
  | .li es => match pevs C ρ es with | some xs => if Nat.ble xs.length lim then some (.lst xs) else none | none => none
  | .lc1 _ => none
  | .di _ _ => none
  | .ix a b => p1 (pev C ρ a) fun x => match pev C ρ b with | some y => itm x y | none => none
  | .sl a lo hi => p1 (pev C ρ a) fun x => match pevo C ρ lo with
    | some l => match pevo C ρ hi with
      | some u => slv x l u
      | none => none
    | none => none
  | .cf f es => match pevs C ρ es with | some xs => C f xs | none => none
  | .cb b es => match pevs C ρ es with | some xs => if xs.all noRef then blv b xs else none | none => none
  | .isi a ts => p1 (pev C ρ a) fun x => (isTys x ts).map .bl
  | .lc own e t w es cs => match pevs C ρ es with
    | some xs => match wkL w xs with
      | some vs => match plc (fun x => pstep (tgt t x (wipeL ρ own)) (fun ρ => pevt C ρ cs) (fun ρ => pev C ρ e)) vs with
        | some ys => if Nat.ble vs.length lim then some (.lst ys) else none
        | none => none
      | none => none
    | none => none
def pevs (C : PCall) (ρ : Loc) : Exs → Option (List Va)
  | .nil => some []
  | .cons e r => match pev C ρ e with
    | some x => match pevs C ρ r with
      | some xs => some (x :: xs)
      | none => none
    | none => none
def pevo (C : PCall) (ρ : Loc) : Exo → Option (Option Int)
  | .none => some none
  | .some e => match pev C ρ e with
    | some x => (bnd x).map some
    | none => none
def pevt (C : PCall) (ρ : Loc) : Exs → Option Bool
  | .nil => some true
  | .cons e .nil => match pev C ρ e with
    | some x => if noRef x then tru x else none
    | none => none
  | .cons _ (.cons _ _) => none
end
mutual
def pex (C : PCall) : St → Loc → Option (Fl × Loc)
  | .ev e, ρ => match pev C ρ e with | some _ => some (.nx, ρ) | none => none
  | .as t e, ρ => match pev C ρ e with | some x => (tgt t x ρ).map fun ρ => (.nx, ρ) | none => none
  | .sta i j e, ρ => match pev C ρ e with
    | some (.lst (y :: ys)) | some (.tup (y :: ys)) => match tgt (.nm i) y ρ with
      | some ρ => (tgt (.nm j) (.lst ys) ρ).map fun ρ => (.nx, ρ)
      | none => none
    | _ => none
  | .iff c a b, ρ => match pev C ρ c with
    | some x => if noRef x then (match tru x with
      | some true => pexs C a ρ
      | some false => pexs C b ρ
      | none => none) else none
    | none => none
  | .fo t w es b, ρ => match pevs C ρ es with
    | some xs => match wkL w xs with
      | some vs => pfor (tgt t) (pexs C b) vs ρ
      | none => none
    | none => none
  | .rt e, ρ => match pev C ρ e with | some x => some (.rt x, ρ) | none => none
  | .rn, ρ => some (.rt .non, ρ)
  | .ps, ρ => some (.nx, ρ)
  | _, _ => none
def pexs (C : PCall) : Sts → Loc → Option (Fl × Loc)
  | .nil, ρ => some (.nx, ρ)
  | .cons s r, ρ => match pex C s ρ with
    | some q => (match q.1 with
      | .nx => pexs C r q.2
      | f => some (f, q.2))
    | none => none
end
def prun (C : PCall) (F : Fn) (vs : List Va) : Option Va :=
  if vs.length = F.np then match pexs C F.body (start F.ns vs) with
    | some q => (match q.1 with
      | .rt v => some v
      | .nx => some .non
      | _ => none)
    | none => none
  else none
def pcalls (P : List Fn) : Nat → PCall
  | 0, _, _ => none
  | n + 1, f, vs => match P[f]? with
    | some F => prun (pcalls P n) F vs
    | none => none

/-! ### what it tells of the real one -/
def jk (h : Hp) (k : Nat) : Hp := h ++ List.replicate k .gone
theorem jk_jk (h : Hp) (a b : Nat) : jk (jk h a) b = jk h (a + b) := by
  unfold jk
  rw [List.append_assoc, List.replicate_append_replicate]
theorem jk_zero (h : Hp) : jk h 0 = h := by simp [jk]
def Say {α : Type} (f : Hp → Out α) (v : α) : Prop := ∀ h, ∃ k, f h = .ok v (jk h k)
theorem Say.pure {α : Type} (v : α) : Say (fun h => .ok v h) v := fun h => ⟨0, by rw [jk_zero]⟩
theorem Say.bind {α β : Type} {f : Hp → Out α} {g : α → Hp → Out β} {v : α} {w : β} (h1 : Say f v) (h2 : Say (g v) w) : Say (fun h => (f h).bind g) w := fun h => by
  obtain ⟨a, e1⟩ := h1 h
  obtain ⟨b, e2⟩ := h2 (jk h a)
  refine ⟨a + b, ?_⟩
  show (f h).bind g = _
  rw [e1, ← jk_jk]
  exact e2
theorem dr_no {x : Va} (h : Hp) (n : noRef x = true) : dr h x = x := by
  cases x <;> first | rfl | cases n
theorem p1_some {x : Option Va} {f : Va → Option Va} {v : Va} (h : p1 x f = some v) : ∃ u, x = some u ∧ noRef u = true ∧ f u = some v := by
  unfold p1 at h
  split at h
  · rename_i u
    split at h
    · rename_i hn; exact ⟨u, rfl, hn, h⟩
    · cases h
  · cases h
theorem lcg_say {F : Va → Hp → Out (Option Va)} {f : Va → Option (Option Va)} (hf : ∀ x o, f x = some o → Say (F x) o) : ∀ {vs ys : List Va}, plc f vs = some ys → ∀ (h : Hp) (acc : List Va) (k : Nat), acc.length + vs.length ≤ lim → ∃ k', lcg F h.length vs (jk (h ++ [.lst acc]) k) = .ok () (jk (h ++ [.lst (acc ++ ys)]) k')
  | [], ys, e, h, acc, k, hz => by
    simp only [plc, Option.some.injEq] at e
    subst e
    exact ⟨k, by simp [lcg]⟩
  | x :: vs, ys, e, h, acc, k, hz => by
    simp only [plc] at e
    split at e
    · cases e
    rename_i o eo
    split at e
    · cases e
    rename_i zs ez
    simp only [Option.some.injEq] at e
    obtain ⟨k1, e1⟩ := hf x o eo (jk (h ++ [.lst acc]) k)
    rw [jk_jk] at e1
    simp only [List.length_cons] at hz
    cases o with
    | none =>
      obtain ⟨k2, e2⟩ := lcg_say hf ez h acc (k + k1) (by omega)
      subst e
      exact ⟨k2, by simp only [lcg, e1, Out.bind]; exact e2⟩
    | some y =>
      obtain ⟨k2, e2⟩ := lcg_say hf ez h (acc ++ [y]) (k + k1) (by simp; omega)
      subst e
      refine ⟨k2, ?_⟩
      have g1 : (jk (h ++ [Cel.lst acc]) (k + k1))[h.length]? = some (.lst acc) := by simp [jk]
      have g2 : (jk (h ++ [Cel.lst acc]) (k + k1)).set h.length (.lst (acc ++ [y])) = jk (h ++ [.lst (acc ++ [y])]) (k + k1) := by
        unfold jk
        rw [List.set_append_left _ _ (by simp), List.set_append_right _ _ (by simp)]
        simp
      simp only [lcg, e1, Out.bind, g1, g2]
      rw [if_pos (by show Nat.ble (acc.length + 1) lim = true; exact Nat.ble_eq_true_of_le (by omega)), e2]
      simp
theorem forg_say {B : Loc → Hp → Out (Fl × Loc)} {b : Loc → Option (Fl × Loc)} {tg : Va → Loc → Option Loc} (hb : ∀ ρ r, b ρ = some r → Say (B ρ) r) : ∀ {vs : List Va} {ρ : Loc} {q : Fl × Loc}, pfor tg b vs ρ = some q → Say (forg tg B vs ρ) q
  | [], ρ, q, e => by
    simp only [pfor, Option.some.injEq] at e
    subst e
    exact Say.pure _
  | x :: vs, ρ, q, e => by
    simp only [pfor] at e
    split at e
    · cases e
    rename_i ρ1 e1
    split at e
    · cases e
    rename_i r e2
    have h1 := hb ρ1 r e2
    intro h
    simp only [forg, e1]
    refine Say.bind (f := B ρ1) (g := fun r h => match r.1 with
      | .nx | .ct => forg tg B vs r.2 h
      | .bk => .ok (.nx, r.2) h
      | .rt v => .ok (.rt v, r.2) h) h1 ?_ h
    rcases r with ⟨f, ρ2⟩
    cases f with
    | nx => exact forg_say hb e
    | ct => exact forg_say hb e
    | bk => cases e; exact Say.pure _
    | rt v => cases e; exact Say.pure _
mutual
theorem pev_say {C : PCall} {C' : Call} (hC : ∀ f vs v, C f vs = some v → Say (C' f vs) v) : ∀ (m : Ex) {ρ : Loc} {v : Va}, pev C ρ m = some v → Say (ev C' ρ m) v
  | .no, ρ, v, e => by simp [pev] at e
  | .k u, ρ, v, e => by
    simp only [pev, Option.some.injEq] at e
    subst e
    exact Say.pure _
  | .v i, ρ, v, e => by
    simp only [pev] at e
    split at e
    · rename_i u eu
      cases e
      intro h
      exact ⟨0, by simp [ev, eu, jk_zero]⟩
    · cases e
  | .op o a b, ρ, v, e => by
    simp only [pev] at e
    obtain ⟨x, e1, n1, e⟩ := p1_some e
    obtain ⟨y, e2, n2, e⟩ := p1_some e
    refine Say.bind (pev_say hC a e1) (Say.bind (pev_say hC b e2) fun h => ⟨0, ?_⟩)
    rw [dr_no h n1, dr_no h n2, e, jk_zero]
    rfl
  | .ch o p a b c, ρ, v, e => by
    simp only [pev] at e
    obtain ⟨x, e1, n1, e⟩ := p1_some e
    obtain ⟨y, e2, n2, e⟩ := p1_some e
    refine Say.bind (pev_say hC a e1) (Say.bind (pev_say hC b e2) fun h => ?_)
    rw [dr_no h n1, dr_no h n2]
    split at e
    · rename_i eo
      obtain ⟨z, e3, n3, e⟩ := p1_some e
      (try rw [eo])
      refine Say.bind (g := fun z h => ofO (opv p (dr h y) (dr h z)) h) (pev_say hC c e3) (fun h => ⟨0, ?_⟩) h
      dsimp only
      rw [dr_no h n2, dr_no h n3, e, jk_zero]
      rfl
    · rename_i eo
      cases e
      (try rw [eo])
      exact ⟨0, by rw [jk_zero]⟩
    · cases e
  | .ng a, ρ, v, e => by
    simp only [pev] at e
    obtain ⟨x, e1, n1, e⟩ := p1_some e
    refine Say.bind (pev_say hC a e1) fun h => ⟨0, ?_⟩
    rw [jk_zero]
    cases x <;> simp only [reduceCtorEq, Option.some.injEq] at e
    subst e
    rfl
  | .nt a, ρ, v, e => by
    simp only [pev] at e
    obtain ⟨x, e1, n1, e⟩ := p1_some e
    refine Say.bind (pev_say hC a e1) fun h => ⟨0, ?_⟩
    rw [dr_no h n1, jk_zero]
    obtain ⟨b, eb, ev⟩ := Option.map_eq_some_iff.mp e
    rw [eb, ← ev]
  | .isN a, ρ, v, e => by
    simp only [pev] at e
    obtain ⟨x, e1, n1, e⟩ := p1_some e
    refine Say.bind (pev_say hC a e1) fun h => ⟨0, ?_⟩
    rw [jk_zero]
    simp only [Option.some.injEq] at e
    rw [← e] <;> rfl
  | .noN a, ρ, v, e => by
    simp only [pev] at e
    obtain ⟨x, e1, n1, e⟩ := p1_some e
    refine Say.bind (pev_say hC a e1) fun h => ⟨0, ?_⟩
    rw [jk_zero]
    simp only [Option.some.injEq] at e
    rw [← e] <;> rfl
  | .an a b, ρ, v, e => by
    simp only [pev] at e
    obtain ⟨x, e1, n1, e⟩ := p1_some e
    refine Say.bind (pev_say hC a e1) fun h => ?_
    rw [dr_no h n1]
    split at e
    · rename_i et; (try rw [et]); exact pev_say hC b e h
    · rename_i et; (try rw [et]); cases e; exact ⟨0, by rw [jk_zero]⟩
    · cases e
  | .oo a b, ρ, v, e => by
    simp only [pev] at e
    obtain ⟨x, e1, n1, e⟩ := p1_some e
    refine Say.bind (pev_say hC a e1) fun h => ?_
    rw [dr_no h n1]
    split at e
    · rename_i et; (try rw [et]); cases e; exact ⟨0, by rw [jk_zero]⟩
    · rename_i et; (try rw [et]); exact pev_say hC b e h
    · cases e
  | .fi c a b, ρ, v, e => by
    simp only [pev] at e
    obtain ⟨x, e1, n1, e⟩ := p1_some e
    refine Say.bind (pev_say hC c e1) fun h => ?_
    rw [dr_no h n1]
    split at e
    · rename_i et; (try rw [et]); exact pev_say hC a e h
    · rename_i et; (try rw [et]); exact pev_say hC b e h
    · cases e
  | .tu es, ρ, v, e => by
    simp only [pev] at e
    split at e
    · rename_i xs ex
      split at e
      · rename_i hz
        cases e
        exact Say.bind (pevs_say hC es ex) fun h => ⟨0, by rw [if_pos hz, jk_zero]⟩
      · cases e
    · cases e
  | .li es, ρ, v, e => by
    simp only [pev] at e
    split at e
    · rename_i xs ex
      split at e
      · rename_i hz
        cases e
        exact Say.bind (pevs_say hC es ex) fun h => ⟨0, by rw [if_pos hz, jk_zero]⟩
      · cases e
    · cases e
  | .lc1 _, ρ, v, e => by simp [pev] at e
  | .di _ _, ρ, v, e => by simp [pev] at e
  | .ix a b, ρ, v, e => by
    simp only [pev] at e
    obtain ⟨x, e1, n1, e⟩ := p1_some e
    split at e
    · rename_i y ey
      refine Say.bind (pev_say hC a e1) (Say.bind (pev_say hC b ey) fun h => ⟨0, ?_⟩)
      rw [dr_no h n1, e, jk_zero]
      rfl
    · cases e
  | .sl a lo hi, ρ, v, e => by
    simp only [pev] at e
    obtain ⟨x, e1, n1, e⟩ := p1_some e
    split at e
    · rename_i l el
      split at e
      · rename_i u eu
        refine Say.bind (pev_say hC a e1) (Say.bind (pevo_say hC lo el) (Say.bind (pevo_say hC hi eu) fun h => ⟨0, ?_⟩))
        rw [dr_no h n1, e, jk_zero]
        rfl
      · cases e
    · cases e
  | .cf f es, ρ, v, e => by
    simp only [pev] at e
    split at e
    · rename_i xs ex
      exact Say.bind (pevs_say hC es ex) (hC f xs v e)
    · cases e
  | .cb b es, ρ, v, e => by
    simp only [pev] at e
    split at e
    · rename_i xs ex
      split at e
      · rename_i hn
        refine Say.bind (pevs_say hC es ex) fun h => ⟨0, ?_⟩
        have : xs.map (dr h) = xs := by
          rw [List.all_eq_true] at hn
          exact (List.map_congr_left fun x hx => dr_no h (hn x hx)).trans (List.map_id' xs)
        rw [this, e, jk_zero]
        rfl
      · cases e
    · cases e
  | .isi a ts, ρ, v, e => by
    simp only [pev] at e
    obtain ⟨x, e1, n1, e⟩ := p1_some e
    refine Say.bind (pev_say hC a e1) fun h => ⟨0, ?_⟩
    rw [dr_no h n1, jk_zero]
    obtain ⟨b, eb, ev⟩ := Option.map_eq_some_iff.mp e
    rw [eb, ← ev]
  | .lc own m t w es cs, ρ, v, e => by
    simp only [pev] at e
    split at e
    case h_2 => cases e
    rename_i xs ex
    split at e
    case h_2 => cases e
    rename_i vs ew
    split at e
    case h_2 => cases e
    rename_i ys ey
    split at e
    case isFalse => cases e
    rename_i hz
    cases e
    refine Say.bind (pevs_say hC es ex) fun h => ?_
    rw [ew]
    have hf : ∀ x o, pstep (tgt t x (wipeL ρ own)) (fun ρ => pevt C ρ cs) (fun ρ => pev C ρ m) = some o → Say (fun h => stepL (tgt t x (wipeL ρ own)) (fun ρ h => evt C' ρ cs h) (fun ρ h => ev C' ρ m h) h) o := fun x o eo => by
      unfold pstep at eo
      split at eo
      · cases eo
      rename_i ρ1 e1
      split at eo
      · cases eo
      rename_i b e2
      rw [e1]
      show Say (fun h => (evt C' ρ1 cs h).bind fun b h => if b then (ev C' ρ1 m h).bind fun y h => .ok (some y) h else .ok none h) o
      refine Say.bind (pevt_say hC cs e2) ?_
      cases b with
      | false =>
        simp only [Bool.false_eq_true, ↓reduceIte, Option.some.injEq] at eo ⊢
        subst eo
        exact Say.pure _
      | true =>
        simp only [↓reduceIte] at eo ⊢
        split at eo
        · rename_i y e3
          cases eo
          exact Say.bind (pev_say hC m e3) (Say.pure _)
        · cases eo
    obtain ⟨k, ek⟩ := lcg_say hf ey h [] 0 (by have := Nat.le_of_ble_eq_true hz; simpa using this)
    rw [jk_zero] at ek
    dsimp only
    rw [ek]
    refine ⟨k + 1, ?_⟩
    simp only [nox, Out.bind, frz]
    have g1 : (jk (h ++ [Cel.lst ([] ++ ys)]) k)[h.length]? = some (.lst ys) := by simp [jk]
    have g2 : (jk (h ++ [Cel.lst ([] ++ ys)]) k).set h.length .gone = jk h (k + 1) := by
      unfold jk
      rw [List.set_append_left _ _ (by simp), List.set_append_right _ _ (by simp)]
      simp [List.replicate_succ]
    rw [g1]
    dsimp only
    rw [g2]
theorem pevs_say {C : PCall} {C' : Call} (hC : ∀ f vs v, C f vs = some v → Say (C' f vs) v) : ∀ (ms : Exs) {ρ : Loc} {vs : List Va}, pevs C ρ ms = some vs → Say (evs C' ρ ms) vs
  | .nil, ρ, vs, e => by
    simp only [pevs, Option.some.injEq] at e
    subst e
    exact Say.pure _
  | .cons m ms, ρ, vs, e => by
    simp only [pevs] at e
    split at e
    case h_2 => cases e
    rename_i x ex
    split at e
    case h_2 => cases e
    rename_i xs exs
    cases e
    exact Say.bind (pev_say hC m ex) (Say.bind (pevs_say hC ms exs) (Say.pure _))
theorem pevo_say {C : PCall} {C' : Call} (hC : ∀ f vs v, C f vs = some v → Say (C' f vs) v) : ∀ (m : Exo) {ρ : Loc} {o : Option Int}, pevo C ρ m = some o → Say (evo C' ρ m) o
  | .none, ρ, o, e => by
    simp only [pevo, Option.some.injEq] at e
    subst e
    exact Say.pure _
  | .some m, ρ, o, e => by
    simp only [pevo] at e
    split at e
    case h_2 => cases e
    rename_i x ex
    obtain ⟨i, ei, eo⟩ := Option.map_eq_some_iff.mp e
    refine Say.bind (pev_say hC m ex) fun h => ⟨0, ?_⟩
    rw [ei, jk_zero, ← eo]
theorem pevt_say {C : PCall} {C' : Call} (hC : ∀ f vs v, C f vs = some v → Say (C' f vs) v) : ∀ (ms : Exs) {ρ : Loc} {b : Bool}, pevt C ρ ms = some b → Say (evt C' ρ ms) b
  | .nil, ρ, b, e => by
    simp only [pevt, Option.some.injEq] at e
    subst e
    exact Say.pure _
  | .cons m .nil, ρ, b, e => by
    simp only [pevt] at e
    split at e
    case h_2 => cases e
    rename_i x ex
    split at e
    case isFalse => cases e
    rename_i hn
    refine Say.bind (pev_say hC m ex) fun h => ⟨0, ?_⟩
    rw [dr_no h hn, e, jk_zero]
  | .cons _ (.cons _ _), ρ, b, e => by simp [pevt] at e
end
mutual
theorem pex_say {C : PCall} {C' : Call} (hC : ∀ f vs v, C f vs = some v → Say (C' f vs) v) : ∀ (n : St) {ρ : Loc} {q : Fl × Loc}, pex C n ρ = some q → Say (ex C' n ρ) q
  | .no, ρ, q, e => by simp [pex] at e
  | .ev m, ρ, q, e => by
    simp only [pex] at e
    split at e
    case h_2 => cases e
    rename_i x ex
    cases e
    exact Say.bind (pev_say hC m ex) (Say.pure _)
  | .as t m, ρ, q, e => by
    simp only [pex] at e
    split at e
    case h_2 => cases e
    rename_i x ex
    obtain ⟨ρ1, e1, eq⟩ := Option.map_eq_some_iff.mp e
    refine Say.bind (pev_say hC m ex) fun h => ⟨0, ?_⟩
    rw [e1, jk_zero, ← eq]
  | .sta i j m, ρ, q, e => by
    simp only [pex] at e
    split at e
    · rename_i y ys ex
      split at e
      case h_2 => cases e
      rename_i ρ1 e1
      obtain ⟨ρ2, e2, eq⟩ := Option.map_eq_some_iff.mp e
      refine Say.bind (pev_say hC m ex) fun h => ⟨0, ?_⟩
      dsimp only
      rw [e1]
      dsimp only
      rw [e2, jk_zero, ← eq]
    · rename_i y ys ex
      split at e
      case h_2 => cases e
      rename_i ρ1 e1
      obtain ⟨ρ2, e2, eq⟩ := Option.map_eq_some_iff.mp e
      refine Say.bind (pev_say hC m ex) fun h => ⟨0, ?_⟩
      dsimp only
      rw [e1]
      dsimp only
      rw [e2, jk_zero, ← eq]
    · cases e
  | .par .., ρ, q, e => by simp [pex] at e
  | .par3 .., ρ, q, e => by simp [pex] at e
  | .sub .., ρ, q, e => by simp [pex] at e
  | .apd .., ρ, q, e => by simp [pex] at e
  | .rtf _, ρ, q, e => by simp [pex] at e
  | .iff c a b, ρ, q, e => by
    simp only [pex] at e
    split at e
    case h_2 => cases e
    rename_i x ex
    split at e
    case isFalse => cases e
    rename_i hn
    refine Say.bind (pev_say hC c ex) fun h => ?_
    rw [dr_no h hn]
    split at e
    · rename_i et; (try rw [et]); exact pexs_say hC a e h
    · rename_i et; (try rw [et]); exact pexs_say hC b e h
    · cases e
  | .fo t w es b, ρ, q, e => by
    simp only [pex] at e
    split at e
    case h_2 => cases e
    rename_i xs ex
    split at e
    case h_2 => cases e
    rename_i vs ew
    refine Say.bind (pevs_say hC es ex) fun h => ?_
    rw [ew]
    exact forg_say (fun ρ r er => pexs_say hC b er) e h
  | .rt m, ρ, q, e => by
    simp only [pex] at e
    split at e
    case h_2 => cases e
    rename_i x ex
    cases e
    exact Say.bind (pev_say hC m ex) (Say.pure _)
  | .rn, ρ, q, e => by
    simp only [pex, Option.some.injEq] at e
    subst e
    exact Say.pure _
  | .ps, ρ, q, e => by
    simp only [pex, Option.some.injEq] at e
    subst e
    exact Say.pure _
theorem pexs_say {C : PCall} {C' : Call} (hC : ∀ f vs v, C f vs = some v → Say (C' f vs) v) : ∀ (ns : Sts) {ρ : Loc} {q : Fl × Loc}, pexs C ns ρ = some q → Say (exs C' ns ρ) q
  | .nil, ρ, q, e => by
    simp only [pexs, Option.some.injEq] at e
    subst e
    exact Say.pure _
  | .cons n ns, ρ, q, e => by
    simp only [pexs] at e
    split at e
    case h_2 => cases e
    rename_i q1 e1
    refine Say.bind (pex_say hC n e1) ?_
    rcases q1 with ⟨f, ρ1⟩
    cases f with
    | nx => exact pexs_say hC ns e
    | bk => cases e; exact Say.pure _
    | ct => cases e; exact Say.pure _
    | rt v => cases e; exact Say.pure _
end
theorem pcalls_say {P : List Fn} : ∀ (n : Nat) (f : Nat) (vs : List Va) (v : Va), pcalls P n f vs = some v → Say (calls P n f vs) v
  | 0, f, vs, v, e => by simp [pcalls] at e
  | n + 1, f, vs, v, e => by
    simp only [pcalls] at e
    split at e
    case h_2 => cases e
    rename_i F hF
    unfold prun at e
    split at e
    case isFalse => cases e
    rename_i hn
    split at e
    case h_2 => cases e
    rename_i q eq
    intro h
    simp only [calls, hF, runF]
    rw [if_pos hn]
    refine Say.bind (g := fun q h => match q.1 with
      | .rt v => .ok v h
      | .nx => .ok .non h
      | _ => .bad) (pexs_say (fun f vs v e => pcalls_say n f vs v e) F.body eq) ?_ h
    rcases q with ⟨f, ρ⟩
    cases f with
    | nx => cases e; exact Say.pure _
    | bk => cases e
    | ct => cases e
    | rt v => cases e; exact Say.pure _
end Mp

set_option autoImplicit false
/-! Mp19: rules to run pure code on open values -/
namespace Mp
section
variable {C : PCall} {ρ : Loc} {a b c : Ex} {v x y z : Va} {es cs : Exs} {xs vs ys : List Va}
theorem e_v {i : Nat} (h : ρ[i]? = some (some v)) : pev C ρ (.v i) = some v := by simp [pev, h]
theorem e_k : pev C ρ (.k v) = some v := by simp [pev]
theorem e_op {o : Op} (ha : pev C ρ a = some x) (hb : pev C ρ b = some y) (h : opv o x y = some v) (nx : noRef x = true := by rfl) (ny : noRef y = true := by rfl) : pev C ρ (.op o a b) = some v := by simp [pev, p1, ha, hb, nx, ny, h]
theorem e_chT {o p : Op} (ha : pev C ρ a = some x) (hb : pev C ρ b = some y) (hc : pev C ρ c = some z) (h1 : opv o x y = some (.bl true)) (h2 : opv p y z = some v) (nx : noRef x = true := by rfl) (ny : noRef y = true := by rfl) (nz : noRef z = true := by rfl) : pev C ρ (.ch o p a b c) = some v := by simp [pev, p1, ha, hb, hc, nx, ny, nz, h1, h2]
theorem e_chF {o p : Op} (ha : pev C ρ a = some x) (hb : pev C ρ b = some y) (h1 : opv o x y = some (.bl false)) (nx : noRef x = true := by rfl) (ny : noRef y = true := by rfl) : pev C ρ (.ch o p a b c) = some (.bl false) := by simp [pev, p1, ha, hb, nx, ny, h1]
theorem e_nt {t : Bool} (ha : pev C ρ a = some x) (h : tru x = some t) (nx : noRef x = true := by rfl) : pev C ρ (.nt a) = some (.bl (!t)) := by simp [pev, p1, ha, nx, h]
theorem e_anT (ha : pev C ρ a = some x) (h : tru x = some true) (hb : pev C ρ b = some v) (nx : noRef x = true := by rfl) : pev C ρ (.an a b) = some v := by simp [pev, p1, ha, nx, h, hb]
theorem e_anF (ha : pev C ρ a = some x) (h : tru x = some false) (nx : noRef x = true := by rfl) : pev C ρ (.an a b) = some x := by simp [pev, p1, ha, nx, h]
theorem e_ooT (ha : pev C ρ a = some x) (h : tru x = some true) (nx : noRef x = true := by rfl) : pev C ρ (.oo a b) = some x := by simp [pev, p1, ha, nx, h]
theorem e_ooF (ha : pev C ρ a = some x) (h : tru x = some false) (hb : pev C ρ b = some v) (nx : noRef x = true := by rfl) : pev C ρ (.oo a b) = some v := by simp [pev, p1, ha, nx, h, hb]
theorem e_fiT (hc : pev C ρ c = some x) (h : tru x = some true) (ha : pev C ρ a = some v) (nx : noRef x = true := by rfl) : pev C ρ (.fi c a b) = some v := by simp [pev, p1, hc, nx, h, ha]
theorem e_fiF (hc : pev C ρ c = some x) (h : tru x = some false) (hb : pev C ρ b = some v) (nx : noRef x = true := by rfl) : pev C ρ (.fi c a b) = some v := by simp [pev, p1, hc, nx, h, hb]
theorem es_nil : pevs C ρ .nil = some [] := by simp [pevs]
theorem es_cons (h : pev C ρ a = some x) (r : pevs C ρ es = some xs) : pevs C ρ (.cons a es) = some (x :: xs) := by simp [pevs, h, r]
theorem es_one (h : pev C ρ a = some x) : pevs C ρ (.cons a .nil) = some [x] := es_cons h es_nil
theorem es_two (h : pev C ρ a = some x) (h2 : pev C ρ b = some y) : pevs C ρ (.cons a (.cons b .nil)) = some [x, y] := es_cons h (es_one h2)
theorem e_tu (h : pevs C ρ es = some xs) (hl : xs.length ≤ lim) : pev C ρ (.tu es) = some (.tup xs) := by simp [pev, h, hl]
theorem e_li (h : pevs C ρ es = some xs) (hl : xs.length ≤ lim) : pev C ρ (.li es) = some (.lst xs) := by simp [pev, h, hl]
theorem e_ix (ha : pev C ρ a = some x) (hb : pev C ρ b = some y) (h : itm x y = some v) (nx : noRef x = true := by rfl) : pev C ρ (.ix a b) = some v := by simp [pev, p1, ha, nx, hb, h]
theorem e_sl {lo hi : Exo} {l u : Option Int} (ha : pev C ρ a = some x) (hl : pevo C ρ lo = some l) (hu : pevo C ρ hi = some u) (h : slv x l u = some v) (nx : noRef x = true := by rfl) : pev C ρ (.sl a lo hi) = some v := by simp [pev, p1, ha, nx, hl, hu, h]
theorem e_cf {f : Nat} (h : pevs C ρ es = some xs) (hf : C f xs = some v) : pev C ρ (.cf f es) = some v := by simp [pev, h, hf]
theorem e_cb {f : Bl} (h : pevs C ρ es = some xs) (hf : blv f xs = some v) (hn : xs.all noRef = true := by rfl) : pev C ρ (.cb f es) = some v := by simp only [pev, h, hn, ↓reduceIte, hf]
theorem e_isi {ts : List Ty} {t : Bool} (ha : pev C ρ a = some x) (h : isTys x ts = some t) (nx : noRef x = true := by rfl) : pev C ρ (.isi a ts) = some (.bl t) := by simp [pev, p1, ha, nx, h]
theorem plc_map {f : Va → Option (Option Va)} {g : Va → Va} : ∀ {vs : List Va}, (∀ x ∈ vs, f x = some (some (g x))) → plc f vs = some (vs.map g)
  | [], _ => rfl
  | x :: vs, h => by
    simp only [plc, h x (by simp), plc_map (vs := vs) fun y hy => h y (by simp [hy]), List.map_cons]
theorem plc_filter {f : Va → Option (Option Va)} {p : Va → Bool} : ∀ {vs : List Va}, (∀ x ∈ vs, f x = some (if p x then some x else none)) → plc f vs = some (vs.filter p)
  | [], _ => rfl
  | x :: vs, h => by
    simp only [plc, h x (by simp), plc_filter (vs := vs) fun y hy => h y (by simp [hy]), List.filter_cons]
    cases p x <;> rfl
/-- a comprehension without a test -/
theorem e_lc {w : Wk} {own : List Nat} {e : Ex} {t : Tg} {g : Va → Va} (h1 : pevs C ρ es = some xs) (h2 : wkL w xs = some vs) (hl : vs.length ≤ lim) (h3 : ∀ x ∈ vs, ∃ ρ', tgt t x (wipeL ρ own) = some ρ' ∧ pev C ρ' e = some (g x)) :
    pev C ρ (.lc own e t w es .nil) = some (.lst (vs.map g)) := by
  have key : plc (fun x => pstep (tgt t x (wipeL ρ own)) (fun ρ => pevt C ρ .nil) (fun ρ => pev C ρ e)) vs = some (vs.map g) := plc_map fun x hx => by
    obtain ⟨ρ', e1, e2⟩ := h3 x hx
    simp [pstep, e1, pevt, e2]
  have hb : Nat.ble vs.length lim = true := Nat.ble_eq_true_of_le hl
  simp only [pev, h1, h2, key, hb, ↓reduceIte]
/-- .. with one -/
theorem e_lcf {w : Wk} {own : List Nat} {e c : Ex} {t : Tg} {p : Va → Bool} (h1 : pevs C ρ es = some xs) (h2 : wkL w xs = some vs) (hl : vs.length ≤ lim) (h3 : ∀ x ∈ vs, ∃ ρ' u, tgt t x (wipeL ρ own) = some ρ' ∧ pev C ρ' c = some u ∧ noRef u = true ∧ tru u = some (p x) ∧ pev C ρ' e = some x) :
    pev C ρ (.lc own e t w es (.cons c .nil)) = some (.lst (vs.filter p)) := by
  have key : plc (fun x => pstep (tgt t x (wipeL ρ own)) (fun ρ => pevt C ρ (.cons c .nil)) (fun ρ => pev C ρ e)) vs = some (vs.filter p) := plc_filter fun x hx => by
    obtain ⟨ρ', u, e1, e2, e3, e4, e5⟩ := h3 x hx
    cases hp : p x <;> simp [pstep, e1, pevt, e2, e3, e4, e5, hp]
  have hb : Nat.ble vs.length lim = true := Nat.ble_eq_true_of_le hl
  simp only [pev, h1, h2, key, hb, ↓reduceIte]
theorem plc_mapm {α : Type} {f : Va → Option (Option Va)} {φ ψ : α → Va} : ∀ {l : List α}, (∀ a ∈ l, f (φ a) = some (some (ψ a))) → plc f (l.map φ) = some (l.map ψ)
  | [], _ => rfl
  | a :: l, h => by
    simp only [List.map_cons, plc, h a (by simp), plc_mapm (l := l) fun y hy => h y (by simp [hy])]
/-- a comprehension over what stands for the items of l -/
theorem e_lcm {α : Type} {w : Wk} {own : List Nat} {e : Ex} {t : Tg} (l : List α) (φ ψ : α → Va) (h1 : pevs C ρ es = some xs) (h2 : wkL w xs = some (l.map φ)) (hl : l.length ≤ lim) (h3 : ∀ a ∈ l, ∃ ρ', tgt t (φ a) (wipeL ρ own) = some ρ' ∧ pev C ρ' e = some (ψ a)) :
    pev C ρ (.lc own e t w es .nil) = some (.lst (l.map ψ)) := by
  have key : plc (fun x => pstep (tgt t x (wipeL ρ own)) (fun ρ => pevt C ρ .nil) (fun ρ => pev C ρ e)) (l.map φ) = some (l.map ψ) := plc_mapm fun x hx => by
    obtain ⟨ρ', e1, e2⟩ := h3 x hx
    simp [pstep, e1, pevt, e2]
  have hb : Nat.ble (l.map φ).length lim = true := Nat.ble_eq_true_of_le (by simpa using hl)
  simp only [pev, h1, h2, key, hb, ↓reduceIte]
/-! ### statements -/
variable {q : Fl × Loc} {ss n1 n2 : Sts} {s : St}
theorem s_rt' (h : pev C ρ a = some v) : pexs C (.cons (.rt a) ss) ρ = some (.rt v, ρ) := by simp [pexs, pex, h]
theorem s_as' {t : Tg} {ρ' : Loc} (h : pev C ρ a = some v) (ht : tgt t v ρ = some ρ') (r : pexs C ss ρ' = some q) : pexs C (.cons (.as t a) ss) ρ = some q := by simp [pexs, pex, h, ht, r]
theorem s_ifT {w : Va} {ρ' : Loc} (h : pev C ρ a = some x) (ht : tru x = some true) (r : pexs C n1 ρ = some (.rt w, ρ')) (nx : noRef x = true := by rfl) : pexs C (.cons (.iff a n1 n2) ss) ρ = some (.rt w, ρ') := by simp [pexs, pex, h, nx, ht, r]
theorem s_ifTn {ρ' : Loc} (h : pev C ρ a = some x) (ht : tru x = some true) (r : pexs C n1 ρ = some (.nx, ρ')) (k : pexs C ss ρ' = some q) (nx : noRef x = true := by rfl) : pexs C (.cons (.iff a n1 n2) ss) ρ = some q := by simp [pexs, pex, h, nx, ht, r, k]
theorem s_ifF (h : pev C ρ a = some x) (ht : tru x = some false) (r : pexs C ss ρ = some q) (nx : noRef x = true := by rfl) : pexs C (.cons (.iff a n1 .nil) ss) ρ = some q := by simp [pexs, pex, h, nx, ht, r]
theorem s_sta' {i j : Nat} {ρ1 ρ2 : Loc} (h : pev C ρ a = some (.lst (x :: xs)) ∨ pev C ρ a = some (.tup (x :: xs))) (h1 : tgt (.nm i) x ρ = some ρ1) (h2 : tgt (.nm j) (.lst xs) ρ1 = some ρ2) (r : pexs C ss ρ2 = some q) : pexs C (.cons (.sta i j a) ss) ρ = some q := by
  rcases h with h | h <;> simp [pexs, pex, h, h1, h2, r]
theorem prun_of {F : Fn} {ρ' : Loc} (hl : vs.length = F.np) (h : pexs C F.body (start F.ns vs) = some (.rt v, ρ')) : prun C F vs = some v := by simp [prun, hl, h]
/-- the statements come to return v -/
def Rt (C : PCall) (ss : Sts) (ρ : Loc) (v : Va) : Prop := ∃ ρ', pexs C ss ρ = some (.rt v, ρ')
theorem r_rt (h : pev C ρ a = some v) : Rt C (.cons (.rt a) ss) ρ v := ⟨_, s_rt' h⟩
theorem r_as {t : Tg} {ρ' : Loc} (h : pev C ρ a = some x) (ht : tgt t x ρ = some ρ') (r : Rt C ss ρ' v) : Rt C (.cons (.as t a) ss) ρ v := ⟨_, s_as' h ht r.choose_spec⟩
theorem r_ifT (h : pev C ρ a = some x) (ht : tru x = some true) (r : Rt C n1 ρ v) (nx : noRef x = true := by rfl) : Rt C (.cons (.iff a n1 n2) ss) ρ v := ⟨_, s_ifT h ht r.choose_spec nx⟩
theorem r_ifN {ρ' : Loc} (h : pev C ρ a = some x) (ht : tru x = some true) (r : pexs C n1 ρ = some (.nx, ρ')) (k : Rt C ss ρ' v) (nx : noRef x = true := by rfl) : Rt C (.cons (.iff a n1 n2) ss) ρ v := ⟨_, s_ifTn h ht r k.choose_spec nx⟩
theorem r_ifF (h : pev C ρ a = some x) (ht : tru x = some false) (r : Rt C ss ρ v) (nx : noRef x = true := by rfl) : Rt C (.cons (.iff a n1 .nil) ss) ρ v := ⟨_, s_ifF h ht r.choose_spec nx⟩
theorem r_sta {i j : Nat} {ρ1 ρ2 : Loc} (h : pev C ρ a = some (.lst (x :: xs)) ∨ pev C ρ a = some (.tup (x :: xs))) (h1 : tgt (.nm i) x ρ = some ρ1) (h2 : tgt (.nm j) (.lst xs) ρ1 = some ρ2) (r : Rt C ss ρ2 v) : Rt C (.cons (.sta i j a) ss) ρ v := ⟨_, s_sta' h h1 h2 r.choose_spec⟩
theorem pc_of {P : List Fn} {n f : Nat} {F : Fn} (hF : P[f]? = some F) (hl : vs.length = F.np) (h : Rt (pcalls P n) F.body (start F.ns vs) v) : pcalls P (n + 1) f vs = some v := by
  simp only [pcalls, hF]
  exact prun_of hl h.choose_spec
end
end Mp

set_option autoImplicit false
/-! Mp20: code that draws -/
namespace Mp
/-- the box of draws stands in cell 0 -/
def bxv (cs : List Int) (i x y z : Int) : List Va := [.lst (cs.map .int), .int i, .int x, .int y, .int z]
def Good (cs : List Int) (h : Hp) : Prop := ∃ i x y z : Int, h[0]? = some (.lst (bxv cs i x y z)) ∧ 0 ≤ i ∧ 0 ≤ x ∧ 0 ≤ y ∧ y < 2147483629
structure Fr (cs : List Int) (h h' : Hp) : Prop where
  len : h.length ≤ h'.length
  same : ∀ j, 1 ≤ j → j < h.length → h'[j]? = h[j]?
  good : Good cs h'
theorem Fr.refl {cs : List Int} {h : Hp} (g : Good cs h) : Fr cs h h := ⟨Nat.le_refl _, fun _ _ _ => rfl, g⟩
theorem Fr.trans {cs : List Int} {a b c : Hp} (x : Fr cs a b) (y : Fr cs b c) : Fr cs a c :=
  ⟨Nat.le_trans x.len y.len, fun j h1 h2 => (y.same j h1 (Nat.lt_of_lt_of_le h2 x.len)).trans (x.same j h1 h2), y.good⟩
theorem Good.pos {cs : List Int} {h : Hp} (g : Good cs h) : 0 < h.length := by
  obtain ⟨i, x, y, z, e, _⟩ := g
  exact (List.getElem?_eq_some_iff.mp e).1
theorem Fr.junk {cs : List Int} {h : Hp} (g : Good cs h) (k : Nat) : Fr cs h (jk h k) := by
  have hp := g.pos
  refine ⟨by simp [jk], fun j _ hj => by unfold jk; rw [List.getElem?_append_left hj], ?_⟩
  obtain ⟨i, x, y, z, e, r⟩ := g
  exact ⟨i, x, y, z, by unfold jk; rw [List.getElem?_append_left hp]; exact e, r⟩
theorem Fr.box {cs : List Int} {h : Hp} (g : Good cs h) {i x y z : Int} (h1 : 0 ≤ i) (h2 : 0 ≤ x) (h3 : 0 ≤ y) (h4 : y < 2147483629) : Fr cs h (h.set 0 (.lst (bxv cs i x y z))) := by
  refine ⟨by simp, fun j hj _ => by rw [List.getElem?_set_ne (by omega)], ⟨i, x, y, z, by rw [List.getElem?_set_self g.pos], h1, h2, h3, h4⟩⟩
/-! ### the draw itself -/
section
variable {C : Call} {ρ : Loc} {h : Hp}
theorem rd0 {a b c d e : Va} (hr : ρ[0]? = some (some (.ref 0))) (hb : h[0]? = some (.lst [a, b, c, d, e])) : ev C ρ (.ix (.v 0) (.k (.int 0))) h = .ok a h ∧ ev C ρ (.ix (.v 0) (.k (.int 1))) h = .ok b h ∧ ev C ρ (.ix (.v 0) (.k (.int 2))) h = .ok c h ∧ ev C ρ (.ix (.v 0) (.k (.int 3))) h = .ok d h ∧ ev C ρ (.ix (.v 0) (.k (.int 4))) h = .ok e h := by
  refine ⟨?_, ?_, ?_, ?_, ?_⟩ <;> simp only [ev, hr, Out.bind, dr, hb] <;> rfl
theorem wr0 {xs : List Va} {k : Int} {m : Ex} {v : Va} (hr : ρ[0]? = some (some (.ref 0))) (hb : h[0]? = some (.lst xs)) (hk : 0 ≤ k ∧ k < xs.length) (e : ev C ρ m h = .ok v h) : ex C (.sub (.v 0) (.k (.int k)) m) ρ h = .ok (.nx, ρ) (h.set 0 (.lst (xs.set k.toNat v))) := by
  have hs : setL xs k v = some (xs.set k.toNat v) := by
    unfold setL
    rw [if_pos (by simp [hk.1, hk.2])]
  simp only [ex, e, Out.bind, ev, hr, hb, hs]
theorem ev_op {o : Op} {a b : Ex} {x y v : Va} (ha : ev C ρ a h = .ok x h) (hb : ev C ρ b h = .ok y h) (e : opv o (dr h x) (dr h y) = some v) : ev C ρ (.op o a b) h = .ok v h := by
  simp only [ev, ha, hb, Out.bind, e, ofO]
theorem ev_k {v : Va} : ev C ρ (.k v) h = .ok v h := by simp only [ev]
theorem ev_anT {a b : Ex} {x : Va} (ha : ev C ρ a h = .ok x h) (t : tru (dr h x) = some true) : ev C ρ (.an a b) h = ev C ρ b h := by
  simp only [ev, ha, Out.bind, t]
theorem ev_anF {a b : Ex} {x : Va} (ha : ev C ρ a h = .ok x h) (t : tru (dr h x) = some false) : ev C ρ (.an a b) h = .ok x h := by
  simp only [ev, ha, Out.bind, t]
theorem ev_ix {a b : Ex} {x y v : Va} (ha : ev C ρ a h = .ok x h) (hb : ev C ρ b h = .ok y h) (e : itm (dr h x) y = some v) : ev C ρ (.ix a b) h = .ok v h := by
  simp only [ev, ha, hb, Out.bind, e, ofO]
theorem ev_cb1 {f : Bl} {a : Ex} {x v : Va} (ha : ev C ρ a h = .ok x h) (e : blv f [dr h x] = some v) : ev C ρ (.cb f (.cons a .nil)) h = .ok v h := by
  simp only [ev, evs, ha, Out.bind, List.map_cons, List.map_nil, e, ofO]
theorem ev_cb2 {f : Bl} {a b : Ex} {x y v : Va} (ha : ev C ρ a h = .ok x h) (hb : ev C ρ b h = .ok y h) (e : blv f [dr h x, dr h y] = some v) : ev C ρ (.cb f (.cons a (.cons b .nil))) h = .ok v h := by
  simp only [ev, evs, ha, hb, Out.bind, List.map_cons, List.map_nil, e, ofO]
theorem xs_nx {s : St} {r : Sts} {ρ' : Loc} {h' : Hp} (e : ex C s ρ h = .ok (.nx, ρ') h') : exs C (.cons s r) ρ h = exs C r ρ' h' := by
  simp only [exs, e, Out.bind]
theorem xs_rt {s : St} {r : Sts} {ρ' : Loc} {h' : Hp} {v : Va} (e : ex C s ρ h = .ok (.rt v, ρ') h') : exs C (.cons s r) ρ h = .ok (.rt v, ρ') h' := by
  simp only [exs, e, Out.bind]
theorem x_ifT {c : Ex} {a b : Sts} {x : Va} {h' : Hp} (e : ev C ρ c h = .ok x h') (t : tru (dr h' x) = some true) : ex C (.iff c a b) ρ h = exs C a ρ h' := by
  simp only [ex, e, Out.bind, t]
theorem x_ifF {c : Ex} {a b : Sts} {x : Va} {h' : Hp} (e : ev C ρ c h = .ok x h') (t : tru (dr h' x) = some false) : ex C (.iff c a b) ρ h = exs C b ρ h' := by
  simp only [ex, e, Out.bind, t]
theorem x_as {t : Tg} {m : Ex} {x : Va} {ρ' : Loc} {h' : Hp} (e : ev C ρ m h = .ok x h') (g : tgt t x ρ = some ρ') : ex C (.as t m) ρ h = .ok (.nx, ρ') h' := by
  simp only [ex, e, Out.bind, g]
theorem xs_nil : exs C .nil ρ h = .ok (.nx, ρ) h := by simp only [exs]
def drawB : Sts := (.cons (.iff (.an (.op .lt (.ix (.v 0) (.k (.int 2))) (.k (.int 1))) (.op .lt (.ix (.v 0) (.k (.int 1))) (.cb .len (.cons (.ix (.v 0) (.k (.int 0))) .nil)))) (.cons (.as (.nm 2) (.ix (.ix (.v 0) (.k (.int 0))) (.ix (.v 0) (.k (.int 1))))) (.cons (.sub (.v 0) (.k (.int 1)) (.op .add (.ix (.v 0) (.k (.int 1))) (.k (.int 1)))) (.cons (.sub (.v 0) (.k (.int 2)) (.cb .max2 (.cons (.k (.int 0)) (.cons (.op .sub (.v 2) (.op .pow (.k (.int 10)) (.k (.int 18)))) .nil)))) (.cons (.sub (.v 0) (.k (.int 3)) (.op .mod (.op .add (.op .add (.op .mul (.ix (.v 0) (.k (.int 3))) (.k (.int 48271))) (.op .mul (.op .mod (.v 2) (.k (.int 2147483629))) (.k (.int 7)))) (.k (.int 11))) (.k (.int 2147483629)))) .nil)))) .nil) (.cons (.iff (.op .gt (.ix (.v 0) (.k (.int 2))) (.k (.int 0))) (.cons (.as (.nm 3) (.op .mod (.ix (.v 0) (.k (.int 2))) (.v 1))) (.cons (.sub (.v 0) (.k (.int 2)) (.op .fdv (.ix (.v 0) (.k (.int 2))) (.v 1))) (.cons (.rt (.v 3)) .nil))) .nil) (.cons (.sub (.v 0) (.k (.int 4)) (.op .add (.ix (.v 0) (.k (.int 4))) (.k (.int 1)))) (.cons (.sub (.v 0) (.k (.int 3)) (.op .mod (.op .add (.op .add (.op .pow (.ix (.v 0) (.k (.int 3))) (.k (.int 3))) (.op .mul (.k (.int 69621)) (.ix (.v 0) (.k (.int 4))))) (.k (.int 5))) (.k (.int 2147483629)))) (.cons (.rt (.op .mod (.op .fdv (.ix (.v 0) (.k (.int 3))) (.k (.int 64))) (.v 1))) .nil)))))
theorem mod_lt {a b : Int} (h : 0 < b) : 0 ≤ a % b ∧ a % b < b := ⟨Int.emod_nonneg _ (by omega), Int.emod_lt_of_pos _ h⟩
theorem opI_mod {a b : Int} (h : 0 < b) : opv .mod (.int a) (.int b) = some (.int (a % b)) := by simp [opv, h]
theorem opI_fdv {a b : Int} (h : 0 < b) (h2 : b < 2 ^ 64) : opv .fdv (.int a) (.int b) = some (.int (a / b)) := by simp only [opv]; rw [if_pos (by simp only [Bool.and_eq_true, decide_eq_true_eq]; exact ⟨h, h2⟩)]
/-- from the second test on -/
theorem draw2 {cs : List Int} {many : Int} {r2 : Option Va} (hm : 0 < many) (hm2 : many < 2 ^ 64) (g : Good cs h) : ∃ (ρ' : Loc) (r : Int) (h' : Hp), exs C (.cons (.iff (.op .gt (.ix (.v 0) (.k (.int 2))) (.k (.int 0))) (.cons (.as (.nm 3) (.op .mod (.ix (.v 0) (.k (.int 2))) (.v 1))) (.cons (.sub (.v 0) (.k (.int 2)) (.op .fdv (.ix (.v 0) (.k (.int 2))) (.v 1))) (.cons (.rt (.v 3)) .nil))) .nil) (.cons (.sub (.v 0) (.k (.int 4)) (.op .add (.ix (.v 0) (.k (.int 4))) (.k (.int 1)))) (.cons (.sub (.v 0) (.k (.int 3)) (.op .mod (.op .add (.op .add (.op .pow (.ix (.v 0) (.k (.int 3))) (.k (.int 3))) (.op .mul (.k (.int 69621)) (.ix (.v 0) (.k (.int 4))))) (.k (.int 5))) (.k (.int 2147483629)))) (.cons (.rt (.op .mod (.op .fdv (.ix (.v 0) (.k (.int 3))) (.k (.int 64))) (.v 1))) .nil)))) [some (.ref 0), some (.int many), r2, none] h = .ok (.rt (.int r), ρ') h' ∧ Fr cs h h' ∧ 0 ≤ r ∧ r < many := by
  obtain ⟨i, x, y, z, hb, hi, hx, hy, hy2⟩ := id g
  have hp := g.pos
  obtain ⟨q0, q1, q2, q3, q4⟩ := rd0 (C := C) (ρ := [some (.ref 0), some (.int many), r2, none]) rfl hb
  have v1 : ev C [some (.ref 0), some (.int many), r2, none] (.v 1) h = .ok (.int many) h := by simp [ev]
  have tst : ev C [some (.ref 0), some (.int many), r2, none] (.op .gt (.ix (.v 0) (.k (.int 2))) (.k (.int 0))) h = .ok (.bl (decide (0 < x))) h := ev_op q2 ev_k rfl
  by_cases hx0 : 0 < x
  · have p2 := rd0 (C := C) (ρ := [some (.ref 0), some (.int many), r2, some (.int (x % many))]) rfl hb
    have w1 : ev C [some (.ref 0), some (.int many), r2, some (.int (x % many))] (.v 1) h = .ok (.int many) h := by simp [ev]
    have a1 : ex C (.as (.nm 3) (.op .mod (.ix (.v 0) (.k (.int 2))) (.v 1))) [some (.ref 0), some (.int many), r2, none] h = .ok (.nx, [some (.ref 0), some (.int many), r2, some (.int (x % many))]) h := by
      simp only [ex, ev_op q2 v1 (show opv .mod (dr h (.int x)) (dr h (.int many)) = _ from opI_mod hm), Out.bind]
      rfl
    have a2 := wr0 (C := C) (k := 2) (m := .op .fdv (.ix (.v 0) (.k (.int 2))) (.v 1)) (ρ := [some (.ref 0), some (.int many), r2, some (.int (x % many))]) rfl hb ⟨by decide, by simp [bxv]⟩ (ev_op p2.2.2.1 w1 (show opv .fdv (dr h (.int x)) (dr h (.int many)) = _ from opI_fdv hm hm2))
    have e2 : (bxv cs i x y z).set (2 : Int).toNat (.int (x / many)) = bxv cs i (x / many) y z := rfl
    rw [e2] at a2
    refine ⟨[some (.ref 0), some (.int many), r2, some (.int (x % many))], x % many, h.set 0 (.lst (bxv cs i (x / many) y z)), ?_, Fr.box g hi (Int.ediv_nonneg hx (by omega)) hy hy2, (mod_lt hm).1, (mod_lt hm).2⟩
    have a3 : ev C [some (.ref 0), some (.int many), r2, some (.int (x % many))] (.v 3) (h.set 0 (.lst (bxv cs i (x / many) y z))) = .ok (.int (x % many)) (h.set 0 (.lst (bxv cs i (x / many) y z))) := by simp [ev]
    simp only [exs, ex, tst, Out.bind, dr, tru, hx0, decide_true]
    simp only [ex, Out.bind] at a1 a2
    simp only [a1, a2, a3]
  · have a1 := wr0 (C := C) (k := 4) (m := .op .add (.ix (.v 0) (.k (.int 4))) (.k (.int 1))) (ρ := [some (.ref 0), some (.int many), r2, none]) rfl hb ⟨by decide, by simp [bxv]⟩ (ev_op q4 ev_k (show opv .add (dr h (.int z)) (dr h (.int 1)) = some (.int (z + 1)) from rfl))
    have e1 : (bxv cs i x y z).set (4 : Int).toNat (.int (z + 1)) = bxv cs i x y (z + 1) := rfl
    rw [e1] at a1
    have hb1 : (h.set 0 (.lst (bxv cs i x y (z + 1))))[0]? = some (.lst (bxv cs i x y (z + 1))) := List.getElem?_set_self hp
    obtain ⟨s0, s1, s2, s3, s4⟩ := rd0 (C := C) (ρ := [some (.ref 0), some (.int many), r2, none]) rfl hb1
    have pw : opv .pow (.int y) (.int 3) = some (.int (y ^ 3)) := by
      have : sml y = true := by unfold sml; rw [Bool.and_eq_true, decide_eq_true_eq, decide_eq_true_eq]; constructor <;> omega
      simp only [opv, this]
      rfl
    have ml : opv .mul (.int 69621) (.int (z + 1)) = some (.int (69621 * (z + 1))) := by
      have : sml 69621 = true := by decide
      simp only [opv, this, Bool.true_or, ↓reduceIte]
    have a2 := wr0 (C := C) (k := 3) (m := .op .mod (.op .add (.op .add (.op .pow (.ix (.v 0) (.k (.int 3))) (.k (.int 3))) (.op .mul (.k (.int 69621)) (.ix (.v 0) (.k (.int 4))))) (.k (.int 5))) (.k (.int 2147483629))) (ρ := [some (.ref 0), some (.int many), r2, none]) rfl hb1 ⟨by decide, by simp [bxv]⟩
      (ev_op (ev_op (ev_op (ev_op s3 ev_k pw) (ev_op ev_k s4 ml) (show opv .add (.int (y ^ 3)) (.int (69621 * (z + 1))) = _ from rfl)) ev_k (show opv .add (.int (y ^ 3 + 69621 * (z + 1))) (.int 5) = _ from rfl)) ev_k (show opv .mod (.int (y ^ 3 + 69621 * (z + 1) + 5)) (.int 2147483629) = _ from opI_mod (by decide)))
    generalize hY : (y ^ 3 + 69621 * (z + 1) + 5) % 2147483629 = Y at a2
    have hY2 : 0 ≤ Y ∧ Y < 2147483629 := by rw [← hY]; exact mod_lt (by decide)
    have e2 : (bxv cs i x y (z + 1)).set (3 : Int).toNat (.int Y) = bxv cs i x Y (z + 1) := rfl
    rw [e2, List.set_set] at a2
    have hb2 : (h.set 0 (.lst (bxv cs i x Y (z + 1))))[0]? = some (.lst (bxv cs i x Y (z + 1))) := List.getElem?_set_self hp
    obtain ⟨t0, t1, t2, t3, t4⟩ := rd0 (C := C) (ρ := [some (.ref 0), some (.int many), r2, none]) rfl hb2
    have v12 : ev C [some (.ref 0), some (.int many), r2, none] (.v 1) (h.set 0 (.lst (bxv cs i x Y (z + 1)))) = .ok (.int many) (h.set 0 (.lst (bxv cs i x Y (z + 1)))) := by simp [ev]
    have a3 := ev_op (o := .mod) (x := .int (Y / 64)) (y := .int many) (ev_op (o := .fdv) (x := .int Y) (y := .int 64) t3 ev_k (opI_fdv (by decide) (by decide))) v12 (opI_mod hm)
    refine ⟨[some (.ref 0), some (.int many), r2, none], Y / 64 % many, h.set 0 (.lst (bxv cs i x Y (z + 1))), ?_, Fr.box g hi hx hY2.1 hY2.2, (mod_lt hm).1, (mod_lt hm).2⟩
    simp only [exs, ex, tst, Out.bind, dr, tru, hx0, decide_false]
    simp only [ex, Out.bind] at a1 a2
    simp only [a1, a2, a3]
theorem draw_ok {cs : List Int} {many : Int} (hm : 0 < many) (hm2 : many < 2 ^ 64) (g : Good cs h) : ∃ (ρ' : Loc) (r : Int) (h' : Hp), exs C drawB (start 4 [.ref 0, .int many]) h = .ok (.rt (.int r), ρ') h' ∧ Fr cs h h' ∧ 0 ≤ r ∧ r < many := by
  obtain ⟨i, x, y, z, hb, hi, hx, hy, hy2⟩ := id g
  have hp := g.pos
  have st : start 4 [.ref 0, .int many] = [some (.ref 0), some (.int many), none, none] := rfl
  rw [st]
  obtain ⟨q0, q1, q2, q3, q4⟩ := rd0 (C := C) (ρ := [some (.ref 0), some (.int many), none, none]) rfl hb
  have ln : ev C [some (.ref 0), some (.int many), none, none] (.cb .len (.cons (.ix (.v 0) (.k (.int 0))) .nil)) h = .ok (.int (cs.map Va.int).length) h := ev_cb1 q0 rfl
  have t1 : ev C [some (.ref 0), some (.int many), none, none] (.op .lt (.ix (.v 0) (.k (.int 2))) (.k (.int 1))) h = .ok (.bl (decide (x < 1))) h := ev_op q2 ev_k rfl
  have t2 : ev C [some (.ref 0), some (.int many), none, none] (.op .lt (.ix (.v 0) (.k (.int 1))) (.cb .len (.cons (.ix (.v 0) (.k (.int 0))) .nil))) h = .ok (.bl (decide (i < (cs.map Va.int).length))) h := ev_op q1 ln rfl
  by_cases hc : x < 1 ∧ i < (cs.map Va.int).length
  · -- a cell is taken
    obtain ⟨c1, c2⟩ := hc
    have hin : i.toNat < cs.length := by rw [List.length_map] at c2; omega
    have tt : ev C [some (.ref 0), some (.int many), none, none] (.an (.op .lt (.ix (.v 0) (.k (.int 2))) (.k (.int 1))) (.op .lt (.ix (.v 0) (.k (.int 1))) (.cb .len (.cons (.ix (.v 0) (.k (.int 0))) .nil)))) h = .ok (.bl true) h := by
      rw [ev_anT t1 (by simp [dr, tru, c1]), t2]
      simp only [c2, decide_true]
    let c := cs[i.toNat]
    have e1 : ev C [some (.ref 0), some (.int many), none, none] (.ix (.ix (.v 0) (.k (.int 0))) (.ix (.v 0) (.k (.int 1)))) h = .ok (.int c) h := by
      refine ev_ix q0 q1 ?_
      simp only [dr, itm]
      rw [if_pos (by simp only [Bool.and_eq_true, decide_eq_true_eq]; constructor <;> omega)]
      have hx : ixOf (cs.map Va.int).length i = i.toNat := by unfold ixOf; rw [if_neg (by omega)]
      rw [hx, List.getElem?_map, List.getElem?_eq_getElem hin]
      rfl
    let ρ1 : Loc := [some (.ref 0), some (.int many), some (.int c), none]
    have p := rd0 (C := C) (ρ := ρ1) rfl hb
    have a1 := wr0 (C := C) (k := 1) (m := .op .add (.ix (.v 0) (.k (.int 1))) (.k (.int 1))) (ρ := ρ1) rfl hb ⟨by decide, by simp [bxv]⟩ (ev_op p.2.1 ev_k (show opv .add (dr h (.int i)) (dr h (.int 1)) = some (.int (i + 1)) from rfl))
    rw [show (bxv cs i x y z).set (1 : Int).toNat (.int (i + 1)) = bxv cs (i + 1) x y z from rfl] at a1
    have hb1 : (h.set 0 (.lst (bxv cs (i + 1) x y z)))[0]? = some (.lst (bxv cs (i + 1) x y z)) := List.getElem?_set_self hp
    have w2 : ∀ g : Hp, ev C ρ1 (.v 2) g = .ok (.int c) g := fun g => by simp [ev, ρ1]
    have pw : opv .pow (.int 10) (.int 18) = some (.int (10 ^ 18)) := by
      have : sml 10 = true := by decide
      simp only [opv, this]
      rfl
    have mx : ev C ρ1 (.cb .max2 (.cons (.k (.int 0)) (.cons (.op .sub (.v 2) (.op .pow (.k (.int 10)) (.k (.int 18)))) .nil))) (h.set 0 (.lst (bxv cs (i + 1) x y z))) = .ok (.int (if c - 10 ^ 18 > 0 then c - 10 ^ 18 else 0)) (h.set 0 (.lst (bxv cs (i + 1) x y z))) := by
      exact ev_cb2 (x := .int 0) (y := .int (c - 10 ^ 18)) ev_k (ev_op (o := .sub) (x := .int c) (y := .int (10 ^ 18)) (w2 _) (ev_op (o := .pow) (x := .int 10) (y := .int 18) ev_k ev_k pw) rfl) rfl
    have a2 := wr0 (C := C) (k := 2) (ρ := ρ1) rfl hb1 ⟨by decide, by simp [bxv]⟩ mx
    generalize hX : (if c - 10 ^ 18 > 0 then c - 10 ^ 18 else 0) = Xn at a2
    have hXn : 0 ≤ Xn := by rw [← hX]; split <;> omega
    rw [show (bxv cs (i + 1) x y z).set (2 : Int).toNat (.int Xn) = bxv cs (i + 1) Xn y z from rfl, List.set_set] at a2
    have hb2 : (h.set 0 (.lst (bxv cs (i + 1) Xn y z)))[0]? = some (.lst (bxv cs (i + 1) Xn y z)) := List.getElem?_set_self hp
    have s := rd0 (C := C) (ρ := ρ1) rfl hb2
    have m1 : opv .mul (.int y) (.int 48271) = some (.int (y * 48271)) := by
      have : sml 48271 = true := by decide
      simp only [opv, this, Bool.or_true, ↓reduceIte]
    have m2 : opv .mul (.int (c % 2147483629)) (.int 7) = some (.int (c % 2147483629 * 7)) := by
      have : sml 7 = true := by decide
      simp only [opv, this, Bool.or_true, ↓reduceIte]
    have a3 := wr0 (C := C) (k := 3) (ρ := ρ1) rfl hb2 ⟨by decide, by simp [bxv]⟩ (ev_op (o := .mod) (x := .int (y * 48271 + c % 2147483629 * 7 + 11)) (y := .int 2147483629) (ev_op (o := .add) (x := .int (y * 48271 + c % 2147483629 * 7)) (y := .int 11) (ev_op (o := .add) (x := .int (y * 48271)) (y := .int (c % 2147483629 * 7)) (ev_op (o := .mul) (x := .int y) (y := .int 48271) s.2.2.2.1 ev_k m1) (ev_op (o := .mul) (x := .int (c % 2147483629)) (y := .int 7) (ev_op (o := .mod) (x := .int c) (y := .int 2147483629) (w2 _) ev_k (opI_mod (by decide))) ev_k m2) rfl) ev_k rfl) ev_k (opI_mod (by decide)))
    generalize hY : (y * 48271 + c % 2147483629 * 7 + 11) % 2147483629 = Y at a3
    have hY2 : 0 ≤ Y ∧ Y < 2147483629 := by rw [← hY]; exact mod_lt (by decide)
    rw [show (bxv cs (i + 1) Xn y z).set (3 : Int).toNat (.int Y) = bxv cs (i + 1) Xn Y z from rfl, List.set_set] at a3
    have fr := Fr.box (i := i + 1) (x := Xn) (y := Y) (z := z) g (by omega) hXn hY2.1 hY2.2
    obtain ⟨ρ', r, h', ee, f2, r1, r2⟩ := draw2 (C := C) (r2 := some (.int c)) hm hm2 fr.good
    refine ⟨ρ', r, h', ?_, fr.trans f2, r1, r2⟩
    have body : exs C (.cons (.as (.nm 2) (.ix (.ix (.v 0) (.k (.int 0))) (.ix (.v 0) (.k (.int 1))))) (.cons (.sub (.v 0) (.k (.int 1)) (.op .add (.ix (.v 0) (.k (.int 1))) (.k (.int 1)))) (.cons (.sub (.v 0) (.k (.int 2)) (.cb .max2 (.cons (.k (.int 0)) (.cons (.op .sub (.v 2) (.op .pow (.k (.int 10)) (.k (.int 18)))) .nil)))) (.cons (.sub (.v 0) (.k (.int 3)) (.op .mod (.op .add (.op .add (.op .mul (.ix (.v 0) (.k (.int 3))) (.k (.int 48271))) (.op .mul (.op .mod (.v 2) (.k (.int 2147483629))) (.k (.int 7)))) (.k (.int 11))) (.k (.int 2147483629)))) .nil)))) [some (.ref 0), some (.int many), none, none] h = .ok (.nx, ρ1) (h.set 0 (.lst (bxv cs (i + 1) Xn Y z))) := by
      rw [xs_nx (x_as (ρ' := ρ1) e1 rfl), xs_nx a1, xs_nx a2, xs_nx a3, xs_nil]
    unfold drawB
    rw [xs_nx ((x_ifT tt rfl).trans body)]
    exact ee
  · obtain ⟨ρ', r, h', ee, f2, r1, r2⟩ := draw2 (C := C) (r2 := none) hm hm2 g
    refine ⟨ρ', r, h', ?_, f2, r1, r2⟩
    have tt : ev C [some (.ref 0), some (.int many), none, none] (.an (.op .lt (.ix (.v 0) (.k (.int 2))) (.k (.int 1))) (.op .lt (.ix (.v 0) (.k (.int 1))) (.cb .len (.cons (.ix (.v 0) (.k (.int 0))) .nil)))) h = .ok (.bl false) h := by
      by_cases c1 : x < 1
      · have c2 : ¬ i < (cs.map Va.int).length := fun q => hc ⟨c1, q⟩
        rw [ev_anT t1 (by simp [dr, tru, c1]), t2]
        simp only [c2, decide_false]
      · rw [ev_anF t1 (by simp [dr, tru, c1])]
        simp only [c1, decide_false]
    unfold drawB
    rw [xs_nx ((x_ifF tt rfl).trans xs_nil)]
    exact ee
end
/-! ### code that draws, by what it may come to -/
section
variable {cs : List Int} {C : Call} {ρ : Loc} {a b c : Ex} {P Q R : Va → Prop} {es : Exs}
def Wp (cs : List Int) (C : Call) (ρ : Loc) (m : Ex) (P : Va → Prop) : Prop := ∀ h, Good cs h → ∃ v h', ev C ρ m h = .ok v h' ∧ Fr cs h h' ∧ P v
def Wps (cs : List Int) (C : Call) (ρ : Loc) (m : Exs) (P : List Va → Prop) : Prop := ∀ h, Good cs h → ∃ v h', evs C ρ m h = .ok v h' ∧ Fr cs h h' ∧ P v
def Wf (cs : List Int) (C : Call) (f : Nat) (vs : List Va) (P : Va → Prop) : Prop := ∀ h, Good cs h → ∃ v h', C f vs h = .ok v h' ∧ Fr cs h h' ∧ P v
def Wst (cs : List Int) (C : Call) (ρ : Loc) (m : Sts) (P : Va → Prop) : Prop := ∀ h, Good cs h → ∃ v ρ' h', exs C m ρ h = .ok (.rt v, ρ') h' ∧ Fr cs h h' ∧ P v
theorem wp_k {v : Va} (p : P v) : Wp cs C ρ (.k v) P := fun h g => ⟨v, h, ev_k, Fr.refl g, p⟩
theorem wp_v {i : Nat} {v : Va} (e : ρ[i]? = some (some v)) (p : P v) : Wp cs C ρ (.v i) P := fun h g => ⟨v, h, by simp [ev, e], Fr.refl g, p⟩
theorem wp_imp {m : Ex} (h : Wp cs C ρ m P) (i : ∀ v, P v → Q v) : Wp cs C ρ m Q := fun s g => let ⟨v, h', e, f, p⟩ := h s g; ⟨v, h', e, f, i v p⟩
theorem wp_pure {PC : PCall} {m : Ex} {v : Va} (hC : ∀ f vs v, PC f vs = some v → Say (C f vs) v) (e : pev PC ρ m = some v) (p : P v) : Wp cs C ρ m P := fun h g => by
  obtain ⟨k, ek⟩ := pev_say hC m e h
  exact ⟨v, _, ek, Fr.junk g k, p⟩
theorem wp_op {o : Op} (ha : Wp cs C ρ a P) (hb : Wp cs C ρ b Q) (i : ∀ x y, P x → Q y → noRef x = true ∧ noRef y = true ∧ ∃ v, opv o x y = some v ∧ R v) : Wp cs C ρ (.op o a b) R := fun h g => by
  obtain ⟨x, h1, e1, f1, p1⟩ := ha h g
  obtain ⟨y, h2, e2, f2, p2⟩ := hb h1 f1.good
  obtain ⟨n1, n2, v, ev1, r⟩ := i x y p1 p2
  refine ⟨v, h2, ?_, f1.trans f2, r⟩
  simp only [ev, e1, e2, Out.bind, dr_no h2 n1, dr_no h2 n2, ev1, ofO]
theorem wps_nil {P : List Va → Prop} (p : P []) : Wps cs C ρ .nil P := fun h g => ⟨[], h, by simp [evs], Fr.refl g, p⟩
theorem wps_cons {P : Va → Prop} {Q R : List Va → Prop} (ha : Wp cs C ρ a P) (hr : Wps cs C ρ es Q) (i : ∀ x xs, P x → Q xs → R (x :: xs)) : Wps cs C ρ (.cons a es) R := fun h g => by
  obtain ⟨x, h1, e1, f1, p1⟩ := ha h g
  obtain ⟨xs, h2, e2, f2, p2⟩ := hr h1 f1.good
  exact ⟨x :: xs, h2, by simp [evs, e1, e2], f1.trans f2, i x xs p1 p2⟩
/-- every value of a display fits -/
def All (P : Va → Prop) (xs : List Va) : Prop := ∀ x ∈ xs, P x
theorem all_nil : All P [] := fun x h => by cases h
theorem wps_all {n : Nat} (ha : Wp cs C ρ a P) (hr : Wps cs C ρ es fun xs => All P xs ∧ xs.length = n) : Wps cs C ρ (.cons a es) fun xs => All P xs ∧ xs.length = n + 1 :=
  wps_cons ha hr fun x xs p q => ⟨fun y hy => by rcases List.mem_cons.mp hy with rfl | hy; exact p; exact q.1 y hy, by simp [q.2]⟩
theorem wps_none : Wps cs C ρ .nil fun xs => All P xs ∧ xs.length = 0 := wps_nil ⟨all_nil, rfl⟩
theorem wp_li {P : List Va → Prop} (hs : Wps cs C ρ es P) (i : ∀ xs, P xs → xs.length ≤ lim ∧ R (.lst xs)) : Wp cs C ρ (.li es) R := fun h g => by
  obtain ⟨xs, h1, e1, f1, p1⟩ := hs h g
  obtain ⟨hz, r⟩ := i xs p1
  have hb : Nat.ble xs.length lim = true := Nat.ble_eq_true_of_le hz
  exact ⟨_, h1, by simp only [ev, e1, Out.bind, hb, ↓reduceIte], f1, r⟩
theorem wp_tu {P : List Va → Prop} (hs : Wps cs C ρ es P) (i : ∀ xs, P xs → xs.length ≤ lim ∧ R (.tup xs)) : Wp cs C ρ (.tu es) R := fun h g => by
  obtain ⟨xs, h1, e1, f1, p1⟩ := hs h g
  obtain ⟨hz, r⟩ := i xs p1
  have hb : Nat.ble xs.length lim = true := Nat.ble_eq_true_of_le hz
  exact ⟨_, h1, by simp only [ev, e1, Out.bind, hb, ↓reduceIte], f1, r⟩
theorem wp_cf {f : Nat} {P : List Va → Prop} (hs : Wps cs C ρ es P) (i : ∀ xs, P xs → Wf cs C f xs R) : Wp cs C ρ (.cf f es) R := fun h g => by
  obtain ⟨xs, h1, e1, f1, p1⟩ := hs h g
  obtain ⟨v, h2, e2, f2, r⟩ := i xs p1 h1 f1.good
  exact ⟨v, h2, by simp only [ev, e1, Out.bind, e2], f1.trans f2, r⟩
theorem wp_ix (ha : Wp cs C ρ a P) (hb : Wp cs C ρ b Q) (i : ∀ x y, P x → Q y → noRef x = true ∧ ∃ v, itm x y = some v ∧ R v) : Wp cs C ρ (.ix a b) R := fun h g => by
  obtain ⟨x, h1, e1, f1, p1⟩ := ha h g
  obtain ⟨y, h2, e2, f2, p2⟩ := hb h1 f1.good
  obtain ⟨n1, v, ev1, r⟩ := i x y p1 p2
  exact ⟨v, h2, by simp only [ev, e1, e2, Out.bind, dr_no h2 n1, ev1, ofO], f1.trans f2, r⟩
theorem wp_cb1 {f : Bl} (ha : Wp cs C ρ a P) (i : ∀ x, P x → noRef x = true ∧ ∃ v, blv f [x] = some v ∧ R v) : Wp cs C ρ (.cb f (.cons a .nil)) R := fun h g => by
  obtain ⟨x, h1, e1, f1, p1⟩ := ha h g
  obtain ⟨n1, v, ev1, r⟩ := i x p1
  exact ⟨v, h1, by simp only [ev, evs, e1, Out.bind, List.map_cons, List.map_nil, dr_no h1 n1, ev1, ofO], f1, r⟩
/-- a comprehension whose element draws -/
theorem lcg_wp {F : Va → Hp → Out (Option Va)} {vs : List Va} (hF : ∀ x ∈ vs, ∀ h, Good cs h → ∃ y h', F x h = .ok (some y) h' ∧ Fr cs h h' ∧ P y) : ∀ (h : Hp) (n : Nat) (acc : List Va), Good cs h → 1 ≤ n → h[n]? = some (.lst acc) → acc.length + vs.length ≤ lim → All P acc → ∃ h' ys, lcg F n vs h = .ok () h' ∧ Good cs h' ∧ h.length ≤ h'.length ∧ (∀ j, 1 ≤ j → j < h.length → j ≠ n → h'[j]? = h[j]?) ∧ h'[n]? = some (.lst ys) ∧ All P ys ∧ ys.length = acc.length + vs.length := by
  induction vs with
  | nil => intro h n acc g hn e hz ha; exact ⟨h, acc, by simp [lcg], g, Nat.le_refl _, fun _ _ _ _ => rfl, e, ha, by simp⟩
  | cons x vs ih =>
    intro h n acc g hn e hz ha
    obtain ⟨y, h1, e1, f1, p1⟩ := hF x (by simp) h g
    have hnl : n < h.length := (List.getElem?_eq_some_iff.mp e).1
    have e2 : h1[n]? = some (.lst acc) := (f1.same n hn hnl).trans e
    have hnl1 : n < h1.length := (List.getElem?_eq_some_iff.mp e2).1
    have hb : Nat.blt acc.length lim = true := by simp only [List.length_cons] at hz; exact Nat.ble_eq_true_of_le (by omega)
    have g2 : Good cs (h1.set n (.lst (acc ++ [y]))) := by
      obtain ⟨i, x', y', z, eb, r⟩ := f1.good
      exact ⟨i, x', y', z, by rw [List.getElem?_set_ne (by omega)]; exact eb, r⟩
    obtain ⟨h3, ys, e3, g3, l3, s3, n3, a3, len3⟩ := ih (fun u hu => hF u (by simp [hu])) (h1.set n (.lst (acc ++ [y]))) n (acc ++ [y]) g2 hn (by rw [List.getElem?_set_self hnl1]) (by simp only [List.length_append, List.length_cons, List.length_nil] at hz ⊢; omega) (fun u hu => by
      rcases List.mem_append.mp hu with hu | hu
      · exact ha u hu
      · rw [List.mem_singleton.mp hu]; exact p1)
    refine ⟨h3, ys, by simp only [lcg, e1, Out.bind, e2, hb, ↓reduceIte, e3], g3, by simp only [List.length_set] at l3; exact Nat.le_trans f1.len l3, fun j h1' h2' h3' => ?_, n3, a3, by simp at len3 ⊢; omega⟩
    rw [s3 j h1' (by simp only [List.length_set]; exact Nat.lt_of_lt_of_le h2' f1.len) h3', List.getElem?_set_ne (fun z => h3' z.symm), f1.same j h1' h2']
theorem wp_lc {own : List Nat} {e : Ex} {t : Tg} {w : Wk} {P : List Va → Prop} (hs : Wps cs C ρ es P) (i : ∀ xs, P xs → ∃ vs, wkL w xs = some vs ∧ vs.length ≤ lim ∧ (∀ x ∈ vs, ∃ ρ', tgt t x (wipeL ρ own) = some ρ' ∧ Wp cs C ρ' e Q) ∧ ∀ ys, All Q ys → ys.length = vs.length → R (.lst ys)) : Wp cs C ρ (.lc own e t w es .nil) R := fun h g => by
  obtain ⟨xs, h1, e1, f1, p1⟩ := hs h g
  obtain ⟨vs, ew, hz, hx, hr⟩ := i xs p1
  have gp := f1.good.pos
  have g2 : Good cs (h1 ++ [Cel.lst []]) := by
    obtain ⟨i, x', y', z, eb, r⟩ := f1.good
    exact ⟨i, x', y', z, by rw [List.getElem?_append_left gp]; exact eb, r⟩
  obtain ⟨h3, ys, e3, g3, l3, s3, n3, a3, len3⟩ := lcg_wp (cs := cs) (P := Q) (F := fun x h => stepL (tgt t x (wipeL ρ own)) (fun ρ h => evt C ρ .nil h) (fun ρ h => ev C ρ e h) h) (vs := vs) (fun x hm h gh => by
    obtain ⟨ρ', et, we⟩ := hx x hm
    obtain ⟨y, h', ey, fy, py⟩ := we h gh
    exact ⟨y, h', by simp only [stepL, et, evt, Out.bind, ↓reduceIte, ey], fy, py⟩) (h1 ++ [Cel.lst []]) h1.length [] g2 gp (by simp) (by simpa using hz) all_nil
  have g4 : Good cs (h3.set h1.length .gone) := by
    obtain ⟨i, x', y', z, eb, r⟩ := g3
    exact ⟨i, x', y', z, by rw [List.getElem?_set_ne (by omega)]; exact eb, r⟩
  refine ⟨.lst ys, h3.set h1.length .gone, by simp only [ev, e1, Out.bind, ew, e3, nox, frz, n3], ⟨?_, fun j h1' h2' => ?_, g4⟩, hr ys a3 (by simpa using len3)⟩
  · simp only [List.length_set]
    simp only [List.length_append, List.length_cons, List.length_nil] at l3
    exact Nat.le_trans f1.len (by omega)
  · have hj : j < h1.length := Nat.lt_of_lt_of_le h2' f1.len
    rw [List.getElem?_set_ne (by omega), s3 j h1' (by simp; omega) (by omega), List.getElem?_append_left hj, f1.same j h1' h2']
theorem ws_rt {ss : Sts} (h : Wp cs C ρ a P) : Wst cs C ρ (.cons (.rt a) ss) P := fun s g => by
  obtain ⟨v, h', e, f, p⟩ := h s g
  exact ⟨v, ρ, h', by simp only [exs, ex, e, Out.bind], f, p⟩
theorem ws_as {t : Tg} {ss : Sts} (h : Wp cs C ρ a P) (i : ∀ x, P x → ∃ ρ', tgt t x ρ = some ρ' ∧ Wst cs C ρ' ss R) : Wst cs C ρ (.cons (.as t a) ss) R := fun s g => by
  obtain ⟨v, h', e, f, p⟩ := h s g
  obtain ⟨ρ', et, w⟩ := i v p
  obtain ⟨u, ρ2, h2, e2, f2, r⟩ := w h' f.good
  exact ⟨u, ρ2, h2, by rw [xs_nx (x_as e et)]; exact e2, f.trans f2, r⟩
theorem ws_par {j k : Nat} {ss : Sts} (hj : j < ρ.length) (hk : k < ρ.length) (ha : Wp cs C ρ a P) (hb : Wp cs C ρ b Q) (i : ∀ x y, P x → Q y → Wst cs C ((ρ.set j (some x)).set k (some y)) ss R) : Wst cs C ρ (.cons (.par j k a b) ss) R := fun s g => by
  obtain ⟨x, h1, e1, f1, p1⟩ := ha s g
  obtain ⟨y, h2, e2, f2, p2⟩ := hb h1 f1.good
  obtain ⟨u, ρ2, h3, e3, f3, r⟩ := i x y p1 p2 h2 f2.good
  refine ⟨u, ρ2, h3, ?_, (f1.trans f2).trans f3, r⟩
  have hj' : Nat.blt j ρ.length = true := Nat.ble_eq_true_of_le hj
  have hk' : Nat.blt k (ρ.set j (some x)).length = true := Nat.ble_eq_true_of_le (by rw [List.length_set]; exact hk)
  rw [xs_nx (ρ' := (ρ.set j (some x)).set k (some y)) (h' := h2) (by simp only [ex, e1, e2, Out.bind, tgt, hj', hk', ↓reduceIte])]
  exact e3
theorem ws_par3 {j k l : Nat} {ss : Sts} {S : Va → Prop} (hj : j < ρ.length) (hk : k < ρ.length) (hl : l < ρ.length) (ha : Wp cs C ρ a P) (hb : Wp cs C ρ b Q) (hc : Wp cs C ρ c S) (i : ∀ x y z, P x → Q y → S z → Wst cs C (((ρ.set j (some x)).set k (some y)).set l (some z)) ss R) : Wst cs C ρ (.cons (.par3 j k l a b c) ss) R := fun s g => by
  obtain ⟨x, h1, e1, f1, p1⟩ := ha s g
  obtain ⟨y, h2, e2, f2, p2⟩ := hb h1 f1.good
  obtain ⟨z, h2', e2', f2', p2'⟩ := hc h2 f2.good
  obtain ⟨u, ρ2, h3, e3, f3, r⟩ := i x y z p1 p2 p2' h2' f2'.good
  refine ⟨u, ρ2, h3, ?_, ((f1.trans f2).trans f2').trans f3, r⟩
  have hb : (Nat.blt j ρ.length && Nat.blt k ρ.length && Nat.blt l ρ.length) = true := by
    rw [Bool.and_eq_true, Bool.and_eq_true]
    exact ⟨⟨Nat.ble_eq_true_of_le hj, Nat.ble_eq_true_of_le hk⟩, Nat.ble_eq_true_of_le hl⟩
  rw [xs_nx (ρ' := ((ρ.set j (some x)).set k (some y)).set l (some z)) (h' := h2') (by simp only [ex, e1, e2, e2', Out.bind, hb, ↓reduceIte])]
  exact e3
theorem wf_of {Pr : List Fn} {n f : Nat} {F : Fn} {vs : List Va} (hF : Pr[f]? = some F) (hl : vs.length = F.np) (w : Wst cs (calls Pr n) (start F.ns vs) F.body P) : Wf cs (calls Pr (n + 1)) f vs P := fun h g => by
  obtain ⟨v, ρ', h', e, fr, p⟩ := w h g
  refine ⟨v, h', ?_, fr, p⟩
  simp only [calls, hF, runF, hl, ↓reduceIte, e, Out.bind]
theorem draw_wf {Pr : List Fn} {n f : Nat} {many : Int} (hF : Pr[f]? = some ⟨2, 4, drawB⟩) (hm : 0 < many) (hm2 : many < 2 ^ 64) : Wf cs (calls Pr (n + 1)) f [.ref 0, .int many] fun v => ∃ r, v = .int r ∧ 0 ≤ r ∧ r < many :=
  wf_of hF rfl fun h g => by
    obtain ⟨ρ', r, h', e, fr, r1, r2⟩ := draw_ok (C := calls Pr n) hm hm2 g
    exact ⟨_, ρ', h', e, fr, r, rfl, r1, r2⟩
end
end Mp

namespace K67
open PySem Mp
def c_FIGURES : Va := .str [48, 49, 50, 51, 52, 53, 54, 55, 56, 57]
def c_FORMS : Va := .dic [(.str [114, 111, 111, 109]), (.str [115, 116, 114, 105, 107, 101]), (.str [100, 111, 111, 114]), (.str [119, 97, 108, 108]), (.str [115, 105, 103, 104, 116]), (.str [99, 117, 114, 116, 97, 105, 110]), (.str [112, 111, 115, 116]), (.str [99, 97, 108, 108]), (.str [100, 101, 108, 97, 121]), (.str [119, 97, 116, 99, 104, 101, 114]), (.str [108, 101, 97, 118, 101]), (.str [108, 97, 109, 112]), (.str [114, 117, 108, 101]), (.str [119, 97, 116, 99, 104]), (.str [117, 110, 119, 97, 116, 99, 104])] [(.str [110]), (.str [110]), (.str [110, 110]), (.str [110, 110]), (.str [110, 110]), (.str [110, 110]), (.str [110, 114, 98]), (.str [110]), (.str [110, 98]), (.str [110, 98]), (.str [110]), (.str [110, 98]), (.str [121, 98]), (.str [110, 97]), (.str [110])]
def c_LETTERS : Va := .str [97, 98, 99, 100, 101, 102, 103, 104, 105, 106, 107, 108, 109, 110, 111, 112, 113, 114, 115, 116, 117, 118, 119, 120, 121, 122]
def c_MOST_FIGURES : Va := .int 10
def c_MOST_LETTERS : Va := .int 8
def c_SHAPES : Va := .dic [(.str [119, 104, 101, 114, 101]), (.str [119, 104, 111]), (.str [108, 105, 116]), (.str [119, 104, 101, 101, 108]), (.str [109, 101, 101, 116, 115]), (.str [119, 97, 121]), (.str [108, 105, 110, 103, 101, 114])] [(.tup [(.str [110, 98])]), (.tup [(.str [110, 98])]), (.tup [(.str [98])]), (.tup [(.str [])]), (.tup [(.str [110, 110])]), (.tup [(.str [110, 110]), (.str [110, 110, 98])]), (.tup [(.str [110, 98])])]
def c_TRUTHS : Va := .dic [(.str [121, 101, 115]), (.str [110, 111])] [(.bl true), (.bl false)]
def f_is_name : Fn := ⟨1, 2, (.cons (.rt (.an (.ch .le .le (.k (.int 1)) (.cb .len (.cons (.v 0) .nil)) (.k c_MOST_LETTERS)) (.cb .all (.cons (.lc [1] (.op .mem (.v 1) (.k c_LETTERS)) (.nm 1) .seq (.cons (.v 0) .nil) .nil) .nil)))) .nil)⟩
def f_asking_text : Fn := ⟨1, 2, (.cons (.rt (.cb .join (.cons (.k (.str [32])) (.cons (.lc [1] (.cb .strOf (.cons (.v 1) .nil)) (.nm 1) .seq (.cons (.v 0) .nil) .nil) .nil)))) .nil)⟩
def f_number_in : Fn := ⟨1, 3, (.cons (.as (.nm 1) (.fi (.op .eq (.sl (.v 0) .none (.some (.k (.int 1)))) (.k (.str [45]))) (.sl (.v 0) (.some (.k (.int 1))) .none) (.v 0))) (.cons (.iff (.oo (.nt (.ch .le .le (.k (.int 1)) (.cb .len (.cons (.v 1) .nil)) (.k c_MOST_FIGURES))) (.nt (.cb .all (.cons (.lc [2] (.op .mem (.v 2) (.k c_FIGURES)) (.nm 2) .seq (.cons (.v 1) .nil) .nil) .nil)))) (.cons (.rt (.k .non)) .nil) .nil) (.cons (.iff (.an (.op .eq (.ix (.v 1) (.k (.int 0))) (.k (.str [48]))) (.op .ne (.v 0) (.k (.str [48])))) (.cons (.rt (.k .non)) .nil) .nil) (.cons (.rt (.cb .intOf (.cons (.v 0) .nil))) .nil))))⟩
def f_thing_in : Fn := ⟨2, 2, (.cons (.iff (.op .eq (.v 0) (.k (.str [98]))) (.cons (.rt (.cf 2 (.cons (.v 1) .nil))) .nil) .nil) (.cons (.rt (.fi (.cf 0 (.cons (.v 1) .nil)) (.v 1) (.k .non))) .nil))⟩
def f_read_asking : Fn := ⟨1, 8, (.cons (.sta 1 2 (.cb .split (.cons (.v 0) (.cons (.k (.str [32])) .nil)))) (.cons (.as (.nm 3) (.lc [5] (.v 5) (.nm 5) .seq (.cons (.cb .get2 (.cons (.k c_SHAPES) (.cons (.v 1) (.cons (.tu .nil) .nil)))) .nil) (.cons (.op .eq (.cb .len (.cons (.v 5) .nil)) (.cb .len (.cons (.v 2) .nil))) .nil))) (.cons (.iff (.op .eq (.v 3) (.li .nil)) (.cons .no .nil) .nil) (.cons (.as (.nm 4) (.lc [6, 7] (.cf 3 (.cons (.v 6) (.cons (.v 7) .nil))) (.tp [(.nm 6), (.nm 7)]) .zip (.cons (.ix (.v 3) (.k (.int 0))) (.cons (.v 2) .nil)) .nil)) (.cons (.iff (.op .mem (.k .non) (.v 4)) (.cons .no .nil) .nil) (.cons (.rt (.op .add (.tu (.cons (.v 1) .nil)) (.cb .tupOf (.cons (.v 4) .nil)))) .nil))))))⟩
def f_thing_text : Fn := ⟨2, 2, (.cons (.iff (.op .eq (.v 0) (.k (.str [114]))) (.cons (.rt (.oo (.cb .join (.cons (.k (.str [44])) (.cons (.v 1) .nil))) (.k (.str [45])))) .nil) .nil) (.cons (.iff (.op .eq (.v 0) (.k (.str [121]))) (.cons (.rt (.fi (.v 1) (.k (.str [121, 101, 115])) (.k (.str [110, 111])))) .nil) .nil) (.cons (.rt (.fi (.op .eq (.v 0) (.k (.str [97]))) (.cf 1 (.cons (.v 1) .nil)) (.cb .strOf (.cons (.v 1) .nil)))) .nil)))⟩
def f_deed_text : Fn := ⟨1, 5, (.cons (.sta 1 2 (.v 0)) (.cons (.rt (.cb .join (.cons (.k (.str [32])) (.cons (.op .add (.li (.cons (.v 1) .nil)) (.lc [3, 4] (.cf 5 (.cons (.v 3) (.cons (.v 4) .nil))) (.tp [(.nm 3), (.nm 4)]) .zip (.cons (.ix (.k c_FORMS) (.v 1)) (.cons (.v 2) .nil)) .nil)) .nil)))) .nil))⟩
def f_rooms_in : Fn := ⟨1, 3, (.cons (.as (.nm 1) (.fi (.op .eq (.v 0) (.k (.str [45]))) (.tu .nil) (.cb .tupOf (.cons (.cb .split (.cons (.v 0) (.cons (.k (.str [44])) .nil))) .nil)))) (.cons (.rt (.fi (.cb .all (.cons (.lc [2] (.cf 0 (.cons (.v 2) .nil)) (.nm 2) .seq (.cons (.v 1) .nil) .nil) .nil)) (.v 1) (.k .non))) .nil))⟩
def f_thing_of : Fn := ⟨2, 2, (.cons (.iff (.op .eq (.v 0) (.k (.str [110]))) (.cons (.rt (.fi (.cf 0 (.cons (.v 1) .nil)) (.v 1) (.k .non))) .nil) .nil) (.cons (.iff (.op .eq (.v 0) (.k (.str [114]))) (.cons (.rt (.cf 7 (.cons (.v 1) .nil))) .nil) .nil) (.cons (.iff (.op .eq (.v 0) (.k (.str [121]))) (.cons (.rt (.cb .get1 (.cons (.k c_TRUTHS) (.cons (.v 1) .nil)))) .nil) .nil) (.cons (.rt (.fi (.op .eq (.v 0) (.k (.str [97]))) (.cf 4 (.cons (.v 1) .nil)) (.cf 2 (.cons (.v 1) .nil)))) .nil))))⟩
def f_deed_of : Fn := ⟨1, 7, (.cons (.sta 1 2 (.cb .split (.cons (.v 0) (.cons (.k (.str [32])) .nil)))) (.cons (.as (.nm 3) (.cb .get2 (.cons (.k c_FORMS) (.cons (.v 1) (.cons (.k (.str [])) .nil))))) (.cons (.iff (.an (.op .eq (.v 3) (.k (.str [110, 97]))) (.op .gt (.cb .len (.cons (.v 2) .nil)) (.k (.int 1)))) (.cons (.as (.nm 2) (.li (.cons (.ix (.v 2) (.k (.int 0))) (.cons (.cb .join (.cons (.k (.str [32])) (.cons (.sl (.v 2) (.some (.k (.int 1))) .none) .nil))) .nil)))) .nil) .nil) (.cons (.iff (.oo (.op .eq (.v 3) (.k (.str []))) (.op .ne (.cb .len (.cons (.v 2) .nil)) (.cb .len (.cons (.v 3) .nil)))) (.cons .no .nil) .nil) (.cons (.as (.nm 4) (.lc [5, 6] (.cf 8 (.cons (.v 5) (.cons (.v 6) .nil))) (.tp [(.nm 5), (.nm 6)]) .zip (.cons (.v 3) (.cons (.v 2) .nil)) .nil)) (.cons (.iff (.op .mem (.k .non) (.v 4)) (.cons .no .nil) .nil) (.cons (.rt (.op .add (.tu (.cons (.v 1) .nil)) (.cb .tupOf (.cons (.v 4) .nil)))) .nil)))))))⟩
def f__law_draw : Fn := ⟨2, 4, (.cons (.iff (.an (.op .lt (.ix (.v 0) (.k (.int 2))) (.k (.int 1))) (.op .lt (.ix (.v 0) (.k (.int 1))) (.cb .len (.cons (.ix (.v 0) (.k (.int 0))) .nil)))) (.cons (.as (.nm 2) (.ix (.ix (.v 0) (.k (.int 0))) (.ix (.v 0) (.k (.int 1))))) (.cons (.sub (.v 0) (.k (.int 1)) (.op .add (.ix (.v 0) (.k (.int 1))) (.k (.int 1)))) (.cons (.sub (.v 0) (.k (.int 2)) (.cb .max2 (.cons (.k (.int 0)) (.cons (.op .sub (.v 2) (.op .pow (.k (.int 10)) (.k (.int 18)))) .nil)))) (.cons (.sub (.v 0) (.k (.int 3)) (.op .mod (.op .add (.op .add (.op .mul (.ix (.v 0) (.k (.int 3))) (.k (.int 48271))) (.op .mul (.op .mod (.v 2) (.k (.int 2147483629))) (.k (.int 7)))) (.k (.int 11))) (.k (.int 2147483629)))) .nil)))) .nil) (.cons (.iff (.op .gt (.ix (.v 0) (.k (.int 2))) (.k (.int 0))) (.cons (.as (.nm 3) (.op .mod (.ix (.v 0) (.k (.int 2))) (.v 1))) (.cons (.sub (.v 0) (.k (.int 2)) (.op .fdv (.ix (.v 0) (.k (.int 2))) (.v 1))) (.cons (.rt (.v 3)) .nil))) .nil) (.cons (.sub (.v 0) (.k (.int 4)) (.op .add (.ix (.v 0) (.k (.int 4))) (.k (.int 1)))) (.cons (.sub (.v 0) (.k (.int 3)) (.op .mod (.op .add (.op .add (.op .pow (.ix (.v 0) (.k (.int 3))) (.k (.int 3))) (.op .mul (.k (.int 69621)) (.ix (.v 0) (.k (.int 4))))) (.k (.int 5))) (.k (.int 2147483629)))) (.cons (.rt (.op .mod (.op .fdv (.ix (.v 0) (.k (.int 3))) (.k (.int 64))) (.v 1))) .nil)))))⟩
def f__law_of : Fn := ⟨2, 2, (.cons (.rt (.ix (.v 1) (.cf 10 (.cons (.v 0) (.cons (.cb .len (.cons (.v 1) .nil)) .nil))))) .nil)⟩
def f__law_names : Fn := ⟨2, 10, (.cons (.as (.nm 2) (.k (.str [97, 98, 99, 100, 101, 102, 103, 104, 105, 106, 107, 108, 109, 110, 111, 112, 113, 114, 115, 116, 117, 118, 119, 120, 121, 122]))) (.cons (.par 3 4 (.cf 10 (.cons (.v 0) (.cons (.k (.int 26)) .nil))) (.cf 11 (.cons (.v 0) (.cons (.li (.cons (.k (.int 1)) (.cons (.k (.int 3)) (.cons (.k (.int 5)) (.cons (.k (.int 7)) (.cons (.k (.int 9)) (.cons (.k (.int 11)) .nil))))))) .nil)))) (.cons (.par 5 6 (.cf 11 (.cons (.v 0) (.cons (.li (.cons (.k (.str [])) (.cons (.k (.str [113])) (.cons (.k (.str [122, 122])) (.cons (.k (.str [108, 97, 109, 112])) (.cons (.k (.str [97, 110, 100, 108, 97, 109, 112])) .nil)))))) .nil))) (.cf 10 (.cons (.v 0) (.cons (.k (.int 3)) .nil)))) (.cons (.as (.nm 7) (.lc1 .nil)) (.cons (.fo (.nm 8) .rng1 (.cons (.v 1) .nil) (.cons (.as (.nm 9) (.ix (.v 2) (.op .mod (.op .add (.v 3) (.op .mul (.v 4) (.v 8))) (.k (.int 26))))) (.cons (.apd (.v 7) (.ix (.li (.cons (.op .add (.v 9) (.v 5)) (.cons (.op .add (.v 5) (.v 9)) (.cons (.op .add (.v 9) (.op .mul (.v 5) (.op .mod (.v 8) (.k (.int 2))))) .nil)))) (.v 6))) .nil))) (.cons (.rtf (.v 7)) .nil))))))⟩
def f__law_name_of : Fn := ⟨2, 4, (.cons (.as (.nm 2) (.li (.cons (.k (.str [104, 97, 108, 108])) (.cons (.k (.str [115, 116, 97, 105, 114])) (.cons (.k (.str [97])) (.cons (.k (.str [108, 111, 102, 116])) (.cons (.k (.str [100, 101, 110])) (.cons (.k (.str [98])) (.cons (.k (.str [103, 97, 116, 101])) (.cons (.k (.str [99, 101, 108, 108, 97, 114])) (.cons (.k (.str [121, 97, 114, 100])) (.cons (.k (.str [110, 111, 111, 107])) (.cons (.k (.str [116, 111, 119, 101, 114])) (.cons (.k (.str [98, 97, 115, 101, 109, 101, 110, 116])) .nil)))))))))))))) (.cons (.as (.nm 3) (.oo (.v 1) (.v 2))) (.cons (.rt (.cf 11 (.cons (.v 0) (.cons (.li (.cons (.cf 11 (.cons (.v 0) (.cons (.v 3) .nil))) (.cons (.cf 11 (.cons (.v 0) (.cons (.v 3) .nil))) (.cons (.cf 11 (.cons (.v 0) (.cons (.v 3) .nil))) (.cons (.cf 11 (.cons (.v 0) (.cons (.v 2) .nil))) .nil))))) .nil)))) .nil)))⟩
def f__law_asking : Fn := ⟨2, 11, (.cons (.par 2 3 (.ix (.ix (.v 1) (.k (.str [104, 111, 117, 115, 101]))) (.k (.int 0))) (.lc [10] (.ix (.v 10) (.k (.int 0))) (.nm 10) .seq (.cons (.ix (.v 1) (.k (.str [112, 111, 115, 116, 115]))) .nil) .nil)) (.cons (.par3 4 5 6 (.cf 13 (.cons (.v 0) (.cons (.v 2) .nil))) (.cf 13 (.cons (.v 0) (.cons (.v 2) .nil))) (.op .sub (.cf 10 (.cons (.v 0) (.cons (.k (.int 40)) .nil))) (.k (.int 20)))) (.cons (.par 7 8 (.cf 13 (.cons (.v 0) (.cons (.v 3) .nil))) (.cf 13 (.cons (.v 0) (.cons (.v 3) .nil)))) (.cons (.as (.nm 9) (.li (.cons (.tu (.cons (.k (.str [119, 104, 101, 114, 101])) (.cons (.v 7) (.cons (.v 6) .nil)))) (.cons (.tu (.cons (.k (.str [119, 104, 111])) (.cons (.v 7) (.cons (.v 6) .nil)))) (.cons (.tu (.cons (.k (.str [108, 105, 116])) (.cons (.v 6) .nil))) (.cons (.tu (.cons (.k (.str [119, 104, 101, 101, 108])) .nil)) (.cons (.tu (.cons (.k (.str [109, 101, 101, 116, 115])) (.cons (.v 7) (.cons (.v 8) .nil)))) (.cons (.tu (.cons (.k (.str [119, 97, 121])) (.cons (.v 4) (.cons (.v 5) .nil)))) .nil)))))))) (.cons (.as (.nm 9) (.op .add (.v 9) (.li (.cons (.tu (.cons (.k (.str [119, 97, 121])) (.cons (.v 4) (.cons (.v 5) (.cons (.v 6) .nil))))) (.cons (.tu (.cons (.k (.str [108, 105, 110, 103, 101, 114])) (.cons (.v 4) (.cons (.v 6) .nil)))) .nil))))) (.cons (.rt (.cf 11 (.cons (.v 0) (.cons (.v 9) .nil)))) .nil))))))⟩
def f__law_box : Fn := ⟨1, 1, (.cons (.rt (.lc1 (.cons (.cb .lstOf (.cons (.sl (.v 0) .none (.some (.k (.int 63)))) .nil)) (.cons (.k (.int 0)) (.cons (.k (.int 0)) (.cons (.k (.int 29)) (.cons (.k (.int 0)) .nil))))))) .nil)⟩
def f__law_empty : Fn := ⟨0, 0, (.cons (.rt (.di [(.str [104, 111, 117, 115, 101]), (.str [112, 111, 115, 116, 115]), (.str [108, 97, 109, 112, 115]), (.str [109, 101, 101, 116]), (.str [114, 101, 108, 105, 101, 102]), (.str [119, 97, 116, 99, 104, 101, 115]), (.str [100, 101, 101, 100, 115])] (.cons (.tu (.cons (.li .nil) (.cons (.li .nil) (.cons (.li .nil) .nil)))) (.cons (.li .nil) (.cons (.li .nil) (.cons (.k (.bl false)) (.cons (.k (.int 0)) (.cons (.li .nil) (.cons (.li .nil) .nil))))))))) .nil)⟩
def f__law_words : Fn := ⟨1, 2, (.cons (.rt (.cb .join (.cons (.k (.str [32])) (.cons (.lc [1] (.cb .strOf (.cons (.v 1) .nil)) (.nm 1) .seq (.cons (.v 0) .nil) .nil) .nil)))) .nil)⟩
def f__law_line : Fn := ⟨1, 1, (.cons (.iff (.op .eq (.ix (.v 0) (.k (.int 0))) (.k (.str [112, 111, 115, 116]))) (.cons (.rt (.op .add (.op .add (.op .add (.op .add (.op .add (.k (.str [112, 111, 115, 116, 32])) (.ix (.v 0) (.k (.int 1)))) (.k (.str [32]))) (.oo (.cb .join (.cons (.k (.str [44])) (.cons (.ix (.v 0) (.k (.int 2))) .nil))) (.k (.str [45])))) (.k (.str [32]))) (.cb .strOf (.cons (.ix (.v 0) (.k (.int 3))) .nil)))) .nil) .nil) (.cons (.iff (.op .eq (.ix (.v 0) (.k (.int 0))) (.k (.str [114, 117, 108, 101]))) (.cons (.rt (.op .add (.op .add (.op .add (.k (.str [114, 117, 108, 101, 32])) (.ix (.li (.cons (.k (.str [110, 111])) (.cons (.k (.str [121, 101, 115])) .nil))) (.cb .intOf (.cons (.ix (.v 0) (.k (.int 1))) .nil)))) (.k (.str [32]))) (.cb .strOf (.cons (.ix (.v 0) (.k (.int 2))) .nil)))) .nil) .nil) (.cons (.iff (.op .eq (.ix (.v 0) (.k (.int 0))) (.k (.str [119, 97, 116, 99, 104]))) (.cons (.rt (.op .add (.op .add (.op .add (.k (.str [119, 97, 116, 99, 104, 32])) (.ix (.v 0) (.k (.int 1)))) (.k (.str [32]))) (.cf 17 (.cons (.ix (.v 0) (.k (.int 2))) .nil)))) .nil) .nil) (.cons (.rt (.cf 17 (.cons (.v 0) .nil))) .nil))))⟩
def f__law_like : Fn := ⟨2, 4, (.cons (.iff (.isi (.v 1) [.list, .tuple]) (.cons (.iff (.oo (.op .ne (.isi (.v 0) [.list]) (.isi (.v 1) [.list])) (.op .ne (.isi (.v 0) [.tuple]) (.isi (.v 1) [.tuple]))) (.cons (.rt (.k (.bl false))) .nil) .nil) (.cons (.rt (.an (.op .eq (.cb .len (.cons (.v 0) .nil)) (.cb .len (.cons (.v 1) .nil))) (.cb .all (.cons (.lc [2, 3] (.cf 19 (.cons (.v 2) (.cons (.v 3) .nil))) (.tp [(.nm 2), (.nm 3)]) .zip (.cons (.v 0) (.cons (.v 1) .nil)) .nil) .nil)))) .nil)) .nil) (.cons (.iff (.oo (.isN (.v 0)) (.isN (.v 1))) (.cons (.rt (.an (.isN (.v 0)) (.isN (.v 1)))) .nil) .nil) (.cons (.iff (.oo (.op .ne (.isi (.v 0) [.bool]) (.isi (.v 1) [.bool])) (.op .ne (.isi (.v 0) [.int]) (.isi (.v 1) [.int]))) (.cons (.rt (.k (.bl false))) .nil) .nil) (.cons (.rt (.an (.op .eq (.isi (.v 0) [.str]) (.isi (.v 1) [.str])) (.op .eq (.v 0) (.v 1)))) .nil))))⟩
def f__law_every_deed : Fn := ⟨2, 9, (.cons (.as (.nm 2) (.op .add (.cf 12 (.cons (.v 0) (.cons (.k (.int 4)) .nil))) (.li (.cons (.k (.str [97, 98, 99, 100, 101, 102, 103, 104])) .nil)))) (.cons (.par 3 4 (.cf 11 (.cons (.v 0) (.cons (.v 2) .nil))) (.cf 11 (.cons (.v 0) (.cons (.v 2) .nil)))) (.cons (.as (.nm 5) (.cf 11 (.cons (.v 0) (.cons (.li (.cons (.k (.int 0)) (.cons (.k (.int 7)) (.cons (.ng (.k (.int 3))) (.cons (.cf 10 (.cons (.v 0) (.cons (.op .pow (.k (.int 10)) (.k (.int 10))) .nil))) (.cons (.op .sub (.ng (.k (.int 1))) (.cf 10 (.cons (.v 0) (.cons (.op .pow (.k (.int 10)) (.k (.int 9))) .nil)))) .nil)))))) .nil)))) (.cons (.as (.nm 6) (.cb .tupOf (.cons (.lc [8] (.cf 11 (.cons (.v 0) (.cons (.v 2) .nil))) (.nm 8) .rng1 (.cons (.cf 10 (.cons (.v 0) (.cons (.k (.int 8)) .nil))) .nil) .nil) .nil))) (.cons (.as (.nm 7) (.li (.cons (.tu (.cons (.k (.str [114, 111, 111, 109])) (.cons (.v 3) .nil))) (.cons (.tu (.cons (.k (.str [115, 116, 114, 105, 107, 101])) (.cons (.v 4) .nil))) (.cons (.tu (.cons (.k (.str [100, 111, 111, 114])) (.cons (.v 3) (.cons (.v 4) .nil)))) (.cons (.tu (.cons (.k (.str [119, 97, 108, 108])) (.cons (.v 4) (.cons (.v 3) .nil)))) (.cons (.tu (.cons (.k (.str [115, 105, 103, 104, 116])) (.cons (.v 3) (.cons (.v 3) .nil)))) (.cons (.tu (.cons (.k (.str [99, 117, 114, 116, 97, 105, 110])) (.cons (.v 3) (.cons (.v 4) .nil)))) .nil)))))))) (.cons (.as (.nm 7) (.op .add (.v 7) (.li (.cons (.tu (.cons (.k (.str [112, 111, 115, 116])) (.cons (.v 3) (.cons (.v 6) (.cons (.v 5) .nil))))) (.cons (.tu (.cons (.k (.str [99, 97, 108, 108])) (.cons (.v 4) .nil))) (.cons (.tu (.cons (.k (.str [100, 101, 108, 97, 121])) (.cons (.v 3) (.cons (.v 5) .nil)))) (.cons (.tu (.cons (.k (.str [119, 97, 116, 99, 104, 101, 114])) (.cons (.v 4) (.cons (.v 5) .nil)))) (.cons (.tu (.cons (.k (.str [108, 101, 97, 118, 101])) (.cons (.v 3) .nil))) .nil)))))))) (.cons (.as (.nm 7) (.op .add (.v 7) (.li (.cons (.tu (.cons (.k (.str [108, 97, 109, 112])) (.cons (.v 3) (.cons (.v 5) .nil)))) (.cons (.tu (.cons (.k (.str [114, 117, 108, 101])) (.cons (.op .eq (.cf 10 (.cons (.v 0) (.cons (.k (.int 2)) .nil))) (.k (.int 0))) (.cons (.v 5) .nil)))) (.cons (.tu (.cons (.k (.str [117, 110, 119, 97, 116, 99, 104])) (.cons (.v 4) .nil))) .nil)))))) (.cons (.rt (.op .add (.v 7) (.li (.cons (.tu (.cons (.k (.str [119, 97, 116, 99, 104])) (.cons (.v 4) (.cons (.cf 14 (.cons (.v 0) (.cons (.v 1) .nil))) .nil)))) .nil)))) .nil))))))))⟩
def f_law : Fn := ⟨1, 7, (.cons (.as (.nm 1) (.cf 15 (.cons (.v 0) .nil))) (.cons (.as (.nm 2) (.cf 16 .nil)) (.cons (.fo (.nm 3) .rng1 (.cons (.k (.int 3)) .nil) (.cons (.fo (.nm 4) .seq (.cons (.cf 20 (.cons (.v 1) (.cons (.v 2) .nil))) .nil) (.cons (.as (.nm 5) (.cf 18 (.cons (.v 4) .nil))) (.cons (.fo (.nm 6) .rng1 (.cons (.k (.int 2)) .nil) (.cons (.iff (.nt (.cf 19 (.cons (.li (.cons (.cf 6 (.cons (.v 4) .nil)) (.cons (.cf 9 (.cons (.v 5) .nil)) .nil))) (.cons (.li (.cons (.v 5) (.cons (.v 4) .nil))) .nil)))) (.cons (.rt (.k (.bl false))) .nil) .nil) .nil)) .nil))) .nil)) (.cons (.rt (.k (.bl true))) .nil))))⟩
def code : List Fn := [f_is_name, f_asking_text, f_number_in, f_thing_in, f_read_asking, f_thing_text, f_deed_text, f_rooms_in, f_thing_of, f_deed_of, f__law_draw, f__law_of, f__law_names, f__law_name_of, f__law_asking, f__law_box, f__law_empty, f__law_words, f__law_line, f__law_like, f__law_every_deed, f_law]
def top (i : Nat) : Stmt := PySem.Challenge.pw_darkthread_k67_deeds_written.main.body.getD i (.Pass ⟨0, 0, 0, 0⟩)
def d_is_name : De := ⟨"is_name", top 6, ["text", "sign"], ["text"]⟩
def d_asking_text : De := ⟨"asking_text", top 11, ["asking", "one"], ["asking"]⟩
def d_number_in : De := ⟨"number_in", top 12, ["text", "body", "sign"], ["text"]⟩
def d_thing_in : De := ⟨"thing_in", top 13, ["kind", "word"], ["kind", "word"]⟩
def d_read_asking : De := ⟨"read_asking", top 14, ["text", "word", "rest", "shapes", "things", "shape", "kind", "one"], ["text"]⟩
def d_thing_text : De := ⟨"thing_text", top 18, ["kind", "thing"], ["kind", "thing"]⟩
def d_deed_text : De := ⟨"deed_text", top 19, ["deed", "word", "rest", "kind", "thing"], ["deed"]⟩
def d_rooms_in : De := ⟨"rooms_in", top 20, ["word", "rooms", "room"], ["word"]⟩
def d_thing_of : De := ⟨"thing_of", top 21, ["kind", "word"], ["kind", "word"]⟩
def d_deed_of : De := ⟨"deed_of", top 22, ["text", "word", "rest", "kinds", "things", "kind", "one"], ["text"]⟩
def d__law_draw : De := ⟨"_law_draw", top 24, ["_law_box_here", "_law_many", "_law_cell", "_law_got"], ["_law_box_here", "_law_many"]⟩
def d__law_of : De := ⟨"_law_of", top 25, ["_law_box_here", "_law_some"], ["_law_box_here", "_law_some"]⟩
def d__law_names : De := ⟨"_law_names", top 26, ["_law_box_here", "_law_many", "_law_letters", "_law_start", "_law_step", "_law_tail", "_law_pick", "_law_found", "_law_k", "_law_sign"], ["_law_box_here", "_law_many"]⟩
def d__law_name_of : De := ⟨"_law_name_of", top 27, ["_law_box_here", "_law_known", "_law_pool", "_law_some"], ["_law_box_here", "_law_known"]⟩
def d__law_asking : De := ⟨"_law_asking", top 28, ["_law_box_here", "_law_m", "_law_rooms", "_law_posts", "_law_one", "_law_other", "_law_beat", "_law_p", "_law_q", "_law_some", "_law_post"], ["_law_box_here", "_law_m"]⟩
def d__law_box : De := ⟨"_law_box", top 29, ["_law_script"], ["_law_script"]⟩
def d__law_empty : De := ⟨"_law_empty", top 30, [], []⟩
def d__law_words : De := ⟨"_law_words", top 31, ["_law_asking_here", "_law_one"], ["_law_asking_here"]⟩
def d__law_line : De := ⟨"_law_line", top 32, ["_law_deed"], ["_law_deed"]⟩
def d__law_like : De := ⟨"_law_like", top 33, ["_law_found", "_law_due", "_law_one", "_law_other"], ["_law_found", "_law_due"]⟩
def d__law_every_deed : De := ⟨"_law_every_deed", top 34, ["_law_box_here", "_law_m", "_law_names_here", "_law_a", "_law_b", "_law_far", "_law_walk", "_law_some", "_law_k"], ["_law_box_here", "_law_m"]⟩
def d_law : De := ⟨"law", top 35, ["_law_script", "_law_box_here", "_law_m", "_law_turn", "_law_deed", "_law_text", "_law_again"], ["_law_script"]⟩
def tab : List De := [d_is_name, d_asking_text, d_number_in, d_thing_in, d_read_asking, d_thing_text, d_deed_text, d_rooms_in, d_thing_of, d_deed_of, d__law_draw, d__law_of, d__law_names, d__law_name_of, d__law_asking, d__law_box, d__law_empty, d__law_words, d__law_line, d__law_like, d__law_every_deed, d_law]
def glb : Gs := ⟨[("FIGURES", c_FIGURES), ("FORMS", c_FORMS), ("LETTERS", c_LETTERS), ("MOST_FIGURES", c_MOST_FIGURES), ("MOST_LETTERS", c_MOST_LETTERS), ("SHAPES", c_SHAPES), ("TRUTHS", c_TRUTHS)], [("is_name", 0), ("asking_text", 1), ("number_in", 2), ("thing_in", 3), ("read_asking", 4), ("thing_text", 5), ("deed_text", 6), ("rooms_in", 7), ("thing_of", 8), ("deed_of", 9), ("_law_draw", 10), ("_law_of", 11), ("_law_names", 12), ("_law_name_of", 13), ("_law_asking", 14), ("_law_box", 15), ("_law_empty", 16), ("_law_words", 17), ("_law_line", 18), ("_law_like", 19), ("_law_every_deed", 20), ("law", 21)], ["all", "bool", "int", "isinstance", "len", "list", "max", "range", "str", "tuple", "zip"]⟩
end K67

namespace K67
open Mp
abbrev PC := pcalls code
def NameOk (s : List Nat) : Prop := 1 ≤ s.length ∧ s.length ≤ 8 ∧ ∀ c ∈ s, 97 ≤ c ∧ c ≤ 122
theorem blLen {s : List Nat} (h : s.length ≤ lim) : blv .len [.str s] = some (.int s.length) := by simp [blv, h]
theorem lim_eq : lim = 1000000 := rfl
theorem bools_true : ∀ {vs : List Va} {f : Va → Va}, (∀ v ∈ vs, f v = .bl true) → bools (vs.map f) = some (vs.map fun _ => true)
  | [], _, _ => rfl
  | v :: vs, f, h => by
    rw [List.map_cons, h v (by simp)]
    simp only [bools, bools_true (vs := vs) fun u hu => h u (by simp [hu]), Option.map_some, List.map_cons]
theorem all_true {vs : List Va} {f : Va → Va} (h : ∀ v ∈ vs, f v = .bl true) : blv .all [.lst (vs.map f)] = some (.bl true) := by
  simp only [blv, bools_true h, Option.map_some]
  congr 2
  rw [List.all_eq_true]
  intro b hb
  obtain ⟨_, _, e⟩ := List.mem_map.mp hb
  rw [← e]; rfl
/-- all([sign in ALPHABET for sign in text]) -/
theorem all_in {C : PCall} {ρ : Loc} {src : Ex} {i : Nat} {al s : List Nat} (h : pev C ρ src = some (.str s)) (hi : i < ρ.length) (hs : s.length ≤ lim) (ha : ∀ c ∈ s, c ∈ al) : pev C ρ (.cb .all (.cons (.lc [i] (.op .mem (.v i) (.k (.str al))) (.nm i) .seq (.cons src .nil) .nil) .nil)) = some (.bl true) := by
  have key := e_lc (C := C) (ρ := ρ) (w := .seq) (own := [i]) (t := .nm i) (e := .op .mem (.v i) (.k (.str al))) (g := fun _ => .bl true) (vs := s.map fun c => .str [c]) (es_one h) rfl (by simpa using hs) (fun x hx => by
    obtain ⟨c, hc, rfl⟩ := List.mem_map.mp hx
    have v1 : pev C ((ρ.set i none).set i (some (.str [c]))) (.v i) = some (.str [c]) := e_v (by simp [hi])
    refine ⟨(ρ.set i none).set i (some (.str [c])), by simp [tgt, wipeL, hi], e_op (x := .str [c]) (y := .str al) v1 e_k ?_⟩
    simp [opv, ha c hc])
  exact e_cb (es_one key) (all_true fun _ _ => rfl)
theorem letter_in {c : Nat} (h : 97 ≤ c ∧ c ≤ 122) : c ∈ [97, 98, 99, 100, 101, 102, 103, 104, 105, 106, 107, 108, 109, 110, 111, 112, 113, 114, 115, 116, 117, 118, 119, 120, 121, 122] := by
  have : c = 97 ∨ c = 98 ∨ c = 99 ∨ c = 100 ∨ c = 101 ∨ c = 102 ∨ c = 103 ∨ c = 104 ∨ c = 105 ∨ c = 106 ∨ c = 107 ∨ c = 108 ∨ c = 109 ∨ c = 110 ∨ c = 111 ∨ c = 112 ∨ c = 113 ∨ c = 114 ∨ c = 115 ∨ c = 116 ∨ c = 117 ∨ c = 118 ∨ c = 119 ∨ c = 120 ∨ c = 121 ∨ c = 122 := by omega
  simpa using this
theorem is_name_ok {s : List Nat} (h : NameOk s) (n : Nat) : PC (n + 1) 0 [.str s] = some (.bl true) := by
  obtain ⟨h1, h2, h3⟩ := h
  have hz : s.length ≤ lim := by rw [lim_eq]; omega
  have v0 : pev (PC n) (start 2 [.str s]) (.v 0) = some (.str s) := e_v rfl
  refine pc_of (F := f_is_name) rfl rfl ?_
  refine r_rt (e_anT (x := .bl true) ?_ rfl (all_in v0 (by show 1 < 2; decide) hz fun c hc => letter_in (h3 c hc)))
  refine e_chT (x := .int 1) (y := .int s.length) (z := .int 8) e_k (e_cb (es_one v0) (blLen hz)) e_k ?_ ?_
  · simp [opv]; omega
  · simp [opv]; omega
/-! ### numbers -/
def digits (s : List Nat) : Prop := ∀ c ∈ s, 48 ≤ c ∧ c ≤ 57
theorem digit_in {c : Nat} (h : 48 ≤ c ∧ c ≤ 57) : c ∈ [48, 49, 50, 51, 52, 53, 54, 55, 56, 57] := by
  have : c = 48 ∨ c = 49 ∨ c = 50 ∨ c = 51 ∨ c = 52 ∨ c = 53 ∨ c = 54 ∨ c = 55 ∨ c = 56 ∨ c = 57 := by omega
  simpa using this
theorem numL_head : ∀ (n : Nat), 1 ≤ n → ∃ c cs, TL.numL n = c :: cs ∧ 49 ≤ c ∧ c ≤ 57 := by
  intro n
  induction n using Nat.strongRecOn with
  | _ n ih =>
    intro h
    by_cases hn : n < 10
    · exact ⟨48 + n, [], TL.numL_lt hn, by omega, by omega⟩
    · obtain ⟨c, cs, e, h1, h2⟩ := ih (n / 10) (by omega) (by omega)
      exact ⟨c, cs ++ [48 + n % 10], by rw [TL.numL_step (by omega), e]; rfl, h1, h2⟩
theorem veq_str (a b : List Nat) : veq (.str a) (.str b) = decide (a = b) := by simp [veq, Bool.beq_eq_decide_eq]
theorem op_eqS (a b : List Nat) : opv .eq (.str a) (.str b) = some (.bl (decide (a = b))) := by simp [opv, okc, okd, dep, veq_str]
theorem op_neS (a b : List Nat) : opv .ne (.str a) (.str b) = some (.bl (!decide (a = b))) := by simp [opv, okc, okd, dep, veq_str]
def Small (i : Int) : Prop := -(10 ^ 10) < i ∧ i < 10 ^ 10
theorem small_len {i : Int} (h : Small i) : 1 ≤ (TL.numL i.natAbs).length ∧ (TL.numL i.natAbs).length ≤ 10 := by
  have h1 : i.natAbs < 10 ^ 10 := by obtain ⟨a, b⟩ := h; omega
  refine ⟨?_, TL.numL_len (by decide) h1⟩
  have := TL.numL_ne i.natAbs
  cases hh : TL.numL i.natAbs with
  | nil => exact absurd hh this
  | cons c cs => simp
theorem numI_len {i : Int} (h : Small i) : 1 ≤ (numI i).length ∧ (numI i).length ≤ 11 := by
  obtain ⟨a, b⟩ := small_len h
  unfold numI
  split
  · simp only [List.length_cons]; omega
  · omega
theorem int_back {i : Int} (h : Small i) : blv .intOf [.str (numI i)] = some (.int i) := by
  obtain ⟨a, b⟩ := numI_len h
  obtain ⟨c, d⟩ := small_len h
  have hz : Nat.ble (numI i).length 600 = true := Nat.ble_eq_true_of_le (by omega)
  have hl : (strS (numI i)).length ≤ 4300 := by rw [strS_len]; omega
  have key : PySem.intText? (strS (numI i)) = some i := by
    by_cases hi : i < 0
    · have e : (strS (numI i)).cps.toList = 45 :: TL.numL i.natAbs := by simp [strS, numI, hi]
      rw [PySem.intText_neg e (TL.numL_digits _) (TL.numL_ne _) hl, TL.numL_val]
      congr 1
      omega
    · have e : (strS (numI i)).cps.toList = TL.numL i.natAbs := by simp [strS, numI, hi]
      rw [PySem.intText_digits (by rw [e]; exact TL.numL_digits _) (by rw [e]; exact TL.numL_ne _) hl, e, TL.numL_val]
      congr 1
      omega
  simp only [blv, hz, ↓reduceIte, key, Option.map_some]
theorem number_in_ok {i : Int} (h : Small i) (n : Nat) : PC (n + 1) 2 [.str (numI i)] = some (.int i) := by
  obtain ⟨c1, c2⟩ := small_len h
  obtain ⟨l1, l2⟩ := numI_len h
  have hzI : (numI i).length ≤ lim := by rw [lim_eq]; omega
  have v0 : pev (PC n) (start 3 [.str (numI i)]) (.v 0) = some (.str (numI i)) := e_v rfl
  have one : pevo (PC n) (start 3 [.str (numI i)]) (.some (.k (.int 1))) = some (some 1) := by simp [pevo, pev, bnd, sml]
  have non : pevo (PC n) (start 3 [.str (numI i)]) .none = some none := by simp [pevo]
  have hd := TL.numL_digits i.natAbs
  refine pc_of (F := f_number_in) rfl rfl ?_
  -- the digits
  have body : pev (PC n) (start 3 [.str (numI i)]) (.fi (.op .eq (.sl (.v 0) .none (.some (.k (.int 1)))) (.k (.str [45]))) (.sl (.v 0) (.some (.k (.int 1))) .none) (.v 0)) = some (.str (TL.numL i.natAbs)) := by
    have hb : Nat.ble (numI i).length lim = true := Nat.ble_eq_true_of_le hzI
    have sl1 : pev (PC n) (start 3 [.str (numI i)]) (.sl (.v 0) .none (.some (.k (.int 1)))) = some (.str ((numI i).take 1)) := by
      refine e_sl (x := .str (numI i)) v0 non one ?_
      simp only [slv, hb, ↓reduceIte, cut, clamp, List.drop_zero]
      congr 3
      simp
      omega
    by_cases hi : i < 0
    · have e : numI i = 45 :: TL.numL i.natAbs := by simp [numI, hi]
      refine e_fiT (x := .bl true) (e_op (x := .str [45]) (y := .str [45]) (by rw [sl1, e]; rfl) e_k (by rw [op_eqS]; rfl)) rfl ?_
      refine e_sl (x := .str (numI i)) v0 one non ?_
      simp only [slv, hb, ↓reduceIte, cut, clamp]
      rw [e]
      simp
    · have e : numI i = TL.numL i.natAbs := by simp [numI, hi]
      refine e_fiF (x := .bl false) (e_op (x := .str ((numI i).take 1)) (y := .str [45]) sl1 e_k ?_) rfl (by rw [← e]; exact v0)
      rw [op_eqS, e]
      cases hh : TL.numL i.natAbs with
      | nil => exact absurd hh (TL.numL_ne _)
      | cons c cs =>
        have := hd c (by rw [hh]; simp)
        simp
        omega
  refine r_as (t := .nm 1) (ρ' := [some (.str (numI i)), some (.str (TL.numL i.natAbs)), none]) body rfl ?_
  have w0 : pev (PC n) [some (.str (numI i)), some (.str (TL.numL i.natAbs)), none] (.v 0) = some (.str (numI i)) := e_v rfl
  have w1 : pev (PC n) [some (.str (numI i)), some (.str (TL.numL i.natAbs)), none] (.v 1) = some (.str (TL.numL i.natAbs)) := e_v rfl
  have hz : (TL.numL i.natAbs).length ≤ lim := by rw [lim_eq]; omega
  refine r_ifF (x := .bl false) (e_ooF (x := .bl false) (e_nt (x := .bl true) (e_chT (x := .int 1) (y := .int (TL.numL i.natAbs).length) (z := .int 10) e_k (e_cb (es_one w1) (blLen hz)) e_k ?_ ?_) rfl) rfl (e_nt (x := .bl true) (all_in w1 (by show 2 < 3; omega) hz fun c hc => digit_in (hd c hc)) rfl)) rfl ?_
  · simp [opv]; omega
  · simp [opv]; omega
  refine r_ifF (x := .bl false) ?_ rfl (r_rt (e_cb (es_one w0) (int_back h)))
  by_cases h0 : i.natAbs = 0
  · have ei : i = 0 := by omega
    subst ei
    exact e_anT (x := .bl true) (e_op (x := .str [48]) (y := .str [48]) (e_ix (x := .str [48]) (y := .int 0) (e_v rfl) e_k rfl) e_k (by rw [op_eqS]; rfl)) rfl (e_op (x := .str [48]) (y := .str [48]) (e_v rfl) e_k (by rw [op_neS]; rfl))
  · obtain ⟨c, cs, e, h1, h2⟩ := numL_head i.natAbs (by omega)
    refine e_anF (x := .bl false) (e_op (x := .str [c]) (y := .str [48]) (e_ix (x := .str (TL.numL i.natAbs)) (y := .int 0) w1 e_k ?_) e_k ?_) rfl
    · rw [e] at hz c1 ⊢
      simp only [itm]
      have hb : Nat.ble (c :: cs).length lim = true := Nat.ble_eq_true_of_le hz
      rw [hb]
      simp [ixOf]
      omega
    · rw [op_eqS]
      simp
      omega
/-! ### texts joined and split -/
theorem totl_le {b : Nat} : ∀ {ss : List (List Nat)} {a : Nat}, (∀ s ∈ ss, s.length ≤ b) → ss.foldl (fun n s => n + s.length) a ≤ a + b * ss.length
  | [], a, _ => by simp
  | s :: ss, a, h => by
    have h1 := h s (by simp)
    have h2 := totl_le (ss := ss) (a := a + s.length) fun t ht => h t (by simp [ht])
    simp only [List.foldl_cons, List.length_cons]
    rw [Nat.mul_add]
    omega
theorem txts_map : ∀ ss : List (List Nat), txts (ss.map .str) = some ss
  | [] => rfl
  | s :: ss => by simp only [List.map_cons, txts, txts_map ss, Option.map_some]
theorem join_ok {c : Nat} {ss : List (List Nat)} (h : ∀ s ∈ ss, s.length ≤ 100) (hn : ss.length ≤ 20) : blv .join [.str [c], .lst (ss.map .str)] = some (.str (TL.joinL [c] ss)) := by
  have h1 := totl_le (a := 0) h
  have hb : Nat.ble (totl ss + ss.length * [c].length) lim = true := Nat.ble_eq_true_of_le (by
    unfold totl
    rw [lim_eq]
    simp
    omega)
  simp only [blv, txts_map, hb, ↓reduceIte]
theorem joinT_ok {c : Nat} {ss : List (List Nat)} (h : ∀ s ∈ ss, s.length ≤ 100) (hn : ss.length ≤ 20) : blv .join [.str [c], .tup (ss.map .str)] = some (.str (TL.joinL [c] ss)) := by
  have h1 := totl_le (a := 0) h
  have hb : Nat.ble (totl ss + ss.length * [c].length) lim = true := Nat.ble_eq_true_of_le (by
    unfold totl
    rw [lim_eq]
    simp
    omega)
  simp only [blv, txts_map, hb, ↓reduceIte]
theorem joinL_len {c b : Nat} : ∀ {ss : List (List Nat)}, (∀ s ∈ ss, s.length ≤ b) → (TL.joinL [c] ss).length ≤ (b + 1) * ss.length
  | [], _ => by simp [TL.joinL]
  | [p], h => by
    have := h p (by simp)
    simp [TL.joinL]
    omega
  | p :: q :: r, h => by
    have h1 := h p (by simp)
    have h2 := joinL_len (c := c) (ss := q :: r) fun s hs => h s (by simp [hs])
    show (p ++ ([c] ++ TL.joinL [c] (q :: r))).length ≤ _
    simp only [List.length_append, List.length_cons, List.length_nil] at h2 ⊢
    rw [Nat.mul_add (b + 1) _ 1]
    omega
theorem split_ok {c : Nat} {ss : List (List Nat)} (hne : ss ≠ []) (hc : c < 256) (h : ∀ s ∈ ss, s.length ≤ 100) (hn : ss.length ≤ 20) (hf : ∀ s ∈ ss, c ∉ s) : blv .split [.str (TL.joinL [c] ss), .str [c]] = some (.lst (ss.map .str)) := by
  have h1 := joinL_len (c := c) h
  have hb : (Nat.ble (TL.joinL [c] ss).length lim && Nat.blt c 256) = true := by
    rw [Bool.and_eq_true]
    refine ⟨Nat.ble_eq_true_of_le ?_, Nat.ble_eq_true_of_le hc⟩
    rw [lim_eq]
    have : 101 * ss.length ≤ 101 * 20 := Nat.mul_le_mul_left _ hn
    omega
  simp only [blv, hb, ↓reduceIte]
  rw [TL.spl_join hne hf]
theorem joinL_cons {c : Nat} {p : List Nat} {ss : List (List Nat)} (h : ss ≠ []) : TL.joinL [c] (p :: ss) = p ++ c :: TL.joinL [c] ss := by
  cases ss with
  | nil => exact absurd rfl h
  | cons q r => rfl
/-! ### the parts of a deed -/
inductive Fd where
  | nm (s : List Nat) | num (i : Int) | yes (b : Bool) | walk (ss : List (List Nat)) | ask (w : List Nat) (fs : List Fd)
def kc : Fd → Nat
  | .nm _ => 110 | .num _ => 98 | .yes _ => 121 | .walk _ => 114 | .ask _ _ => 97
mutual
def fv : Fd → Va
  | .nm s => .str s
  | .num i => .int i
  | .yes b => .bl b
  | .walk ss => .tup (ss.map .str)
  | .ask w fs => .tup (.str w :: fvs fs)
def fvs : List Fd → List Va
  | [] => []
  | f :: fs => fv f :: fvs fs
end
mutual
def ft : Fd → List Nat
  | .nm s => s
  | .num i => numI i
  | .yes b => if b then [121, 101, 115] else [110, 111]
  | .walk ss => if ss.isEmpty then [45] else TL.joinL [44] ss
  | .ask w fs => TL.joinL [32] (w :: fts fs)
def fts : List Fd → List (List Nat)
  | [] => []
  | f :: fs => ft f :: fts fs
end
theorem fvs_map (fs : List Fd) : fvs fs = fs.map fv := by induction fs <;> simp [fvs, *]
theorem fts_map (fs : List Fd) : fts fs = fs.map ft := by induction fs <;> simp [fts, *]
/-- a name or a number -/
def Sim : Fd → Prop
  | .nm s => NameOk s
  | .num i => Small i
  | _ => False
/-- an asking's word and parts fit its table -/
structure AskOk (w : List Nat) (fs : List Fd) : Prop where
  sim : ∀ f ∈ fs, Sim f
  few : fs.length ≤ 3
  nm : NameOk w
  shp : ∃ (l r : List (List Nat)), itm c_SHAPES (.str w) = some (.tup (l.map .str)) ∧ l.filter (fun s => decide (s.length = fs.length)) = fs.map kc :: r ∧ l.length ≤ 5 ∧ ∀ s ∈ l, s.length ≤ 5
def FdOk : Fd → Prop
  | .nm s => NameOk s
  | .num i => Small i
  | .yes _ => True
  | .walk ss => ss.length ≤ 8 ∧ ∀ s ∈ ss, NameOk s
  | .ask w fs => AskOk w fs
theorem name_free {s : List Nat} {c : Nat} (h : NameOk s) (hc : c < 97) : c ∉ s := fun hm => by have := (h.2.2 c hm).1; omega
theorem numI_free {i : Int} {c : Nat} (hc : c < 45 ∨ 57 < c) : c ∉ numI i := by
  have h0 : c ∉ TL.numL i.natAbs := TL.numL_free (by omega)
  unfold numI
  split
  · rw [List.mem_cons, not_or]
    exact ⟨by omega, h0⟩
  · exact h0
theorem sim_text {f : Fd} (h : Sim f) : (ft f).length ≤ 11 ∧ 32 ∉ ft f := by
  cases f with
  | nm s => exact ⟨by have := h.2.1; simp only [ft]; omega, name_free h (by decide)⟩
  | num i => exact ⟨(numI_len h).2, numI_free (by decide)⟩
  | yes _ => exact h.elim
  | walk _ => exact h.elim
  | ask _ _ => exact h.elim
theorem small_sml {i : Int} (h : Small i) : sml i = true := by
  obtain ⟨a, b⟩ := h
  unfold sml
  rw [Bool.and_eq_true, decide_eq_true_eq, decide_eq_true_eq]
  constructor <;> omega
theorem sim_str {f : Fd} (h : Sim f) : blv .strOf [fv f] = some (.str (ft f)) := by
  cases f with
  | nm s => rfl
  | num i => simp only [fv, ft, blv, small_sml h, ↓reduceIte]
  | yes _ => exact h.elim
  | walk _ => exact h.elim
  | ask _ _ => exact h.elim
/-- ' '.join([str(one) for one in ..]): simple parts -/
theorem words_ok {fs : List Fd} (hs : ∀ f ∈ fs, Sim f) (hn : fs.length ≤ 6) (n f : Nat) (hf : f = 1 ∨ f = 17) : PC (n + 1) f [.tup (fs.map fv)] = some (.str (TL.joinL [32] (fs.map ft))) := by
  have main : Rt (PC n) f_asking_text.body (start 2 [.tup (fs.map fv)]) (.str (TL.joinL [32] (fs.map ft))) := by
    refine r_rt ?_
    have key := e_lcm (C := PC n) (ρ := start 2 [.tup (fs.map fv)]) (w := .seq) (own := [1]) (t := .nm 1) (e := .cb .strOf (.cons (.v 1) .nil)) (es := .cons (.v 0) .nil) fs fv (fun f => .str (ft f)) (es_one (x := .tup (fs.map fv)) (e_v rfl)) rfl (by rw [lim_eq]; omega) (fun f hm => by
      have sf := hs f hm
      exact ⟨[some (.tup (fs.map fv)), some (fv f)], rfl, e_cb (es_one (x := fv f) (e_v rfl)) (sim_str sf) (by cases f <;> first | rfl | exact sf.elim)⟩)
    have e : fs.map (fun f => Va.str (ft f)) = (fs.map ft).map .str := by simp
    rw [e] at key
    refine e_cb (es_two (x := .str [32]) e_k key) (join_ok (fun s h => ?_) (by simp; omega))
    obtain ⟨f, hf, rfl⟩ := List.mem_map.mp h
    have := (sim_text (hs f hf)).1
    omega
  rcases hf with rfl | rfl
  · exact pc_of (F := f_asking_text) rfl rfl main
  · exact pc_of (F := f__law_words) rfl rfl main
theorem thing_in_ok {f : Fd} (h : Sim f) (n : Nat) : PC (n + 2) 3 [.str [kc f], .str (ft f)] = some (fv f) := by
  refine pc_of (F := f_thing_in) rfl rfl ?_
  have w0 : pev (PC (n + 1)) (start 2 [.str [kc f], .str (ft f)]) (.v 0) = some (.str [kc f]) := e_v rfl
  have w1 : pev (PC (n + 1)) (start 2 [.str [kc f], .str (ft f)]) (.v 1) = some (.str (ft f)) := e_v rfl
  cases f with
  | nm s =>
    refine r_ifF (x := .bl false) (e_op (x := .str [110]) (y := .str [98]) w0 e_k rfl) rfl ?_
    exact r_rt (e_fiT (x := .bl true) (e_cf (es_one w1) (is_name_ok h n)) rfl w1)
  | num i =>
    refine r_ifT (x := .bl true) (e_op (x := .str [98]) (y := .str [98]) w0 e_k rfl) rfl ?_
    exact r_rt (e_cf (es_one w1) (number_in_ok h n))
  | yes _ => exact h.elim
  | walk _ => exact h.elim
  | ask _ _ => exact h.elim
theorem zip_fields (fs : List Fd) (φ : Fd → Va) : zipL ((fs.map kc).map fun c => Va.str [c]) (fs.map φ) = fs.map fun f => .tup [.str [kc f], φ f] := by
  induction fs with
  | nil => rfl
  | cons f fs ih => simp only [List.map_cons, zipL, ih]
theorem okds_all : ∀ {xs : List Va}, (∀ x ∈ xs, okd x = true) → okds xs = true
  | [], _ => rfl
  | x :: xs, h => by simp only [okds, h x (by simp), okds_all (xs := xs) fun y hy => h y (by simp [hy]), Bool.and_self]
theorem deps_le {b : Nat} : ∀ {xs : List Va}, (∀ x ∈ xs, dep x ≤ b) → deps xs ≤ b
  | [], _ => Nat.zero_le _
  | x :: xs, h => by
    have h1 := h x (by simp)
    have h2 := deps_le (xs := xs) fun y hy => h y (by simp [hy])
    simp only [deps]
    omega
theorem none_in {xs : List Va} (h1 : ∀ x ∈ xs, okd x = true) (h2 : ∀ x ∈ xs, dep x ≤ 5) (h3 : ∀ x ∈ xs, veq x .non = false) : opv .mem .non (.lst xs) = some (.bl false) := by
  have hb : Nat.ble (deps xs) 59 = true := Nat.ble_eq_true_of_le (by have := deps_le h2; omega)
  have ha : (xs.any fun y => veq y .non) = false := by
    rw [List.any_eq_false]
    intro x hx
    rw [h3 x hx]
    exact Bool.false_ne_true
  simp only [opv, okd, okds_all h1, dep, hb, ha, Bool.and_self, Bool.true_and, ↓reduceIte, Nat.ble]
theorem sim_va {f : Fd} (h : Sim f) : okd (fv f) = true ∧ dep (fv f) = 0 ∧ veq (fv f) .non = false ∧ noRef (fv f) = true := by
  cases f <;> first | exact ⟨rfl, rfl, rfl, rfl⟩ | exact h.elim
theorem read_asking_ok {w : List Nat} {fs : List Fd} (h : AskOk w fs) (n : Nat) : PC (n + 3) 4 [.str (TL.joinL [32] (w :: fs.map ft))] = some (.tup (.str w :: fs.map fv)) := by
  obtain ⟨l, r, hl, hf, hn, hlen⟩ := h.shp
  have few := h.few
  refine pc_of (F := f_read_asking) rfl rfl ?_
  have sp := split_ok (c := 32) (ss := w :: fs.map ft) (by simp) (by decide) (fun s hs => by
    rcases List.mem_cons.mp hs with rfl | hs
    · have := h.nm.2.1; omega
    · obtain ⟨f, hf, rfl⟩ := List.mem_map.mp hs
      have := (sim_text (h.sim f hf)).1; omega) (by simp; omega) (fun s hs => by
    rcases List.mem_cons.mp hs with rfl | hs
    · exact name_free h.nm (by decide)
    · obtain ⟨f, hf, rfl⟩ := List.mem_map.mp hs
      exact (sim_text (h.sim f hf)).2)
  generalize hT : TL.joinL [32] (w :: fs.map ft) = T at *
  refine r_sta (x := .str w) (xs := (fs.map ft).map .str) (.inl (e_cb (es_two (x := .str T) (y := .str [32]) (e_v rfl) e_k) (by rw [sp]; rfl))) (ρ1 := [some (.str T), some (.str w), none, none, none, none, none, none]) rfl (ρ2 := [some (.str T), some (.str w), some (.lst ((fs.map ft).map .str)), none, none, none, none, none]) rfl ?_
  -- the shapes of that many parts
  have sh := e_lcf (C := PC (n + 2)) (ρ := [some (.str T), some (.str w), some (.lst ((fs.map ft).map .str)), none, none, none, none, none]) (w := .seq) (own := [5]) (t := .nm 5) (e := .v 5) (c := .op .eq (.cb .len (.cons (.v 5) .nil)) (.cb .len (.cons (.v 2) .nil))) (xs := [.tup (l.map .str)]) (vs := l.map .str) (p := fun x => match x with | .str s => decide (s.length = fs.length) | _ => false) (es := .cons (.cb .get2 (.cons (.k c_SHAPES) (.cons (.v 1) (.cons (.tu .nil) .nil)))) .nil)
    (es_one (e_cb (es_cons (x := c_SHAPES) e_k (es_two (x := .str w) (y := .tup []) (e_v rfl) (e_tu es_nil (Nat.zero_le _)))) (by
      show (if isLst (.tup []) then none else some ((itm c_SHAPES (.str w)).getD (.tup []))) = _
      rw [hl]; rfl) rfl)) rfl (by rw [lim_eq]; simp; omega) (fun x hx => by
      obtain ⟨s, hs, rfl⟩ := List.mem_map.mp hx
      refine ⟨[some (.str T), some (.str w), some (.lst ((fs.map ft).map .str)), none, none, some (.str s), none, none], .bl (decide (s.length = fs.length)), rfl, ?_, rfl, rfl, e_v rfl⟩
      have := hlen s hs
      refine e_op (x := .int s.length) (y := .int fs.length) (e_cb (es_one (x := .str s) (e_v rfl)) (blLen (by rw [lim_eq]; omega))) (e_cb (es_one (x := .lst ((fs.map ft).map .str)) (e_v rfl)) (by simp [blv])) ?_
      simp [opv, okc, okd, dep, veq]
      rw [Bool.eq_iff_iff]
      simp
      omega)
  have e1 : (l.map Va.str).filter (fun x => match x with | .str s => decide (s.length = fs.length) | _ => false) = (fs.map kc :: r).map .str := by
    rw [← hf, List.filter_map]
    rfl
  rw [e1] at sh
  refine r_as (t := .nm 3) (x := .lst ((fs.map kc :: r).map .str)) sh (ρ' := [some (.str T), some (.str w), some (.lst ((fs.map ft).map .str)), some (.lst ((fs.map kc :: r).map .str)), none, none, none, none]) rfl ?_
  generalize hρ : ([some (.str T), some (.str w), some (.lst ((fs.map ft).map .str)), some (.lst ((fs.map kc :: r).map .str)), none, none, none, none] : Loc) = ρ3
  refine r_ifF (x := .bl false) (e_op (x := .lst ((fs.map kc :: r).map .str)) (y := .lst []) (e_v (by rw [← hρ]; rfl)) (e_li es_nil (Nat.zero_le _)) ?_) rfl ?_
  · have hb : opv .eq (.lst ((fs.map kc :: r).map .str)) (.lst []) = if okc (.lst ((fs.map kc :: r).map .str)) (.lst []) then some (.bl false) else none := rfl
    rw [hb, if_pos]
    have o1 : okds ((fs.map kc :: r).map .str) = true := okds_all fun x hx => by obtain ⟨s, _, rfl⟩ := List.mem_map.mp hx; rfl
    have d1 : deps ((fs.map kc :: r).map Va.str) ≤ 0 := deps_le fun x hx => by obtain ⟨s, _, rfl⟩ := List.mem_map.mp hx; exact Nat.le_refl _
    have d2 : Nat.ble (deps ((fs.map kc :: r).map Va.str) + 1) 60 = true := Nat.ble_eq_true_of_le (by omega)
    simp only [okc, okd, o1, dep, d2, okds, Bool.and_self, Bool.true_and]
    rfl
  -- the things
  have th := e_lcm (C := PC (n + 2)) (ρ := ρ3) (w := .zip) (own := [6, 7]) (t := .tp [.nm 6, .nm 7]) (e := .cf 3 (.cons (.v 6) (.cons (.v 7) .nil))) (es := .cons (.ix (.v 3) (.k (.int 0))) (.cons (.v 2) .nil)) fs (fun f => .tup [.str [kc f], .str (ft f)]) fv
    (es_two (x := .str (fs.map kc)) (y := .lst ((fs.map ft).map .str)) (e_ix (x := .lst ((fs.map kc :: r).map .str)) (y := .int 0) (e_v (by rw [← hρ]; rfl)) e_k (by
      simp only [itm, List.map_cons]
      simp [ixOf]
      omega)) (e_v (by rw [← hρ]; rfl))) (by
      have := zip_fields fs (fun f => .str (ft f))
      simp only [wkL, seqL]
      rw [← this]
      simp
      rfl) (by rw [lim_eq]; omega) (fun f hf => by
      subst hρ
      exact ⟨[some (.str T), some (.str w), some (.lst ((fs.map ft).map .str)), some (.lst ((fs.map kc :: r).map .str)), none, none, some (.str [kc f]), some (.str (ft f))], rfl, e_cf (es_two (x := .str [kc f]) (y := .str (ft f)) (e_v rfl) (e_v rfl)) (thing_in_ok (h.sim f hf) n)⟩)
  subst hρ
  refine r_as (t := .nm 4) th (ρ' := [some (.str T), some (.str w), some (.lst ((fs.map ft).map .str)), some (.lst ((fs.map kc :: r).map .str)), some (.lst (fs.map fv)), none, none, none]) rfl ?_
  refine r_ifF (x := .bl false) (e_op (x := .non) (y := .lst (fs.map fv)) e_k (e_v rfl) (none_in (fun x hx => ?_) (fun x hx => ?_) (fun x hx => ?_))) rfl ?_
  · obtain ⟨f, hf, rfl⟩ := List.mem_map.mp hx; exact (sim_va (h.sim f hf)).1
  · obtain ⟨f, hf, rfl⟩ := List.mem_map.mp hx; rw [(sim_va (h.sim f hf)).2.1]; omega
  · obtain ⟨f, hf, rfl⟩ := List.mem_map.mp hx; exact (sim_va (h.sim f hf)).2.2.1
  refine r_rt (e_op (x := .tup [.str w]) (y := .tup (fs.map fv)) (e_tu (es_one (e_v rfl)) (by show 1 ≤ lim; rw [lim_eq]; omega)) (e_cb (es_one (x := .lst (fs.map fv)) (e_v rfl)) rfl) ?_)
  have hb : Nat.ble ([Va.str w].length + (fs.map fv).length) lim = true := Nat.ble_eq_true_of_le (by rw [lim_eq]; simp; omega)
  simp only [opv, hb, ↓reduceIte]
  rfl
end K67

namespace K67
open Mp
theorem joinL_free {c s : Nat} (hs : c ≠ s) : ∀ {ss : List (List Nat)}, (∀ p ∈ ss, c ∉ p) → c ∉ TL.joinL [s] ss
  | [], _ => by simp [TL.joinL]
  | [p], h => by simpa [TL.joinL] using h p (by simp)
  | p :: q :: r, h => by
    have h1 := h p (by simp)
    have h2 := joinL_free hs (ss := q :: r) fun s hs => h s (by simp [hs])
    show c ∉ p ++ ([s] ++ TL.joinL [s] (q :: r))
    simp only [List.mem_append, List.mem_singleton, not_or]
    exact ⟨h1, hs, h2⟩
theorem joinL_first {c s : Nat} {p : List Nat} : ∀ {ss : List (List Nat)}, ∃ r, TL.joinL [s] ((c :: p) :: ss) = c :: r
  | [] => ⟨p, rfl⟩
  | q :: r => ⟨p ++ ([s] ++ TL.joinL [s] (q :: r)), rfl⟩
def plain : Fd → Prop
  | .ask _ _ => False
  | _ => True
theorem fd_len {f : Fd} (h : FdOk f) : (ft f).length ≤ 90 := by
  cases f with
  | nm s => have := (show NameOk s from h).2.1; simp only [ft]; omega
  | num i => have := (numI_len (show Small i from h)).2; simp only [ft]; omega
  | yes b => simp only [ft]; split <;> decide
  | walk ss =>
    obtain ⟨h1, h2⟩ := (show ss.length ≤ 8 ∧ ∀ s ∈ ss, NameOk s from h)
    simp only [ft]
    split
    · decide
    · have := joinL_len (c := 44) (b := 8) (ss := ss) fun s hs => (h2 s hs).2.1
      omega
  | ask w fs =>
    have a := (show AskOk w fs from h)
    simp only [ft, fts_map]
    have := joinL_len (c := 32) (b := 11) (ss := w :: fs.map ft) fun s hs => by
      rcases List.mem_cons.mp hs with rfl | hs
      · have := a.nm.2.1; omega
      · obtain ⟨f, hf, rfl⟩ := List.mem_map.mp hs; exact (sim_text (a.sim f hf)).1
    have := a.few
    simp at *
    omega
theorem fd_free {f : Fd} (h : FdOk f) (hp : plain f) : 32 ∉ ft f := by
  cases f with
  | nm s => exact name_free h (by decide)
  | num i => exact numI_free (by decide)
  | yes b => simp only [ft]; split <;> decide
  | walk ss =>
    obtain ⟨h1, h2⟩ := (show ss.length ≤ 8 ∧ ∀ s ∈ ss, NameOk s from h)
    simp only [ft]
    split
    · decide
    · exact joinL_free (by decide) fun p hp => name_free (h2 p hp) (by decide)
  | ask _ _ => exact hp.elim
theorem tru_str {s : List Nat} (h : s.length ≤ lim) : tru (.str s) = some (!s.isEmpty) := by simp [tru, h]
theorem walk_join {C : PCall} {ρ : Loc} {a : Ex} {ss : List (List Nat)} (h1 : ss.length ≤ 8) (h2 : ∀ s ∈ ss, NameOk s) (h : pev C ρ a = some (.tup (ss.map .str))) : pev C ρ (.oo (.cb .join (.cons (.k (.str [44])) (.cons a .nil))) (.k (.str [45]))) = some (.str (ft (.walk ss))) := by
  have hj := e_cb (es_two (x := .str [44]) e_k h) (joinT_ok (c := 44) (fun s hs => by have := (h2 s hs).2.1; omega) (by omega))
  have hl := joinL_len (c := 44) (b := 8) (ss := ss) fun s hs => (h2 s hs).2.1
  have hz : (TL.joinL [44] ss).length ≤ lim := by rw [lim_eq]; omega
  simp only [ft]
  cases ss with
  | nil => exact e_ooF (x := .str []) hj rfl e_k
  | cons s ss =>
    obtain ⟨c, p, e⟩ : ∃ c p, s = c :: p := by
      cases s with
      | nil => have := (h2 [] (by simp)).1; simp at this
      | cons c p => exact ⟨c, p, rfl⟩
    subst e
    obtain ⟨r, er⟩ := joinL_first (c := c) (s := 44) (p := p) (ss := ss)
    refine e_ooT (x := .str (TL.joinL [44] ((c :: p) :: ss))) hj ?_
    rw [tru_str hz, er]
    rfl
theorem thing_text_ok {f : Fd} (h : FdOk f) (n : Nat) : PC (n + 2) 5 [.str [kc f], fv f] = some (.str (ft f)) := by
  refine pc_of (F := f_thing_text) rfl rfl ?_
  cases f with
  | nm s =>
    refine r_ifF (x := .bl false) (e_op (x := .str [110]) (y := .str [114]) (e_v rfl) e_k rfl) rfl ?_
    refine r_ifF (x := .bl false) (e_op (x := .str [110]) (y := .str [121]) (e_v rfl) e_k rfl) rfl ?_
    exact r_rt (e_fiF (x := .bl false) (e_op (x := .str [110]) (y := .str [97]) (e_v rfl) e_k rfl) rfl (e_cb (es_one (x := .str s) (e_v rfl)) rfl))
  | num i =>
    refine r_ifF (x := .bl false) (e_op (x := .str [98]) (y := .str [114]) (e_v rfl) e_k rfl) rfl ?_
    refine r_ifF (x := .bl false) (e_op (x := .str [98]) (y := .str [121]) (e_v rfl) e_k rfl) rfl ?_
    exact r_rt (e_fiF (x := .bl false) (e_op (x := .str [98]) (y := .str [97]) (e_v rfl) e_k rfl) rfl (e_cb (es_one (x := .int i) (e_v rfl)) (sim_str (f := .num i) h)))
  | yes b =>
    refine r_ifF (x := .bl false) (e_op (x := .str [121]) (y := .str [114]) (e_v rfl) e_k rfl) rfl ?_
    refine r_ifT (x := .bl true) (e_op (x := .str [121]) (y := .str [121]) (e_v rfl) e_k rfl) rfl ?_
    cases b with
    | true => exact r_rt (e_fiT (x := .bl true) (e_v rfl) rfl e_k)
    | false => exact r_rt (e_fiF (x := .bl false) (e_v rfl) rfl e_k)
  | walk ss =>
    obtain ⟨h1, h2⟩ := (show ss.length ≤ 8 ∧ ∀ s ∈ ss, NameOk s from h)
    refine r_ifT (x := .bl true) (e_op (x := .str [114]) (y := .str [114]) (e_v rfl) e_k rfl) rfl ?_
    exact r_rt (walk_join h1 h2 (e_v rfl))
  | ask w fs =>
    have a := (show AskOk w fs from h)
    refine r_ifF (x := .bl false) (e_op (x := .str [97]) (y := .str [114]) (e_v rfl) e_k rfl) rfl ?_
    refine r_ifF (x := .bl false) (e_op (x := .str [97]) (y := .str [121]) (e_v rfl) e_k rfl) rfl ?_
    have key := words_ok (fs := .nm w :: fs) (fun f hf => by
      rcases List.mem_cons.mp hf with rfl | hf
      · exact a.nm
      · exact a.sim f hf) (by have := a.few; simp; omega) n 1 (.inl rfl)
    refine r_rt (e_fiT (x := .bl true) (e_op (x := .str [97]) (y := .str [97]) (e_v rfl) e_k rfl) rfl (e_cf (es_one (x := .tup (.str w :: fs.map fv)) (e_v (by simp [start, fv, fvs_map]))) ?_))
    simp only [ft, fts_map]
    exact key
theorem rooms_in_ok {ss : List (List Nat)} (h1 : ss.length ≤ 8) (h2 : ∀ s ∈ ss, NameOk s) (n : Nat) : PC (n + 2) 7 [.str (ft (.walk ss))] = some (.tup (ss.map .str)) := by
  refine pc_of (F := f_rooms_in) rfl rfl ?_
  have first : pev (PC (n + 1)) (start 3 [.str (ft (.walk ss))]) (.fi (.op .eq (.v 0) (.k (.str [45]))) (.tu .nil) (.cb .tupOf (.cons (.cb .split (.cons (.v 0) (.cons (.k (.str [44])) .nil))) .nil))) = some (.tup (ss.map .str)) := by
    cases ss with
    | nil => exact e_fiT (x := .bl true) (e_op (x := .str [45]) (y := .str [45]) (e_v rfl) e_k rfl) rfl (e_tu es_nil (Nat.zero_le _))
    | cons s ss =>
      obtain ⟨c, p, e⟩ : ∃ c p, s = c :: p := by
        cases s with
        | nil => have := (h2 [] (by simp)).1; simp at this
        | cons c p => exact ⟨c, p, rfl⟩
      subst e
      obtain ⟨r, er⟩ := joinL_first (c := c) (s := 44) (p := p) (ss := ss)
      have hc := ((h2 (c :: p) (by simp)).2.2 c (by simp)).1
      have ef : ft (.walk ((c :: p) :: ss)) = TL.joinL [44] ((c :: p) :: ss) := rfl
      refine e_fiF (x := .bl false) (e_op (x := .str (ft (.walk ((c :: p) :: ss)))) (y := .str [45]) (e_v rfl) e_k ?_) rfl ?_
      · rw [op_eqS, ef, er]
        simp
        omega
      · refine e_cb (es_one (x := .lst (((c :: p) :: ss).map .str)) (e_cb (es_two (x := .str (ft (.walk ((c :: p) :: ss)))) (y := .str [44]) (e_v rfl) e_k) ?_)) rfl
        rw [ef]
        exact split_ok (by simp) (by decide) (fun s hs => by have := (h2 s hs).2.1; omega) (by omega) (fun s hs => name_free (h2 s hs) (by decide))
  generalize hT : ft (.walk ss) = T at *
  refine r_as (t := .nm 1) first (ρ' := [some (.str T), some (.tup (ss.map .str)), none]) rfl ?_
  have all := e_lcm (C := PC (n + 1)) (ρ := [some (.str T), some (.tup (ss.map .str)), none]) (w := .seq) (own := [2]) (t := .nm 2) (e := .cf 0 (.cons (.v 2) .nil)) (es := .cons (.v 1) .nil) ss .str (fun _ => .bl true) (es_one (x := .tup (ss.map .str)) (e_v rfl)) rfl (by rw [lim_eq]; omega) (fun s hs => ⟨[some (.str T), some (.tup (ss.map .str)), some (.str s)], rfl, e_cf (es_one (x := .str s) (e_v rfl)) (is_name_ok (h2 s hs) n)⟩)
  have e2 : ss.map (fun _ => Va.bl true) = (ss.map Va.str).map (fun _ => Va.bl true) := by simp
  rw [e2] at all
  exact r_rt (e_fiT (x := .bl true) (e_cb (es_one all) (all_true fun _ _ => rfl)) rfl (e_v rfl))
theorem thing_of_ok {f : Fd} (h : FdOk f) (n : Nat) : PC (n + 4) 8 [.str [kc f], .str (ft f)] = some (fv f) := by
  refine pc_of (F := f_thing_of) rfl rfl ?_
  cases f with
  | nm s =>
    refine r_ifT (x := .bl true) (e_op (x := .str [110]) (y := .str [110]) (e_v rfl) e_k rfl) rfl ?_
    exact r_rt (e_fiT (x := .bl true) (e_cf (es_one (x := .str s) (e_v rfl)) (is_name_ok h (n + 2))) rfl (e_v rfl))
  | num i =>
    refine r_ifF (x := .bl false) (e_op (x := .str [98]) (y := .str [110]) (e_v rfl) e_k rfl) rfl ?_
    refine r_ifF (x := .bl false) (e_op (x := .str [98]) (y := .str [114]) (e_v rfl) e_k rfl) rfl ?_
    refine r_ifF (x := .bl false) (e_op (x := .str [98]) (y := .str [121]) (e_v rfl) e_k rfl) rfl ?_
    exact r_rt (e_fiF (x := .bl false) (e_op (x := .str [98]) (y := .str [97]) (e_v rfl) e_k rfl) rfl (e_cf (es_one (x := .str (numI i)) (e_v rfl)) (number_in_ok h (n + 2))))
  | yes b =>
    refine r_ifF (x := .bl false) (e_op (x := .str [121]) (y := .str [110]) (e_v rfl) e_k rfl) rfl ?_
    refine r_ifF (x := .bl false) (e_op (x := .str [121]) (y := .str [114]) (e_v rfl) e_k rfl) rfl ?_
    refine r_ifT (x := .bl true) (e_op (x := .str [121]) (y := .str [121]) (e_v rfl) e_k rfl) rfl ?_
    cases b with
    | true => exact r_rt (e_cb (es_two (x := c_TRUTHS) (y := .str [121, 101, 115]) e_k (e_v rfl)) rfl)
    | false => exact r_rt (e_cb (es_two (x := c_TRUTHS) (y := .str [110, 111]) e_k (e_v rfl)) rfl)
  | walk ss =>
    obtain ⟨h1, h2⟩ := (show ss.length ≤ 8 ∧ ∀ s ∈ ss, NameOk s from h)
    refine r_ifF (x := .bl false) (e_op (x := .str [114]) (y := .str [110]) (e_v rfl) e_k rfl) rfl ?_
    refine r_ifT (x := .bl true) (e_op (x := .str [114]) (y := .str [114]) (e_v rfl) e_k rfl) rfl ?_
    exact r_rt (e_cf (es_one (x := .str (ft (.walk ss))) (e_v rfl)) (rooms_in_ok h1 h2 (n + 1)))
  | ask w fs =>
    have a := (show AskOk w fs from h)
    refine r_ifF (x := .bl false) (e_op (x := .str [97]) (y := .str [110]) (e_v rfl) e_k rfl) rfl ?_
    refine r_ifF (x := .bl false) (e_op (x := .str [97]) (y := .str [114]) (e_v rfl) e_k rfl) rfl ?_
    refine r_ifF (x := .bl false) (e_op (x := .str [97]) (y := .str [121]) (e_v rfl) e_k rfl) rfl ?_
    have key := read_asking_ok a n
    refine r_rt (e_fiT (x := .bl true) (e_op (x := .str [97]) (y := .str [97]) (e_v rfl) e_k rfl) rfl (e_cf (es_one (x := .str (TL.joinL [32] (w :: fs.map ft))) (e_v (by simp [start, ft, fts_map]))) ?_))
    simp only [fv, fvs_map]
    exact key
end K67

namespace K67
open Mp
structure DeedOk (w : List Nat) (fs : List Fd) : Prop where
  nm : NameOk w
  kinds : itm c_FORMS (.str w) = some (.str (fs.map kc))
  ok : ∀ f ∈ fs, FdOk f
  few : fs.length ≤ 3
  ne : fs ≠ []
  sort : (∀ f ∈ fs, plain f) ∨ ∃ s aw afs, fs = [.nm s, .ask aw afs]
theorem add_lst {a b : List Va} (h : a.length + b.length ≤ lim) : opv .add (.lst a) (.lst b) = some (.lst (a ++ b)) := by
  have hb : Nat.ble (a.length + b.length) lim = true := Nat.ble_eq_true_of_le h
  simp only [opv, hb, ↓reduceIte]
theorem add_tup {a b : List Va} (h : a.length + b.length ≤ lim) : opv .add (.tup a) (.tup b) = some (.tup (a ++ b)) := by
  have hb : Nat.ble (a.length + b.length) lim = true := Nat.ble_eq_true_of_le h
  simp only [opv, hb, ↓reduceIte]
theorem add_str {a b : List Nat} (h : a.length + b.length ≤ lim) : opv .add (.str a) (.str b) = some (.str (a ++ b)) := by
  have hb : Nat.ble (a.length + b.length) lim = true := Nat.ble_eq_true_of_le h
  simp only [opv, hb, ↓reduceIte]
theorem deed_text_ok {w : List Nat} {fs : List Fd} (h : DeedOk w fs) (n : Nat) : PC (n + 3) 6 [.tup (.str w :: fs.map fv)] = some (.str (TL.joinL [32] (w :: fs.map ft))) := by
  have few := h.few
  refine pc_of (F := f_deed_text) rfl rfl ?_
  generalize hD : Va.tup (.str w :: fs.map fv) = D
  refine r_sta (x := .str w) (xs := fs.map fv) (.inr (e_v (by rw [← hD]; rfl))) (ρ1 := [some D, some (.str w), none, none, none]) rfl (ρ2 := [some D, some (.str w), some (.lst (fs.map fv)), none, none]) rfl ?_
  have tx := e_lcm (C := PC (n + 2)) (ρ := [some D, some (.str w), some (.lst (fs.map fv)), none, none]) (w := .zip) (own := [3, 4]) (t := .tp [.nm 3, .nm 4]) (e := .cf 5 (.cons (.v 3) (.cons (.v 4) .nil))) (es := .cons (.ix (.k c_FORMS) (.v 1)) (.cons (.v 2) .nil)) fs (fun f => .tup [.str [kc f], fv f]) (fun f => .str (ft f))
    (es_two (x := .str (fs.map kc)) (y := .lst (fs.map fv)) (e_ix (x := c_FORMS) (y := .str w) e_k (e_v rfl) h.kinds) (e_v rfl)) (by
      simp only [wkL, seqL]
      rw [zip_fields fs fv]) (by rw [lim_eq]; omega) (fun f hf => ⟨[some D, some (.str w), some (.lst (fs.map fv)), some (.str [kc f]), some (fv f)], rfl, e_cf (es_two (x := .str [kc f]) (y := fv f) (e_v rfl) (e_v rfl)) (thing_text_ok (h.ok f hf) n)⟩)
  have e : (Va.str w :: fs.map fun f => Va.str (ft f)) = (w :: fs.map ft).map .str := by simp
  refine r_rt (e_cb (es_two (x := .str [32]) (y := .lst (.str w :: fs.map fun f => .str (ft f))) e_k (e_op (x := .lst [.str w]) (y := .lst (fs.map fun f => .str (ft f))) (e_li (es_one (e_v rfl)) (by show 1 ≤ lim; rw [lim_eq]; omega)) tx (add_lst (by rw [lim_eq]; simp; omega)))) ?_)
  rw [e]
  refine join_ok (fun s hs => ?_) (by simp; omega)
  rcases List.mem_cons.mp hs with rfl | hs
  · have := h.nm.2.1; omega
  · obtain ⟨f, hf, rfl⟩ := List.mem_map.mp hs
    have := fd_len (h.ok f hf); omega
theorem fd_va {f : Fd} (h : FdOk f) : okd (fv f) = true ∧ dep (fv f) ≤ 1 ∧ veq (fv f) .non = false := by
  cases f with
  | nm s => exact ⟨rfl, Nat.zero_le _, rfl⟩
  | num i => exact ⟨rfl, Nat.zero_le _, rfl⟩
  | yes b => exact ⟨rfl, Nat.zero_le _, rfl⟩
  | walk ss =>
    refine ⟨okds_all fun x hx => ?_, ?_, rfl⟩
    · obtain ⟨s, _, rfl⟩ := List.mem_map.mp hx; rfl
    · have : deps (ss.map Va.str) ≤ 0 := deps_le fun x hx => by obtain ⟨s, _, rfl⟩ := List.mem_map.mp hx; exact Nat.le_refl _
      simp only [fv, dep]
      omega
  | ask w fs =>
    have a := (show AskOk w fs from h)
    simp only [fv, fvs_map]
    refine ⟨okds_all fun x hx => ?_, ?_, rfl⟩
    · rcases List.mem_cons.mp hx with rfl | hx
      · rfl
      · obtain ⟨f, hf, rfl⟩ := List.mem_map.mp hx; exact (sim_va (a.sim f hf)).1
    · have : deps (.str w :: fs.map fv) ≤ 0 := deps_le fun x hx => by
        rcases List.mem_cons.mp hx with rfl | hx
        · exact Nat.le_refl _
        · obtain ⟨f, hf, rfl⟩ := List.mem_map.mp hx; rw [(sim_va (a.sim f hf)).2.1]; exact Nat.le_refl _
      simp only [dep]
      omega
/-- from where the parts stand apart -/
theorem deed_tail {w : List Nat} {fs : List Fd} (h : DeedOk w fs) (n : Nat) (T : Va) : Rt (PC (n + 4)) (.cons (.iff (.oo (.op .eq (.v 3) (.k (.str []))) (.op .ne (.cb .len (.cons (.v 2) .nil)) (.cb .len (.cons (.v 3) .nil)))) (.cons .no .nil) .nil) (.cons (.as (.nm 4) (.lc [5, 6] (.cf 8 (.cons (.v 5) (.cons (.v 6) .nil))) (.tp [(.nm 5), (.nm 6)]) .zip (.cons (.v 3) (.cons (.v 2) .nil)) .nil)) (.cons (.iff (.op .mem (.k .non) (.v 4)) (.cons .no .nil) .nil) (.cons (.rt (.op .add (.tu (.cons (.v 1) .nil)) (.cb .tupOf (.cons (.v 4) .nil)))) .nil))))
    [some T, some (.str w), some (.lst ((fs.map ft).map .str)), some (.str (fs.map kc)), none, none, none] (.tup (.str w :: fs.map fv)) := by
  have few := h.few
  have hne := h.ne
  refine r_ifF (x := .bl false) (e_ooF (x := .bl false) (e_op (x := .str (fs.map kc)) (y := .str []) (e_v rfl) e_k ?_) rfl (e_op (x := .int fs.length) (y := .int fs.length) (e_cb (es_one (x := .lst ((fs.map ft).map .str)) (e_v rfl)) (by simp [blv])) (e_cb (es_one (x := .str (fs.map kc)) (e_v rfl)) (by rw [blLen (by rw [lim_eq]; simp; omega)]; simp)) ?_)) rfl ?_
  · rw [op_eqS]
    cases fs with
    | nil => exact absurd rfl hne
    | cons f fs => rfl
  · simp [opv, okc, okd, dep, veq]
  have th := e_lcm (C := PC (n + 4)) (ρ := [some T, some (.str w), some (.lst ((fs.map ft).map .str)), some (.str (fs.map kc)), none, none, none]) (w := .zip) (own := [5, 6]) (t := .tp [.nm 5, .nm 6]) (e := .cf 8 (.cons (.v 5) (.cons (.v 6) .nil))) (es := .cons (.v 3) (.cons (.v 2) .nil)) fs (fun f => .tup [.str [kc f], .str (ft f)]) fv
    (es_two (x := .str (fs.map kc)) (y := .lst ((fs.map ft).map .str)) (e_v rfl) (e_v rfl)) (by
      have := zip_fields fs (fun f => .str (ft f))
      simp only [wkL, seqL]
      rw [← this]
      simp
      rfl) (by rw [lim_eq]; omega) (fun f hf => ⟨[some T, some (.str w), some (.lst ((fs.map ft).map .str)), some (.str (fs.map kc)), none, some (.str [kc f]), some (.str (ft f))], rfl, e_cf (es_two (x := .str [kc f]) (y := .str (ft f)) (e_v rfl) (e_v rfl)) (thing_of_ok (h.ok f hf) n)⟩)
  refine r_as (t := .nm 4) th (ρ' := [some T, some (.str w), some (.lst ((fs.map ft).map .str)), some (.str (fs.map kc)), some (.lst (fs.map fv)), none, none]) rfl ?_
  refine r_ifF (x := .bl false) (e_op (x := .non) (y := .lst (fs.map fv)) e_k (e_v rfl) (none_in (fun x hx => ?_) (fun x hx => ?_) (fun x hx => ?_))) rfl ?_
  · obtain ⟨f, hf, rfl⟩ := List.mem_map.mp hx; exact (fd_va (h.ok f hf)).1
  · obtain ⟨f, hf, rfl⟩ := List.mem_map.mp hx; have := (fd_va (h.ok f hf)).2.1; omega
  · obtain ⟨f, hf, rfl⟩ := List.mem_map.mp hx; exact (fd_va (h.ok f hf)).2.2
  exact r_rt (e_op (x := .tup [.str w]) (y := .tup (fs.map fv)) (e_tu (es_one (e_v rfl)) (by show 1 ≤ lim; rw [lim_eq]; omega)) (e_cb (es_one (x := .lst (fs.map fv)) (e_v rfl)) rfl) (add_tup (by rw [lim_eq]; simp; omega)))
theorem deed_of_ok {w : List Nat} {fs : List Fd} (h : DeedOk w fs) (n : Nat) : PC (n + 5) 9 [.str (TL.joinL [32] (w :: fs.map ft))] = some (.tup (.str w :: fs.map fv)) := by
  have few := h.few
  refine pc_of (F := f_deed_of) rfl rfl ?_
  rcases h.sort with hp | ⟨s, aw, afs, rfl⟩
  · have sp := split_ok (c := 32) (ss := w :: fs.map ft) (by simp) (by decide) (fun s hs => by
      rcases List.mem_cons.mp hs with rfl | hs
      · have := h.nm.2.1; omega
      · obtain ⟨f, hf, rfl⟩ := List.mem_map.mp hs
        have := fd_len (h.ok f hf); omega) (by simp; omega) (fun s hs => by
      rcases List.mem_cons.mp hs with rfl | hs
      · exact name_free h.nm (by decide)
      · obtain ⟨f, hf, rfl⟩ := List.mem_map.mp hs
        exact fd_free (h.ok f hf) (hp f hf))
    generalize hT : TL.joinL [32] (w :: fs.map ft) = T at *
    refine r_sta (x := .str w) (xs := (fs.map ft).map .str) (.inl (e_cb (es_two (x := .str T) (y := .str [32]) (e_v rfl) e_k) (by rw [sp]; rfl))) (ρ1 := [some (.str T), some (.str w), none, none, none, none, none]) rfl (ρ2 := [some (.str T), some (.str w), some (.lst ((fs.map ft).map .str)), none, none, none, none]) rfl ?_
    refine r_as (t := .nm 3) (x := .str (fs.map kc)) (e_cb (es_cons (x := c_FORMS) e_k (es_two (x := .str w) (y := .str []) (e_v rfl) e_k)) (by
      show (if isLst (.str []) then none else some ((itm c_FORMS (.str w)).getD (.str []))) = _
      rw [h.kinds]; rfl)) (ρ' := [some (.str T), some (.str w), some (.lst ((fs.map ft).map .str)), some (.str (fs.map kc)), none, none, none]) rfl ?_
    refine r_ifF (x := .bl false) (e_anF (x := .bl false) (e_op (x := .str (fs.map kc)) (y := .str [110, 97]) (e_v rfl) e_k ?_) rfl) rfl (deed_tail h n (.str T))
    rw [op_eqS]
    congr 2
    rw [decide_eq_false_iff_not]
    intro e
    obtain ⟨f, g, rfl⟩ : ∃ f g, fs = [f, g] := by
      have hl : fs.length = 2 := by simpa using congrArg List.length e
      match fs, hl with
      | [f, g], _ => exact ⟨f, g, rfl⟩
    simp only [List.map_cons, List.map_nil, List.cons.injEq] at e
    have := hp g (by simp)
    cases g <;> simp [kc, plain] at e this
  · have a := (show AskOk aw afs from h.ok (.ask aw afs) (by simp))
    have nmS := (show NameOk s from h.ok (.nm s) (by simp))
    have fa := a.few
    have eT : TL.joinL [32] (w :: [Fd.nm s, .ask aw afs].map ft) = TL.joinL [32] (w :: s :: aw :: afs.map ft) := by
      simp only [List.map_cons, List.map_nil, ft, fts_map]
      rw [joinL_cons (by simp), joinL_cons (by simp), joinL_cons (p := w) (by simp), joinL_cons (p := s) (by simp)]
      rfl
    rw [eT]
    have sp := split_ok (c := 32) (ss := w :: s :: aw :: afs.map ft) (by simp) (by decide) (fun t ht => by
      simp only [List.mem_cons] at ht
      rcases ht with rfl | rfl | rfl | ht
      · have := h.nm.2.1; omega
      · have := nmS.2.1; omega
      · have := a.nm.2.1; omega
      · obtain ⟨f, hf, rfl⟩ := List.mem_map.mp ht
        have := (sim_text (a.sim f hf)).1; omega) (by simp; omega) (fun t ht => by
      simp only [List.mem_cons] at ht
      rcases ht with rfl | rfl | rfl | ht
      · exact name_free h.nm (by decide)
      · exact name_free nmS (by decide)
      · exact name_free a.nm (by decide)
      · obtain ⟨f, hf, rfl⟩ := List.mem_map.mp ht
        exact (sim_text (a.sim f hf)).2)
    generalize hT : TL.joinL [32] (w :: s :: aw :: afs.map ft) = T at *
    refine r_sta (x := .str w) (xs := (s :: aw :: afs.map ft).map .str) (.inl (e_cb (es_two (x := .str T) (y := .str [32]) (e_v rfl) e_k) (by rw [sp]; rfl))) (ρ1 := [some (.str T), some (.str w), none, none, none, none, none]) rfl (ρ2 := [some (.str T), some (.str w), some (.lst ((s :: aw :: afs.map ft).map .str)), none, none, none, none]) rfl ?_
    refine r_as (t := .nm 3) (x := .str [110, 97]) (e_cb (es_cons (x := c_FORMS) e_k (es_two (x := .str w) (y := .str []) (e_v rfl) e_k)) (by
      show (if isLst (.str []) then none else some ((itm c_FORMS (.str w)).getD (.str []))) = _
      rw [h.kinds]; rfl)) (ρ' := [some (.str T), some (.str w), some (.lst ((s :: aw :: afs.map ft).map .str)), some (.str [110, 97]), none, none, none]) rfl ?_
    refine r_ifN (x := .bl true) (ρ' := [some (.str T), some (.str w), some (.lst (([Fd.nm s, .ask aw afs].map ft).map .str)), some (.str [110, 97]), none, none, none]) (e_anT (x := .bl true) (e_op (x := .str [110, 97]) (y := .str [110, 97]) (e_v rfl) e_k rfl) rfl (e_op (x := .int (afs.length + 2)) (y := .int 1) (e_cb (es_one (x := .lst ((s :: aw :: afs.map ft).map .str)) (e_v rfl)) (by simp [blv]; omega)) e_k (by simp [opv]; omega))) rfl ?_ (deed_tail h n (.str T))
    have jn := join_ok (c := 32) (ss := aw :: afs.map ft) (fun t ht => by
      simp only [List.mem_cons] at ht
      rcases ht with rfl | ht
      · have := a.nm.2.1; omega
      · obtain ⟨f, hf, rfl⟩ := List.mem_map.mp ht
        have := (sim_text (a.sim f hf)).1; omega) (by simp; omega)
    refine s_as' (t := .nm 2) (v := .lst [.str s, .str (TL.joinL [32] (aw :: afs.map ft))]) (e_li (es_two (e_ix (x := .lst ((s :: aw :: afs.map ft).map .str)) (y := .int 0) (e_v rfl) e_k ?_) (e_cb (es_two (x := .str [32]) (y := .lst ((aw :: afs.map ft).map .str)) e_k (e_sl (x := .lst ((s :: aw :: afs.map ft).map .str)) (l := some 1) (u := none) (e_v rfl) ?_ ?_ ?_)) jn)) (by show 2 ≤ lim; rw [lim_eq]; omega)) (ρ' := [some (.str T), some (.str w), some (.lst (([Fd.nm s, .ask aw afs].map ft).map .str)), some (.str [110, 97]), none, none, none]) ?_ (by simp [pexs])
    · simp [itm, ixOf]; omega
    · simp [pevo, pev, bnd, sml]
    · simp [pevo]
    · simp [slv, cut, clamp]
      exact List.take_of_length_le (by simp)
    · simp [tgt, ft, fts_map]
/-! ### alike -/
def Lk : Nat → Va → Prop
  | 0, v => flat v = true
  | d + 1, v => flat v = true ∨ ∃ xs, (v = .tup xs ∨ v = .lst xs) ∧ xs.length ≤ 1000 ∧ ∀ x ∈ xs, Lk d x
theorem zip_self (xs : List Va) : zipL xs xs = xs.map fun x => .tup [x, x] := by
  induction xs with
  | nil => rfl
  | cons x xs ih => simp only [zipL, List.map_cons, ih]
theorem like_flat {v : Va} (h : flat v = true) (n : Nat) : PC (n + 1) 19 [v, v] = some (.bl true) := by
  refine pc_of (F := f__law_like) rfl rfl ?_
  cases v <;> simp only [flat, Bool.false_eq_true] at h
  case non =>
    refine r_ifF (x := .bl false) (e_isi (x := .non) (e_v rfl) rfl) rfl ?_
    refine r_ifT (x := .bl true) (e_ooT (x := .bl true) rfl rfl) rfl ?_
    exact r_rt (e_anT (x := .bl true) rfl rfl rfl)
  case bl b =>
    refine r_ifF (x := .bl false) (e_isi (x := .bl b) (e_v rfl) rfl) rfl ?_
    refine r_ifF (x := .bl false) (e_ooF (x := .bl false) rfl rfl rfl) rfl ?_
    refine r_ifF (x := .bl false) (e_ooF (x := .bl false) (e_op (x := .bl true) (y := .bl true) (e_isi (x := .bl b) (e_v rfl) rfl) (e_isi (x := .bl b) (e_v rfl) rfl) rfl) rfl (e_op (x := .bl true) (y := .bl true) (e_isi (x := .bl b) (e_v rfl) rfl) (e_isi (x := .bl b) (e_v rfl) rfl) rfl)) rfl ?_
    exact r_rt (e_anT (x := .bl true) (e_op (x := .bl false) (y := .bl false) (e_isi (x := .bl b) (e_v rfl) rfl) (e_isi (x := .bl b) (e_v rfl) rfl) rfl) rfl (e_op (x := .bl b) (y := .bl b) (e_v rfl) (e_v rfl) (by simp [opv, okc, okd, dep, veq])))
  case int i =>
    refine r_ifF (x := .bl false) (e_isi (x := .int i) (e_v rfl) rfl) rfl ?_
    refine r_ifF (x := .bl false) (e_ooF (x := .bl false) rfl rfl rfl) rfl ?_
    refine r_ifF (x := .bl false) (e_ooF (x := .bl false) (e_op (x := .bl false) (y := .bl false) (e_isi (x := .int i) (e_v rfl) rfl) (e_isi (x := .int i) (e_v rfl) rfl) rfl) rfl (e_op (x := .bl true) (y := .bl true) (e_isi (x := .int i) (e_v rfl) rfl) (e_isi (x := .int i) (e_v rfl) rfl) rfl)) rfl ?_
    exact r_rt (e_anT (x := .bl true) (e_op (x := .bl false) (y := .bl false) (e_isi (x := .int i) (e_v rfl) rfl) (e_isi (x := .int i) (e_v rfl) rfl) rfl) rfl (e_op (x := .int i) (y := .int i) (e_v rfl) (e_v rfl) (by simp [opv, okc, okd, dep, veq])))
  case str s =>
    refine r_ifF (x := .bl false) (e_isi (x := .str s) (e_v rfl) rfl) rfl ?_
    refine r_ifF (x := .bl false) (e_ooF (x := .bl false) rfl rfl rfl) rfl ?_
    refine r_ifF (x := .bl false) (e_ooF (x := .bl false) (e_op (x := .bl false) (y := .bl false) (e_isi (x := .str s) (e_v rfl) rfl) (e_isi (x := .str s) (e_v rfl) rfl) rfl) rfl (e_op (x := .bl false) (y := .bl false) (e_isi (x := .str s) (e_v rfl) rfl) (e_isi (x := .str s) (e_v rfl) rfl) rfl)) rfl ?_
    exact r_rt (e_anT (x := .bl true) (e_op (x := .bl true) (y := .bl true) (e_isi (x := .str s) (e_v rfl) rfl) (e_isi (x := .str s) (e_v rfl) rfl) rfl) rfl (e_op (x := .str s) (y := .str s) (e_v rfl) (e_v rfl) (by rw [op_eqS]; simp)))
theorem like_refl : ∀ (d : Nat) (v : Va), Lk d v → ∀ n, PC (n + d + 1) 19 [v, v] = some (.bl true)
  | 0, v, h, n => like_flat h n
  | d + 1, v, h, n => by
    rcases h with h | ⟨xs, hv, hz, hx⟩
    · exact like_flat h (n + (d + 1))
    · have ih : ∀ x ∈ xs, PC (n + (d + 1)) 19 [x, x] = some (.bl true) := fun x hm => like_refl d x (hx x hm) n
      have eqn : opv .eq (.int xs.length) (.int xs.length) = some (.bl true) := by simp [opv, okc, okd, dep, veq]
      have main : ∀ u : Va, seqL u = some xs → pev (PC (n + (d + 1))) (start 4 [u, u]) (.cb .all (.cons (.lc [2, 3] (.cf 19 (.cons (.v 2) (.cons (.v 3) .nil))) (.tp [(.nm 2), (.nm 3)]) .zip (.cons (.v 0) (.cons (.v 1) .nil)) .nil) .nil)) = some (.bl true) := fun u hu => by
        have all := e_lcm (C := PC (n + (d + 1))) (ρ := start 4 [u, u]) (w := .zip) (own := [2, 3]) (t := .tp [.nm 2, .nm 3]) (e := .cf 19 (.cons (.v 2) (.cons (.v 3) .nil))) (es := .cons (.v 0) (.cons (.v 1) .nil)) xs (fun x => .tup [x, x]) (fun _ => .bl true) (es_two (x := u) (y := u) (e_v rfl) (e_v rfl)) (by simp only [wkL, hu]; rw [zip_self]) (by rw [lim_eq]; omega) (fun x hm => ⟨[some u, some u, some x, some x], rfl, e_cf (es_two (x := x) (y := x) (e_v rfl) (e_v rfl)) (ih x hm)⟩)
        exact e_cb (es_one all) (all_true (f := fun _ => .bl true) fun _ _ => rfl)
      refine pc_of (F := f__law_like) rfl rfl ?_
      rcases hv with rfl | rfl
      · refine r_ifT (x := .bl true) (e_isi (x := .tup xs) (e_v rfl) rfl) rfl ?_
        refine r_ifF (x := .bl false) (e_ooF (x := .bl false) (e_op (x := .bl false) (y := .bl false) (e_isi (x := .tup xs) (e_v rfl) rfl) (e_isi (x := .tup xs) (e_v rfl) rfl) rfl) rfl (e_op (x := .bl true) (y := .bl true) (e_isi (x := .tup xs) (e_v rfl) rfl) (e_isi (x := .tup xs) (e_v rfl) rfl) rfl)) rfl ?_
        exact r_rt (e_anT (x := .bl true) (e_op (x := .int xs.length) (y := .int xs.length) (e_cb (es_one (x := .tup xs) (e_v rfl)) rfl) (e_cb (es_one (x := .tup xs) (e_v rfl)) rfl) eqn) rfl (main _ rfl))
      · refine r_ifT (x := .bl true) (e_isi (x := .lst xs) (e_v rfl) rfl) rfl ?_
        refine r_ifF (x := .bl false) (e_ooF (x := .bl false) (e_op (x := .bl true) (y := .bl true) (e_isi (x := .lst xs) (e_v rfl) rfl) (e_isi (x := .lst xs) (e_v rfl) rfl) rfl) rfl (e_op (x := .bl false) (y := .bl false) (e_isi (x := .lst xs) (e_v rfl) rfl) (e_isi (x := .lst xs) (e_v rfl) rfl) rfl)) rfl ?_
        exact r_rt (e_anT (x := .bl true) (e_op (x := .int xs.length) (y := .int xs.length) (e_cb (es_one (x := .lst xs) (e_v rfl)) rfl) (e_cb (es_one (x := .lst xs) (e_v rfl)) rfl) eqn) rfl (main _ rfl))
theorem fd_lk {f : Fd} (h : FdOk f) : Lk 1 (fv f) := by
  cases f with
  | nm s => exact .inl rfl
  | num i => exact .inl rfl
  | yes b => exact .inl rfl
  | walk ss =>
    obtain ⟨h1, h2⟩ := (show ss.length ≤ 8 ∧ ∀ s ∈ ss, NameOk s from h)
    exact .inr ⟨_, .inl rfl, by simp; omega, fun x hx => by obtain ⟨s, _, rfl⟩ := List.mem_map.mp hx; rfl⟩
  | ask w fs =>
    have a := (show AskOk w fs from h)
    refine .inr ⟨_, .inl rfl, ?_, fun x hx => ?_⟩
    · have := a.few; simp [fvs_map]; omega
    · rw [fvs_map] at hx
      rcases List.mem_cons.mp hx with rfl | hx
      · rfl
      · obtain ⟨f, hf, rfl⟩ := List.mem_map.mp hx
        have := a.sim f hf
        cases f <;> first | rfl | exact this.elim
theorem deed_like {w : List Nat} {fs : List Fd} (h : DeedOk w fs) (T : List Nat) (n : Nat) : PC (n + 4) 19 [.lst [.str T, .tup (.str w :: fs.map fv)], .lst [.str T, .tup (.str w :: fs.map fv)]] = some (.bl true) := by
  refine like_refl 3 _ (.inr ⟨_, .inr rfl, by show 2 ≤ 1000; omega, fun x hx => ?_⟩) n
  simp only [List.mem_cons, List.not_mem_nil, or_false] at hx
  rcases hx with rfl | rfl
  · exact .inl rfl
  · refine .inr ⟨_, .inl rfl, by have := h.few; simp; omega, fun x hx => ?_⟩
    rcases List.mem_cons.mp hx with rfl | hx
    · exact .inl rfl
    · obtain ⟨f, hf, rfl⟩ := List.mem_map.mp hx
      exact fd_lk (h.ok f hf)
/-! ### the line -/
inductive Kind : List Nat → List Fd → Prop where
  | sim {w : List Nat} {fs : List Fd} (h : ∀ f ∈ fs, Sim f) (h1 : w ≠ [112, 111, 115, 116]) (h2 : w ≠ [114, 117, 108, 101]) (h3 : w ≠ [119, 97, 116, 99, 104]) : Kind w fs
  | post {a : List Nat} {ss : List (List Nat)} {i : Int} : Kind [112, 111, 115, 116] [.nm a, .walk ss, .num i]
  | rule {b : Bool} {i : Int} : Kind [114, 117, 108, 101] [.yes b, .num i]
  | watch {a aw : List Nat} {fs : List Fd} : Kind [119, 97, 116, 99, 104] [.nm a, .ask aw fs]
theorem line_ok {w : List Nat} {fs : List Fd} (h : DeedOk w fs) (k : Kind w fs) (n : Nat) : PC (n + 2) 18 [.tup (.str w :: fs.map fv)] = some (.str (TL.joinL [32] (w :: fs.map ft))) := by
  have few := h.few
  refine pc_of (F := f__law_line) rfl rfl ?_
  cases k with
  | sim hs h1 h2 h3 =>
    refine r_ifF (x := .bl false) (e_op (x := .str w) (y := .str [112, 111, 115, 116]) (e_ix (x := .tup (.str w :: fs.map fv)) (y := .int 0) (e_v rfl) e_k (by simp [itm, ixOf]; omega)) e_k (by rw [op_eqS]; simp [h1])) rfl ?_
    refine r_ifF (x := .bl false) (e_op (x := .str w) (y := .str [114, 117, 108, 101]) (e_ix (x := .tup (.str w :: fs.map fv)) (y := .int 0) (e_v rfl) e_k (by simp [itm, ixOf]; omega)) e_k (by rw [op_eqS]; simp [h2])) rfl ?_
    refine r_ifF (x := .bl false) (e_op (x := .str w) (y := .str [119, 97, 116, 99, 104]) (e_ix (x := .tup (.str w :: fs.map fv)) (y := .int 0) (e_v rfl) e_k (by simp [itm, ixOf]; omega)) e_k (by rw [op_eqS]; simp [h3])) rfl ?_
    have key := words_ok (fs := .nm w :: fs) (fun f hf => by
      rcases List.mem_cons.mp hf with rfl | hf
      · exact h.nm
      · exact hs f hf) (by simp; omega) n 17 (.inr rfl)
    exact r_rt (e_cf (es_one (x := .tup (.str w :: fs.map fv)) (e_v rfl)) key)
  | @post a ss i =>
    have na := (show NameOk a from h.ok (.nm a) (by simp))
    obtain ⟨w1, w2⟩ := (show ss.length ≤ 8 ∧ ∀ s ∈ ss, NameOk s from h.ok (.walk ss) (by simp))
    have si := (show Small i from h.ok (.num i) (by simp))
    have la := na.2.1
    have lw := fd_len (h.ok (.walk ss) (by simp))
    have li := (numI_len si).2
    refine r_ifT (x := .bl true) (e_op (x := .str [112, 111, 115, 116]) (y := .str [112, 111, 115, 116]) (e_ix (x := .tup [.str [112, 111, 115, 116], .str a, .tup (ss.map .str), .int i]) (y := .int 0) (e_v rfl) e_k rfl) e_k rfl) rfl ?_
    have v1 : pev (PC (n + 1)) (start 1 [.tup [.str [112, 111, 115, 116], .str a, .tup (ss.map .str), .int i]]) (.ix (.v 0) (.k (.int 1))) = some (.str a) := e_ix (x := .tup [.str [112, 111, 115, 116], .str a, .tup (ss.map .str), .int i]) (y := .int 1) (e_v rfl) e_k rfl
    have v2 : pev (PC (n + 1)) (start 1 [.tup [.str [112, 111, 115, 116], .str a, .tup (ss.map .str), .int i]]) (.ix (.v 0) (.k (.int 2))) = some (.tup (ss.map .str)) := e_ix (x := .tup [.str [112, 111, 115, 116], .str a, .tup (ss.map .str), .int i]) (y := .int 2) (e_v rfl) e_k rfl
    have v3 : pev (PC (n + 1)) (start 1 [.tup [.str [112, 111, 115, 116], .str a, .tup (ss.map .str), .int i]]) (.ix (.v 0) (.k (.int 3))) = some (.int i) := e_ix (x := .tup [.str [112, 111, 115, 116], .str a, .tup (ss.map .str), .int i]) (y := .int 3) (e_v rfl) e_k rfl
    have big := e_op (o := .add) (e_op (o := .add) (e_op (o := .add) (e_op (o := .add) (e_op (o := .add) (x := .str [112, 111, 115, 116, 32]) (y := .str a) e_k v1 (add_str (by rw [lim_eq]; simp; omega))) (e_k (v := .str [32])) (add_str (by rw [lim_eq]; simp; omega)) rfl rfl) (walk_join w1 w2 v2) (add_str (by rw [lim_eq]; simp; omega)) rfl rfl) (e_k (v := .str [32])) (add_str (by rw [lim_eq]; simp; omega)) rfl rfl) (e_cb (es_one v3) (sim_str (f := .num i) si)) (add_str (by rw [lim_eq]; simp [ft] at *; omega)) rfl rfl
    have e : TL.joinL [32] ([112, 111, 115, 116] :: [Fd.nm a, .walk ss, .num i].map ft) = ((([112, 111, 115, 116, 32] ++ a) ++ [32]) ++ ft (.walk ss)) ++ [32] ++ ft (.num i) := by
      simp only [List.map_cons, List.map_nil]
      rw [joinL_cons (by simp), joinL_cons (by simp), joinL_cons (by simp)]
      simp [TL.joinL, ft]
    rw [e]
    exact r_rt big
  | @rule b i =>
    have si := (show Small i from h.ok (.num i) (by simp))
    have li := (numI_len si).2
    refine r_ifF (x := .bl false) (e_op (x := .str [114, 117, 108, 101]) (y := .str [112, 111, 115, 116]) (e_ix (x := .tup [.str [114, 117, 108, 101], .bl b, .int i]) (y := .int 0) (e_v rfl) e_k rfl) e_k rfl) rfl ?_
    refine r_ifT (x := .bl true) (e_op (x := .str [114, 117, 108, 101]) (y := .str [114, 117, 108, 101]) (e_ix (x := .tup [.str [114, 117, 108, 101], .bl b, .int i]) (y := .int 0) (e_v rfl) e_k rfl) e_k rfl) rfl ?_
    have v1 : pev (PC (n + 1)) (start 1 [.tup [.str [114, 117, 108, 101], .bl b, .int i]]) (.ix (.v 0) (.k (.int 1))) = some (.bl b) := e_ix (x := .tup [.str [114, 117, 108, 101], .bl b, .int i]) (y := .int 1) (e_v rfl) e_k rfl
    have v2 : pev (PC (n + 1)) (start 1 [.tup [.str [114, 117, 108, 101], .bl b, .int i]]) (.ix (.v 0) (.k (.int 2))) = some (.int i) := e_ix (x := .tup [.str [114, 117, 108, 101], .bl b, .int i]) (y := .int 2) (e_v rfl) e_k rfl
    have vy : pev (PC (n + 1)) (start 1 [.tup [.str [114, 117, 108, 101], .bl b, .int i]]) (.ix (.li (.cons (.k (.str [110, 111])) (.cons (.k (.str [121, 101, 115])) .nil))) (.cb .intOf (.cons (.ix (.v 0) (.k (.int 1))) .nil))) = some (.str (ft (.yes b))) := by
      refine e_ix (x := .lst [.str [110, 111], .str [121, 101, 115]]) (y := .int (if b then 1 else 0)) (e_li (es_two e_k e_k) (by show 2 ≤ lim; rw [lim_eq]; omega)) (e_cb (es_one v1) rfl) ?_
      cases b <;> rfl
    have ly : (ft (.yes b)).length ≤ 3 := by cases b <;> decide
    have big := e_op (o := .add) (e_op (o := .add) (e_op (o := .add) (x := .str [114, 117, 108, 101, 32]) (y := .str (ft (.yes b))) e_k vy (add_str (by rw [lim_eq]; simp; omega))) (e_k (v := .str [32])) (add_str (by rw [lim_eq]; simp; omega)) rfl rfl) (e_cb (es_one v2) (sim_str (f := .num i) si)) (add_str (by rw [lim_eq]; simp [ft] at *; omega)) rfl rfl
    have e : TL.joinL [32] ([114, 117, 108, 101] :: [Fd.yes b, .num i].map ft) = (([114, 117, 108, 101, 32] ++ ft (.yes b)) ++ [32]) ++ ft (.num i) := by
      simp only [List.map_cons, List.map_nil]
      rw [joinL_cons (by simp), joinL_cons (by simp)]
      simp [TL.joinL]
    rw [e]
    exact r_rt big
  | @watch a aw afs =>
    have na := (show NameOk a from h.ok (.nm a) (by simp))
    have as := (show AskOk aw afs from h.ok (.ask aw afs) (by simp))
    have la := na.2.1
    have lk := fd_len (h.ok (.ask aw afs) (by simp))
    have D : [Fd.nm a, .ask aw afs].map fv = [.str a, .tup (.str aw :: afs.map fv)] := by simp [fv, fvs_map]
    rw [D]
    refine r_ifF (x := .bl false) (e_op (x := .str [119, 97, 116, 99, 104]) (y := .str [112, 111, 115, 116]) (e_ix (x := .tup [.str [119, 97, 116, 99, 104], .str a, .tup (.str aw :: afs.map fv)]) (y := .int 0) (e_v rfl) e_k rfl) e_k rfl) rfl ?_
    refine r_ifF (x := .bl false) (e_op (x := .str [119, 97, 116, 99, 104]) (y := .str [114, 117, 108, 101]) (e_ix (x := .tup [.str [119, 97, 116, 99, 104], .str a, .tup (.str aw :: afs.map fv)]) (y := .int 0) (e_v rfl) e_k rfl) e_k rfl) rfl ?_
    refine r_ifT (x := .bl true) (e_op (x := .str [119, 97, 116, 99, 104]) (y := .str [119, 97, 116, 99, 104]) (e_ix (x := .tup [.str [119, 97, 116, 99, 104], .str a, .tup (.str aw :: afs.map fv)]) (y := .int 0) (e_v rfl) e_k rfl) e_k rfl) rfl ?_
    have v1 : pev (PC (n + 1)) (start 1 [.tup [.str [119, 97, 116, 99, 104], .str a, .tup (.str aw :: afs.map fv)]]) (.ix (.v 0) (.k (.int 1))) = some (.str a) := e_ix (x := .tup [.str [119, 97, 116, 99, 104], .str a, .tup (.str aw :: afs.map fv)]) (y := .int 1) (e_v rfl) e_k rfl
    have v2 : pev (PC (n + 1)) (start 1 [.tup [.str [119, 97, 116, 99, 104], .str a, .tup (.str aw :: afs.map fv)]]) (.ix (.v 0) (.k (.int 2))) = some (.tup (.str aw :: afs.map fv)) := e_ix (x := .tup [.str [119, 97, 116, 99, 104], .str a, .tup (.str aw :: afs.map fv)]) (y := .int 2) (e_v rfl) e_k rfl
    have key := words_ok (fs := .nm aw :: afs) (fun f hf => by
      rcases List.mem_cons.mp hf with rfl | hf
      · exact as.nm
      · exact as.sim f hf) (by have := as.few; simp; omega) n 17 (.inr rfl)
    have ek : TL.joinL [32] ((Fd.nm aw :: afs).map ft) = ft (.ask aw afs) := by simp [ft, fts_map]
    rw [ek] at key
    have big := e_op (o := .add) (e_op (o := .add) (e_op (o := .add) (x := .str [119, 97, 116, 99, 104, 32]) (y := .str a) e_k v1 (add_str (by rw [lim_eq]; simp; omega))) (e_k (v := .str [32])) (add_str (by rw [lim_eq]; simp; omega)) rfl rfl) (e_cf (es_one v2) key) (add_str (by rw [lim_eq]; simp; omega)) rfl rfl
    have e : TL.joinL [32] ([119, 97, 116, 99, 104] :: [Fd.nm a, .ask aw afs].map ft) = (([119, 97, 116, 99, 104, 32] ++ a) ++ [32]) ++ ft (.ask aw afs) := by
      simp only [List.map_cons, List.map_nil]
      rw [joinL_cons (by simp), joinL_cons (by simp)]
      simp [TL.joinL, ft]
    rw [e]
    exact r_rt big
end K67

namespace K67
open Mp
variable {cs : List Int}
abbrev HC := calls code
theorem hC (n f : Nat) (vs : List Va) (v : Va) (e : PC n f vs = some v) : Say (HC n f vs) v := pcalls_say n f vs v e
theorem draw_w {n : Nat} {many : Int} (hm : 0 < many) (hm2 : many < 2 ^ 64) : Wf cs (HC (n + 1)) 10 [.ref 0, .int many] fun v => ∃ r, v = .int r ∧ 0 ≤ r ∧ r < many := draw_wf rfl hm hm2
theorem itm_in {xs : List Va} {r : Int} (h0 : 0 ≤ r) (h1 : r < xs.length) : ∃ v, itm (.lst xs) (.int r) = some v ∧ v ∈ xs := by
  have hl : r.toNat < xs.length := by omega
  refine ⟨xs[r.toNat], ?_, List.getElem_mem hl⟩
  simp only [itm]
  rw [if_pos (by simp only [Bool.and_eq_true, decide_eq_true_eq]; constructor <;> omega)]
  have : ixOf xs.length r = r.toNat := by unfold ixOf; rw [if_neg (by omega)]
  rw [this, List.getElem?_eq_getElem hl]
theorem of_w {n : Nat} {xs : List Va} {P : Va → Prop} (hne : xs ≠ []) (hz : xs.length ≤ 1000) (ha : All P xs) : Wf cs (HC (n + 2)) 11 [.ref 0, .lst xs] P := by
  refine wf_of (F := f__law_of) rfl rfl (ws_rt ?_)
  have hp : 0 < xs.length := List.length_pos_iff.mpr hne
  refine wp_ix (P := fun x => x = .lst xs) (Q := fun v => ∃ r, v = .int r ∧ 0 ≤ r ∧ r < (xs.length : Int)) (wp_v rfl rfl) (wp_cf (P := fun ys => ys = [.ref 0, .int xs.length]) (wps_cons (P := fun v => v = .ref 0) (Q := fun ys => ys = [.int xs.length]) (wp_v rfl rfl) (wps_cons (P := fun v => v = .int xs.length) (Q := fun ys => ys = []) (wp_cb1 (P := fun v => v = .lst xs) (wp_v rfl rfl) fun x e => by subst e; exact ⟨rfl, _, rfl, rfl⟩) (wps_nil rfl) fun x ys e1 e2 => by rw [e1, e2]) fun x ys e1 e2 => by rw [e1, e2]) fun ys e => by subst e; exact draw_w (by omega) (by omega)) fun x y e ⟨r, ey, h0, h1⟩ => by
    subst e ey
    obtain ⟨v, e, hm⟩ := itm_in h0 h1
    exact ⟨rfl, v, e, ha v hm⟩
/-- box, a list: the arguments of a drawing def -/
theorem two_args {C : Call} {ρ : Loc} {e : Ex} {P : Va → Prop} {R : List Va → Prop} (hr : ρ[0]? = some (some (.ref 0))) (he : Wp cs C ρ e P) (i : ∀ x, P x → R [.ref 0, x]) : Wps cs C ρ (.cons (.v 0) (.cons e .nil)) R :=
  wps_cons (P := fun v => v = .ref 0) (Q := fun ys => ∃ x, ys = [x] ∧ P x) (wp_v hr rfl) (wps_cons (P := P) (Q := fun ys => ys = []) he (wps_nil rfl) fun x ys p e => ⟨x, by rw [e], p⟩) fun x ys e ⟨y, ey, p⟩ => by rw [e, ey]; exact i y p
theorem draw_e {n : Nat} {ρ : Loc} {many : Int} (hr : ρ[0]? = some (some (.ref 0))) (hm : 0 < many) (hm2 : many < 2 ^ 64) : Wp cs (HC (n + 1)) ρ (.cf 10 (.cons (.v 0) (.cons (.k (.int many)) .nil))) fun v => ∃ r, v = .int r ∧ 0 ≤ r ∧ r < many :=
  wp_cf (two_args (P := fun v => v = .int many) (R := fun ys => ys = [.ref 0, .int many]) hr (wp_k rfl) fun x e => by rw [e]) fun xs e => by subst e; exact draw_w hm hm2
/-- one of a list -/
theorem of_e {n : Nat} {ρ : Loc} {e : Ex} {P : Va → Prop} (hr : ρ[0]? = some (some (.ref 0))) (he : Wp cs (HC (n + 2)) ρ e fun v => ∃ xs, v = .lst xs ∧ xs ≠ [] ∧ xs.length ≤ 1000 ∧ All P xs) : Wp cs (HC (n + 2)) ρ (.cf 11 (.cons (.v 0) (.cons e .nil))) P :=
  wp_cf (two_args (R := fun ys => ∃ xs, ys = [.ref 0, .lst xs] ∧ xs ≠ [] ∧ xs.length ≤ 1000 ∧ All P xs) hr he fun x ⟨xs, e, r⟩ => ⟨xs, by rw [e], r⟩) fun ys ⟨xs, e, h1, h2, h3⟩ => by subst e; exact of_w h1 h2 h3
/-- a display -/
theorem disp_e {C : Call} {ρ : Loc} {es : Exs} {k : Nat} {P : Va → Prop} (h : Wps cs C ρ es fun xs => All P xs ∧ xs.length = k) (h0 : 0 < k) (hk : k ≤ 1000) : Wp cs C ρ (.li es) fun v => ∃ xs, v = .lst xs ∧ xs ≠ [] ∧ xs.length ≤ 1000 ∧ All P xs :=
  wp_li h fun xs ⟨a, l⟩ => ⟨by rw [lim_eq]; omega, xs, rfl, by intro e; subst e; simp at l; omega, by omega, a⟩
def NmV (v : Va) : Prop := ∃ s, v = .str s ∧ NameOk s
theorem nm_of {s : List Nat} (h1 : 1 ≤ s.length) (h2 : s.length ≤ 8) (h3 : s.all (fun c => Nat.ble 97 c && Nat.ble c 122) = true) : NmV (.str s) := ⟨s, rfl, h1, h2, fun c hc => by
  rw [List.all_eq_true] at h3
  have := h3 c hc
  rw [Bool.and_eq_true] at this
  exact ⟨Nat.le_of_ble_eq_true this.1, Nat.le_of_ble_eq_true this.2⟩⟩
/-! ### a name from the pool -/
theorem name_of_w {n : Nat} : Wf cs (HC (n + 3)) 13 [.ref 0, .lst []] NmV := by
  refine wf_of (F := f__law_name_of) rfl rfl ?_
  have pool : Wp cs (HC (n + 2)) (start 4 [.ref 0, .lst []]) (.li (.cons (.k (.str [104, 97, 108, 108])) (.cons (.k (.str [115, 116, 97, 105, 114])) (.cons (.k (.str [97])) (.cons (.k (.str [108, 111, 102, 116])) (.cons (.k (.str [100, 101, 110])) (.cons (.k (.str [98])) (.cons (.k (.str [103, 97, 116, 101])) (.cons (.k (.str [99, 101, 108, 108, 97, 114])) (.cons (.k (.str [121, 97, 114, 100])) (.cons (.k (.str [110, 111, 111, 107])) (.cons (.k (.str [116, 111, 119, 101, 114])) (.cons (.k (.str [98, 97, 115, 101, 109, 101, 110, 116])) .nil))))))))))))) fun v => ∃ xs, v = .lst xs ∧ xs ≠ [] ∧ xs.length ≤ 1000 ∧ All NmV xs := by
    have p : ∀ s : List Nat, 1 ≤ s.length → s.length ≤ 8 → s.all (fun c => Nat.ble 97 c && Nat.ble c 122) = true → ∀ {C : Call} {ρ : Loc}, Wp cs C ρ (.k (.str s)) NmV := fun s a b c => wp_k (nm_of a b c)
    refine disp_e (k := 12) ?_ (by decide) (by decide)
    iterate 12 refine wps_all (p _ (by decide) (by decide) (by decide)) ?_
    exact wps_none
  refine ws_as (t := .nm 2) pool fun v ⟨xs, e, h1, h2, h3⟩ => ⟨[some (.ref 0), some (.lst []), some v, none], rfl, ?_⟩
  subst e
  -- known or pool
  have orE : Wp cs (HC (n + 2)) [some (.ref 0), some (.lst []), some (.lst xs), none] (.oo (.v 1) (.v 2)) fun v => v = .lst xs := wp_pure (hC _) (e_ooF (x := .lst []) (e_v rfl) rfl (e_v rfl)) rfl
  refine ws_as (t := .nm 3) orE fun v e => ⟨[some (.ref 0), some (.lst []), some (.lst xs), some v], rfl, ?_⟩
  subst e
  refine ws_rt (of_e rfl (disp_e (k := 4) ?_ (by decide) (by decide)))
  have one : ∀ i : Nat, ([some (.ref 0), some (.lst []), some (.lst xs), some (.lst xs)] : Loc)[i]? = some (some (.lst xs)) → Wp cs (HC (n + 2)) [some (.ref 0), some (.lst []), some (.lst xs), some (.lst xs)] (.cf 11 (.cons (.v 0) (.cons (.v i) .nil))) NmV := fun i hi => of_e rfl (wp_v hi ⟨xs, rfl, h1, h2, h3⟩)
  exact wps_all (one 3 rfl) (wps_all (one 3 rfl) (wps_all (one 3 rfl) (wps_all (one 2 rfl) wps_none)))
/-! ### names -/
def letters : List Nat := [97, 98, 99, 100, 101, 102, 103, 104, 105, 106, 107, 108, 109, 110, 111, 112, 113, 114, 115, 116, 117, 118, 119, 120, 121, 122]
def TlV (v : Va) : Prop := ∃ s, v = .str s ∧ s.length ≤ 7 ∧ ∀ c ∈ s, 97 ≤ c ∧ c ≤ 122
structure Bld (cs : List Int) (h0 : Hp) (k : Nat) (h : Hp) : Prop where
  good : Good cs h
  len : h0.length < h.length
  same : ∀ j, 1 ≤ j → j < h0.length → h[j]? = h0[j]?
  cell : ∃ acc, h[h0.length]? = some (.lst acc) ∧ All NmV acc ∧ acc.length = k
theorem Bld.junk {h0 h : Hp} {k : Nat} (b : Bld cs h0 k h) (m : Nat) : Bld cs h0 k (jk h m) := by
  have f := Fr.junk b.good m
  obtain ⟨acc, e, r⟩ := b.cell
  have p := b.len
  exact ⟨f.good, Nat.lt_of_lt_of_le b.len f.len, fun j h1 h2 => (f.same j h1 (by omega)).trans (b.same j h1 h2), acc, (by unfold jk; rw [List.getElem?_append_left p]; exact e), r⟩
theorem Bld.push {h0 h : Hp} {k : Nat} {acc : List Va} {v : Va} (b : Bld cs h0 k h) (e : h[h0.length]? = some (.lst acc)) (g0 : 0 < h0.length) (p : NmV v) : Bld cs h0 (k + 1) (h.set h0.length (.lst (acc ++ [v]))) := by
  obtain ⟨acc', e', a, l⟩ := b.cell
  rw [e] at e'
  cases e'
  refine ⟨?_, by simp [b.len], fun j h1 h2 => by rw [List.getElem?_set_ne (by omega)]; exact b.same j h1 h2, acc ++ [v], by rw [List.getElem?_set_self b.len], fun u hu => ?_, by simp [l]⟩
  · obtain ⟨i, x, y, z, eb, r⟩ := b.good
    exact ⟨i, x, y, z, by rw [List.getElem?_set_ne (by omega)]; exact eb, r⟩
  · rcases List.mem_append.mp hu with hu | hu
    · exact a u hu
    · rw [List.mem_singleton.mp hu]; exact p
theorem apd_ok {n : Nat} {ρ : Loc} {h0 h : Hp} {k i : Nat} {e : Ex} {v : Va} (b : Bld cs h0 k h) (g0 : 0 < h0.length) (hk : k < 1000) (hr : ρ[i]? = some (some (.ref h0.length))) (he : pev (PC n) ρ e = some v) (p : NmV v) : ∃ h', ex (HC n) (.apd (.v i) e) ρ h = .ok (.nx, ρ) h' ∧ Bld cs h0 (k + 1) h' := by
  obtain ⟨m, em⟩ := pev_say (hC n) e he h
  have b1 := b.junk m
  obtain ⟨acc, ea, a, l⟩ := b.cell
  obtain ⟨acc1, ea1, a1, l1⟩ := b1.cell
  refine ⟨_, ?_, b1.push ea1 g0 p⟩
  have hz : Nat.blt acc1.length lim = true := Nat.ble_eq_true_of_le (by rw [lim_eq]; omega)
  have hc : isCell h (.ref h0.length) = true := by simp only [isCell, ea]
  simp only [ex, ev, hr, Out.bind, hc, ↓reduceIte, em, ea1, hz]
theorem forg_nx {tg : Va → Loc → Option Loc} {B : Loc → Hp → Out (Fl × Loc)} {x : Va} {xs : List Va} {ρ ρ1 ρ2 : Loc} {h h2 : Hp} (e1 : tg x ρ = some ρ1) (e2 : B ρ1 h = .ok (.nx, ρ2) h2) : forg tg B (x :: xs) ρ h = forg tg B xs ρ2 h2 := by
  simp only [forg, e1, e2, Out.bind]
theorem letter_at {r : Int} (h0 : 0 ≤ r) (h1 : r < 26) : ∃ c, itm (.str letters) (.int r) = some (.str [c]) ∧ 97 ≤ c ∧ c ≤ 122 := by
  have all : ∀ k : Fin 26, (match itm (.str letters) (.int (k : Nat)) with | some (.str [c]) => c == 97 + k.val | _ => false) = true := by decide
  have hr : r.toNat < 26 := by omega
  have e := all ⟨r.toNat, hr⟩
  rw [show ((⟨r.toNat, hr⟩ : Fin 26) : Nat) = r.toNat from rfl, Int.toNat_of_nonneg h0] at e
  split at e
  · rename_i c ec
    simp only [beq_iff_eq] at e
    exact ⟨c, ec, by omega, by omega⟩
  · cases e
theorem names_turn {n : Nat} {h0 h : Hp} {k : Nat} {st sp pk : Int} {tl : List Nat} {x9 : Option Va} (b : Bld cs h0 k h) (g0 : 0 < h0.length) (hk : k < 4) (hp : 0 ≤ pk ∧ pk < 3) (ht : tl.length ≤ 7 ∧ ∀ c ∈ tl, 97 ≤ c ∧ c ≤ 122) (hsp : sml sp = true) :
    ∃ (ρ' : Option Va) (h' : Hp), exs (HC n) (.cons (.as (.nm 9) (.ix (.v 2) (.op .mod (.op .add (.v 3) (.op .mul (.v 4) (.v 8))) (.k (.int 26))))) (.cons (.apd (.v 7) (.ix (.li (.cons (.op .add (.v 9) (.v 5)) (.cons (.op .add (.v 5) (.v 9)) (.cons (.op .add (.v 9) (.op .mul (.v 5) (.op .mod (.v 8) (.k (.int 2))))) .nil)))) (.v 6))) .nil)) [some (.ref 0), some (.int 4), some (.str letters), some (.int st), some (.int sp), some (.str tl), some (.int pk), some (.ref h0.length), some (.int k), x9] h = .ok (.nx, [some (.ref 0), some (.int 4), some (.str letters), some (.int st), some (.int sp), some (.str tl), some (.int pk), some (.ref h0.length), some (.int k), ρ']) h' ∧ Bld cs h0 (k + 1) h' := by
  obtain ⟨c, ec, c1, c2⟩ := letter_at (mod_lt (a := st + sp * k) (b := 26) (by decide)).1 (mod_lt (by decide)).2
  have sgn : pev (PC n) [some (.ref 0), some (.int 4), some (.str letters), some (.int st), some (.int sp), some (.str tl), some (.int pk), some (.ref h0.length), some (.int k), x9] (.ix (.v 2) (.op .mod (.op .add (.v 3) (.op .mul (.v 4) (.v 8))) (.k (.int 26)))) = some (.str [c]) := by
    refine e_ix (x := .str letters) (y := .int ((st + sp * k) % 26)) (e_v rfl) (e_op (x := .int (st + sp * k)) (y := .int 26) (e_op (x := .int st) (y := .int (sp * k)) (e_v rfl) (e_op (x := .int sp) (y := .int k) (e_v rfl) (e_v rfl) ?_) rfl) e_k (opI_mod (by decide))) ec
    simp only [opv, hsp, Bool.true_or, ↓reduceIte]
  obtain ⟨m, em⟩ := pev_say (hC n) _ sgn h
  have b1 := b.junk m
  let ρ9 : Loc := [some (.ref 0), some (.int 4), some (.str letters), some (.int st), some (.int sp), some (.str tl), some (.int pk), some (.ref h0.length), some (.int k), some (.str [c])]
  have hm : (k : Int) % 2 = 0 ∨ (k : Int) % 2 = 1 := by omega
  obtain ⟨t2, et2, ht2⟩ : ∃ t2 : List Nat, opv .mul (.str tl) (.int ((k : Int) % 2)) = some (.str t2) ∧ t2.length ≤ 7 ∧ ∀ c ∈ t2, 97 ≤ c ∧ c ≤ 122 := by
    have hb : Nat.ble tl.length 1000 = true := Nat.ble_eq_true_of_le (by omega)
    rcases hm with e | e <;> rw [e]
    · exact ⟨[], by simp [opv, hb], by simp⟩
    · exact ⟨tl, by simp [opv, hb], ht⟩
  have add2 : ∀ {a b : List Nat}, a.length ≤ 7 → b.length ≤ 7 → opv .add (.str a) (.str b) = some (.str (a ++ b)) := fun ha hb => add_str (by rw [lim_eq]; omega)
  have lst : pev (PC n) ρ9 (.li (.cons (.op .add (.v 9) (.v 5)) (.cons (.op .add (.v 5) (.v 9)) (.cons (.op .add (.v 9) (.op .mul (.v 5) (.op .mod (.v 8) (.k (.int 2))))) .nil)))) = some (.lst [.str ([c] ++ tl), .str (tl ++ [c]), .str ([c] ++ t2)]) := by
    refine e_li (es_cons (e_op (x := .str [c]) (y := .str tl) (e_v rfl) (e_v rfl) (add2 (by simp) ht.1)) (es_two (e_op (x := .str tl) (y := .str [c]) (e_v rfl) (e_v rfl) (add2 ht.1 (by simp))) (e_op (x := .str [c]) (y := .str t2) (e_v rfl) (e_op (x := .str tl) (y := .int ((k : Int) % 2)) (e_v rfl) (e_op (x := .int k) (y := .int 2) (e_v rfl) e_k (opI_mod (by decide))) et2) (add2 (by simp) ht2.1)))) (by show 3 ≤ lim; rw [lim_eq]; omega)
  obtain ⟨v, ev, hv⟩ := itm_in (xs := [.str ([c] ++ tl), .str (tl ++ [c]), .str ([c] ++ t2)]) hp.1 (by show pk < 3; exact hp.2)
  have pv : NmV v := by
    simp only [List.mem_cons, List.not_mem_nil, or_false] at hv
    have ok : ∀ s : List Nat, s.length ≤ 7 → (∀ c ∈ s, 97 ≤ c ∧ c ≤ 122) → NmV (.str ([c] ++ s)) := fun s h1 h2 => ⟨_, rfl, by simp, by simp; omega, fun d hd => by
      simp only [List.cons_append, List.nil_append, List.mem_cons] at hd
      rcases hd with rfl | hd
      · exact ⟨c1, c2⟩
      · exact h2 d hd⟩
    rcases hv with rfl | rfl | rfl
    · exact ok tl ht.1 ht.2
    · refine ⟨_, rfl, by simp, by simp; omega, fun d hd => ?_⟩
      rcases List.mem_append.mp hd with hd | hd
      · exact ht.2 d hd
      · rw [List.mem_singleton.mp hd]; exact ⟨c1, c2⟩
    · exact ok t2 ht2.1 ht2.2
  obtain ⟨h', ea, b2⟩ := apd_ok (n := n) (ρ := ρ9) (i := 7) b1 g0 (by omega) rfl (e_ix (x := .lst [.str ([c] ++ tl), .str (tl ++ [c]), .str ([c] ++ t2)]) (y := .int pk) (b := .v 6) lst (e_v rfl) ev) pv
  exact ⟨_, h', by rw [xs_nx (x_as (ρ' := ρ9) em rfl), xs_nx ea, xs_nil], b2⟩
theorem names_w {n : Nat} : Wf cs (HC (n + 3)) 12 [.ref 0, .int 4] fun v => ∃ xs, v = .lst xs ∧ xs.length = 4 ∧ All NmV xs := by
  refine wf_of (F := f__law_names) rfl rfl ?_
  refine ws_as (P := fun v => v = .str letters) (t := .nm 2) (wp_k rfl) fun v e => ⟨[some (.ref 0), some (.int 4), some v, none, none, none, none, none, none, none], rfl, ?_⟩
  subst e
  have nums : Wp cs (HC (n + 2)) [some (.ref 0), some (.int 4), some (.str letters), none, none, none, none, none, none, none] (.cf 11 (.cons (.v 0) (.cons (.li (.cons (.k (.int 1)) (.cons (.k (.int 3)) (.cons (.k (.int 5)) (.cons (.k (.int 7)) (.cons (.k (.int 9)) (.cons (.k (.int 11)) .nil))))))) .nil))) fun v => ∃ s, v = .int s ∧ sml s = true :=
    of_e rfl (disp_e (k := 6) (by
      iterate 6 refine wps_all (wp_k ⟨_, rfl, by decide⟩) ?_
      exact wps_none) (by decide) (by decide))
  refine ws_par (by decide) (by decide) (draw_e rfl (by decide) (by decide)) nums fun x y ⟨st, ex, _⟩ ⟨sp, ey, hsp⟩ => ?_
  subst ex ey
  have tails : Wp cs (HC (n + 2)) [some (.ref 0), some (.int 4), some (.str letters), some (.int st), some (.int sp), none, none, none, none, none] (.cf 11 (.cons (.v 0) (.cons (.li (.cons (.k (.str [])) (.cons (.k (.str [113])) (.cons (.k (.str [122, 122])) (.cons (.k (.str [108, 97, 109, 112])) (.cons (.k (.str [97, 110, 100, 108, 97, 109, 112])) .nil)))))) .nil))) TlV :=
    of_e rfl (disp_e (k := 5) (by
      iterate 5 refine wps_all (wp_k ⟨_, rfl, by decide, by decide⟩) ?_
      exact wps_none) (by decide) (by decide))
  refine ws_par (by show 5 < 10; decide) (by show 6 < 10; decide) tails (draw_e rfl (by decide) (by decide)) fun x y ⟨tl, ex, ht⟩ ⟨pk, ey, hp1, hp2⟩ => ?_
  subst ex ey
  intro h g
  have gp := g.pos
  have b0 : Bld cs h 0 (h ++ [.lst []]) := by
    refine ⟨?_, by simp, fun j _ hj => by rw [List.getElem?_append_left hj], [], by simp, all_nil, rfl⟩
    obtain ⟨i, x', y', z, eb, r⟩ := g
    exact ⟨i, x', y', z, by rw [List.getElem?_append_left gp]; exact eb, r⟩
  obtain ⟨s0, h1, e1, b1⟩ := names_turn (n := n + 2) (k := 0) (st := st) (sp := sp) (pk := pk) (tl := tl) (x9 := none) b0 gp (by decide) ⟨hp1, hp2⟩ ht hsp
  obtain ⟨s1, h2, e2, b2⟩ := names_turn (n := n + 2) (k := 1) (st := st) (sp := sp) (pk := pk) (tl := tl) (x9 := s0) b1 gp (by decide) ⟨hp1, hp2⟩ ht hsp
  obtain ⟨s2, h3, e3, b3⟩ := names_turn (n := n + 2) (k := 2) (st := st) (sp := sp) (pk := pk) (tl := tl) (x9 := s1) b2 gp (by decide) ⟨hp1, hp2⟩ ht hsp
  obtain ⟨s3, h4, e4, b4⟩ := names_turn (n := n + 2) (k := 3) (st := st) (sp := sp) (pk := pk) (tl := tl) (x9 := s2) b3 gp (by decide) ⟨hp1, hp2⟩ ht hsp
  obtain ⟨acc, ea, aa, la⟩ := b4.cell
  have g5 : Good cs (h4.set h.length .gone) := by
    obtain ⟨i, x', y', z, eb, r⟩ := b4.good
    exact ⟨i, x', y', z, by rw [List.getElem?_set_ne (by omega)]; exact eb, r⟩
  refine ⟨.lst acc, [some (.ref 0), some (.int 4), some (.str letters), some (.int st), some (.int sp), some (.str tl), some (.int pk), some (.ref h.length), some (.int 3), s3], h4.set h.length .gone, ?_, ⟨by simp only [List.length_set]; exact Nat.le_of_lt b4.len, fun j h1' h2' => by rw [List.getElem?_set_ne (by omega)]; exact b4.same j h1' h2', g5⟩, acc, rfl, la, aa⟩
  have a1 : ex (HC (n + 2)) (.as (.nm 7) (.lc1 .nil)) [some (.ref 0), some (.int 4), some (.str letters), some (.int st), some (.int sp), some (.str tl), some (.int pk), none, none, none] h = .ok (.nx, [some (.ref 0), some (.int 4), some (.str letters), some (.int st), some (.int sp), some (.str tl), some (.int pk), some (.ref h.length), none, none]) (h ++ [.lst []]) := by
    refine x_as (x := .ref h.length) ?_ rfl
    simp only [ev, evs, Out.bind]
    rfl
  show exs (HC (n + 2)) (.cons (.as (.nm 7) (.lc1 .nil)) _) [some (.ref 0), some (.int 4), some (.str letters), some (.int st), some (.int sp), some (.str tl), some (.int pk), none, none, none] h = _
  rw [xs_nx a1]
  have lp : ex (HC (n + 2)) (.fo (.nm 8) .rng1 (.cons (.v 1) .nil) (.cons (.as (.nm 9) (.ix (.v 2) (.op .mod (.op .add (.v 3) (.op .mul (.v 4) (.v 8))) (.k (.int 26))))) (.cons (.apd (.v 7) (.ix (.li (.cons (.op .add (.v 9) (.v 5)) (.cons (.op .add (.v 5) (.v 9)) (.cons (.op .add (.v 9) (.op .mul (.v 5) (.op .mod (.v 8) (.k (.int 2))))) .nil)))) (.v 6))) .nil))) [some (.ref 0), some (.int 4), some (.str letters), some (.int st), some (.int sp), some (.str tl), some (.int pk), some (.ref h.length), none, none] (h ++ [.lst []]) = .ok (.nx, [some (.ref 0), some (.int 4), some (.str letters), some (.int st), some (.int sp), some (.str tl), some (.int pk), some (.ref h.length), some (.int 3), s3]) h4 := by
    simp only [ex, evs, ev, Out.bind, List.getElem?_cons_succ, List.getElem?_cons_zero]
    rw [show wkL .rng1 [.int 4] = some [.int 0, .int 1, .int 2, .int 3] from rfl]
    dsimp only
    rw [forg_nx rfl e1, forg_nx rfl e2, forg_nx rfl e3, forg_nx rfl e4]
    rfl
  rw [xs_nx lp]
  refine xs_rt ?_
  simp only [ex, ev, List.getElem?_cons_succ, List.getElem?_cons_zero, Out.bind, frz, ea]
end K67

namespace K67
open Mp
variable {cs : List Int}
def mV : Va := .dic [(.str [104, 111, 117, 115, 101]), (.str [112, 111, 115, 116, 115]), (.str [108, 97, 109, 112, 115]), (.str [109, 101, 101, 116]), (.str [114, 101, 108, 105, 101, 102]), (.str [119, 97, 116, 99, 104, 101, 115]), (.str [100, 101, 101, 100, 115])] [.tup [.lst [], .lst [], .lst []], .lst [], .lst [], .bl false, .int 0, .lst [], .lst []]
def AskV (v : Va) : Prop := ∃ w fs, v = .tup (.str w :: fs.map fv) ∧ AskOk w fs
def nmC (s : List Nat) : Bool := Nat.ble 1 s.length && Nat.ble s.length 8 && s.all (fun c => Nat.ble 97 c && Nat.ble c 122)
theorem nm_dec {s : List Nat} (h : nmC s = true) : NameOk s := by
  unfold nmC at h
  simp only [Bool.and_eq_true, List.all_eq_true] at h
  exact ⟨Nat.le_of_ble_eq_true h.1.1, Nat.le_of_ble_eq_true h.1.2, fun c hc => ⟨Nat.le_of_ble_eq_true (h.2 c hc).1, Nat.le_of_ble_eq_true (h.2 c hc).2⟩⟩
theorem ask_mk {w : List Nat} {fs : List Fd} (hw : nmC w = true) (hs : ∀ f ∈ fs, Sim f) (hn : fs.length ≤ 3) (l r : List (List Nat)) (h1 : itm c_SHAPES (.str w) = some (.tup (l.map .str))) (h2 : l.filter (fun s => decide (s.length = fs.length)) = fs.map kc :: r) (h3 : l.length ≤ 5) (h4 : ∀ s ∈ l, s.length ≤ 5) : AskV (.tup (.str w :: fs.map fv)) :=
  ⟨w, fs, rfl, hs, hn, nm_dec hw, l, r, h1, h2, h3, h4⟩
theorem sim1 {f : Fd} (h : Sim f) : ∀ g ∈ [f], Sim g := fun g hg => by rw [List.mem_singleton.mp hg]; exact h
theorem sim2 {f f2 : Fd} (h : Sim f) (h2 : Sim f2) : ∀ g ∈ [f, f2], Sim g := fun g hg => by
  simp only [List.mem_cons, List.not_mem_nil, or_false] at hg
  rcases hg with rfl | rfl
  · exact h
  · exact h2
theorem sim3 {f f2 f3 : Fd} (h : Sim f) (h2 : Sim f2) (h3 : Sim f3) : ∀ g ∈ [f, f2, f3], Sim g := fun g hg => by
  simp only [List.mem_cons, List.not_mem_nil, or_false] at hg
  rcases hg with rfl | rfl | rfl
  · exact h
  · exact h2
  · exact h3
theorem name_e {n : Nat} {ρ : Loc} {i : Nat} (hr : ρ[0]? = some (some (.ref 0))) (hi : ρ[i]? = some (some (.lst []))) : Wp cs (HC (n + 3)) ρ (.cf 13 (.cons (.v 0) (.cons (.v i) .nil))) NmV :=
  wp_cf (two_args (P := fun v => v = .lst []) (R := fun ys => ys = [.ref 0, .lst []]) hr (wp_v hi rfl) fun x e => by rw [e]) fun xs e => by subst e; exact name_of_w
theorem add_wp {C : Call} {ρ : Loc} {a b : Ex} {P : Va → Prop} {k : Nat} (hk : k ≤ 500) (ha : Wp cs C ρ a fun v => ∃ xs, v = .lst xs ∧ xs ≠ [] ∧ xs.length ≤ k ∧ All P xs) (hb : Wp cs C ρ b fun v => ∃ xs, v = .lst xs ∧ xs ≠ [] ∧ xs.length ≤ 100 ∧ All P xs) : Wp cs C ρ (.op .add a b) fun v => ∃ xs, v = .lst xs ∧ xs ≠ [] ∧ xs.length ≤ k + 100 ∧ All P xs :=
  wp_op ha hb fun x y ⟨xs, ex, n1, l1, a1⟩ ⟨ys, ey, n2, l2, a2⟩ => by
    subst ex ey
    refine ⟨rfl, rfl, .lst (xs ++ ys), add_lst (by rw [lim_eq]; omega), xs ++ ys, rfl, by simp [n1], by simp; omega, fun u hu => ?_⟩
    rcases List.mem_append.mp hu with hu | hu
    · exact a1 u hu
    · exact a2 u hu
theorem disp_k {C : Call} {ρ : Loc} {es : Exs} {k : Nat} {P : Va → Prop} (h : Wps cs C ρ es fun xs => All P xs ∧ xs.length = k) (h0 : 0 < k) (hk : k ≤ 100) : Wp cs C ρ (.li es) fun v => ∃ xs, v = .lst xs ∧ xs ≠ [] ∧ xs.length ≤ 100 ∧ All P xs :=
  wp_li h fun xs ⟨a, l⟩ => ⟨by rw [lim_eq]; omega, xs, rfl, by intro e; subst e; simp at l; omega, by omega, a⟩
theorem asking_w {n : Nat} : Wf cs (HC (n + 4)) 14 [.ref 0, mV] AskV := by
  refine wf_of (F := f__law_asking) rfl rfl ?_
  refine ws_par (P := fun v => v = .lst []) (Q := fun v => v = .lst []) (by decide) (by decide) (wp_pure (hC _) rfl rfl) (wp_pure (hC _) rfl rfl) fun x y ex ey => ?_
  subst ex ey
  refine ws_par3 (S := fun v => ∃ i, v = .int i ∧ Small i) (by show 4 < 11; decide) (by show 5 < 11; decide) (by show 6 < 11; decide) (name_e (n := n) rfl rfl) (name_e (n := n) rfl rfl) (wp_op (Q := fun v => v = .int 20) (draw_e (many := 40) rfl (by decide) (by decide)) (wp_k rfl) fun x y ⟨r, ex, h0, h1⟩ ey => by
    subst ex ey
    exact ⟨rfl, rfl, _, rfl, r - 20, rfl, by constructor <;> omega⟩) fun x y z ⟨on, ex, hon⟩ ⟨ot, ey, hot⟩ ⟨bt, ez, hbt⟩ => ?_
  subst ex ey ez
  refine ws_par (by show 7 < 11; decide) (by show 8 < 11; decide) (name_e (n := n) rfl rfl) (name_e (n := n) rfl rfl) fun x y ⟨p, ex, hp⟩ ⟨q, ey, hq⟩ => ?_
  subst ex ey
  have l1 : Wp cs (HC (n + 3)) [some (.ref 0), some mV, some (.lst []), some (.lst []), some (.str on), some (.str ot), some (.int bt), some (.str p), some (.str q), none, none] (.li (.cons (.tu (.cons (.k (.str [119, 104, 101, 114, 101])) (.cons (.v 7) (.cons (.v 6) .nil)))) (.cons (.tu (.cons (.k (.str [119, 104, 111])) (.cons (.v 7) (.cons (.v 6) .nil)))) (.cons (.tu (.cons (.k (.str [108, 105, 116])) (.cons (.v 6) .nil))) (.cons (.tu (.cons (.k (.str [119, 104, 101, 101, 108])) .nil)) (.cons (.tu (.cons (.k (.str [109, 101, 101, 116, 115])) (.cons (.v 7) (.cons (.v 8) .nil)))) (.cons (.tu (.cons (.k (.str [119, 97, 121])) (.cons (.v 4) (.cons (.v 5) .nil)))) .nil))))))) fun v => ∃ xs, v = .lst xs ∧ xs ≠ [] ∧ xs.length ≤ 100 ∧ All AskV xs :=
    disp_k (k := 6) (wps_all (wp_pure (hC _) rfl (ask_mk (fs := [.nm p, .num bt]) rfl (sim2 hp hbt) (Nat.le_of_ble_eq_true rfl) [[110, 98]] [] rfl rfl (by decide) (by decide)))
      (wps_all (wp_pure (hC _) rfl (ask_mk (fs := [.nm p, .num bt]) rfl (sim2 hp hbt) (Nat.le_of_ble_eq_true rfl) [[110, 98]] [] rfl rfl (by decide) (by decide)))
      (wps_all (wp_pure (hC _) rfl (ask_mk (fs := [.num bt]) rfl (sim1 hbt) (Nat.le_of_ble_eq_true rfl) [[98]] [] rfl rfl (by decide) (by decide)))
      (wps_all (wp_pure (hC _) rfl (ask_mk (fs := []) rfl (fun _ h => by cases h) (Nat.le_of_ble_eq_true rfl) [[]] [] rfl rfl (by decide) (by decide)))
      (wps_all (wp_pure (hC _) rfl (ask_mk (fs := [.nm p, .nm q]) rfl (sim2 hp hq) (Nat.le_of_ble_eq_true rfl) [[110, 110]] [] rfl rfl (by decide) (by decide)))
      (wps_all (wp_pure (hC _) rfl (ask_mk (fs := [.nm on, .nm ot]) rfl (sim2 hon hot) (Nat.le_of_ble_eq_true rfl) [[110, 110], [110, 110, 98]] [] rfl rfl (by decide) (by decide))) wps_none)))))) (by decide) (by decide)
  refine ws_as (t := .nm 9) l1 fun v hv => ⟨[some (.ref 0), some mV, some (.lst []), some (.lst []), some (.str on), some (.str ot), some (.int bt), some (.str p), some (.str q), some v, none], rfl, ?_⟩
  refine ws_as (t := .nm 9) (add_wp (k := 100) (by decide) (wp_v rfl hv) (disp_k (k := 2) (wps_all (wp_pure (hC _) rfl (ask_mk (fs := [.nm on, .nm ot, .num bt]) rfl (sim3 hon hot hbt) (Nat.le_of_ble_eq_true rfl) [[110, 110], [110, 110, 98]] [] rfl rfl (by decide) (by decide)))
      (wps_all (wp_pure (hC _) rfl (ask_mk (fs := [.nm on, .num bt]) rfl (sim2 hon hbt) (Nat.le_of_ble_eq_true rfl) [[110, 98]] [] rfl rfl (by decide) (by decide))) wps_none)) (by decide) (by decide))) fun v ⟨xs, e, h1, h2, h3⟩ => ⟨[some (.ref 0), some mV, some (.lst []), some (.lst []), some (.str on), some (.str ot), some (.int bt), some (.str p), some (.str q), some v, none], rfl, ?_⟩
  exact ws_rt (of_e (n := n + 1) rfl (wp_v rfl ⟨xs, e, h1, by omega, h3⟩))
/-! ### every deed -/
def SmV (v : Va) : Prop := ∃ i, v = .int i ∧ Small i
def WkV (v : Va) : Prop := ∃ ss : List (List Nat), v = .tup (ss.map .str) ∧ ss.length ≤ 8 ∧ ∀ s ∈ ss, NameOk s
def DeedV (v : Va) : Prop := ∃ w fs, v = .tup (.str w :: fs.map fv) ∧ DeedOk w fs ∧ Kind w fs
theorem nms_list : ∀ {ys : List Va}, All NmV ys → ∃ ss : List (List Nat), ys = ss.map .str ∧ (∀ s ∈ ss, NameOk s)
  | [], _ => ⟨[], rfl, fun _ h => by cases h⟩
  | y :: ys, h => by
    obtain ⟨s, e, p⟩ := h y (by simp)
    obtain ⟨ss, e2, p2⟩ := nms_list (ys := ys) fun u hu => h u (by simp [hu])
    refine ⟨s :: ss, by simp [e, e2], fun t ht => ?_⟩
    rcases List.mem_cons.mp ht with rfl | ht
    · exact p
    · exact p2 t ht
theorem sim_deed {w : List Nat} {fs : List Fd} (hw : nmC w = true) (hs : ∀ f ∈ fs, Sim f) (hn : fs.length ≤ 3) (hne : fs ≠ []) (hk : itm c_FORMS (.str w) = some (.str (fs.map kc))) (n1 : w ≠ [112, 111, 115, 116]) (n2 : w ≠ [114, 117, 108, 101]) (n3 : w ≠ [119, 97, 116, 99, 104]) : DeedV (.tup (.str w :: fs.map fv)) :=
  ⟨w, fs, rfl, ⟨nm_dec hw, hk, fun f hf => by have := hs f hf; cases f <;> first | exact this | exact this.elim, hn, hne, .inl fun f hf => by have := hs f hf; cases f <;> first | trivial | exact this.elim⟩, .sim hs n1 n2 n3⟩
theorem every_w {n : Nat} : Wf cs (HC (n + 5)) 20 [.ref 0, mV] fun v => ∃ xs, v = .lst xs ∧ xs.length ≤ 1000 ∧ All DeedV xs := by
  refine wf_of (F := f__law_every_deed) rfl rfl ?_
  have st : start 9 [.ref 0, mV] = [some (.ref 0), some mV, none, none, none, none, none, none, none] := rfl
  show Wst cs (HC (n + 4)) (start 9 [.ref 0, mV]) _ _
  rw [st]
  -- the names
  have nms : Wp cs (HC (n + 4)) [some (.ref 0), some mV, none, none, none, none, none, none, none] (.op .add (.cf 12 (.cons (.v 0) (.cons (.k (.int 4)) .nil))) (.li (.cons (.k (.str [97, 98, 99, 100, 101, 102, 103, 104])) .nil))) fun v => ∃ xs, v = .lst xs ∧ xs ≠ [] ∧ xs.length ≤ 1000 ∧ All NmV xs :=
    wp_op (P := fun v => ∃ xs, v = .lst xs ∧ xs.length = 4 ∧ All NmV xs) (wp_cf (two_args (P := fun v => v = .int 4) (R := fun ys => ys = [.ref 0, .int 4]) rfl (wp_k rfl) fun x e => by rw [e]) fun ys e => by subst e; exact names_w (n := n + 1)) (disp_k (k := 1) (wps_all (wp_k (nm_of (s := [97, 98, 99, 100, 101, 102, 103, 104]) (by decide) (by decide) (by decide))) wps_none) (by decide) (by decide)) fun x y ⟨xs, ex, l1, a1⟩ ⟨ys, ey, n2, l2, a2⟩ => by
      subst ex ey
      refine ⟨rfl, rfl, .lst (xs ++ ys), add_lst (by rw [lim_eq]; omega), xs ++ ys, rfl, by simp [n2], by simp; omega, fun u hu => ?_⟩
      rcases List.mem_append.mp hu with hu | hu
      · exact a1 u hu
      · exact a2 u hu
  refine ws_as (t := .nm 2) nms fun v hv => ⟨[some (.ref 0), some mV, some v, none, none, none, none, none, none], rfl, ?_⟩
  refine ws_par (by show 3 < 9; decide) (by show 4 < 9; decide) (of_e (n := n + 2) rfl (wp_v rfl hv)) (of_e (n := n + 2) rfl (wp_v rfl hv)) fun x y ⟨a, ex, ha⟩ ⟨b, ey, hb⟩ => ?_
  subst ex ey
  -- a number
  have far : Wp cs (HC (n + 4)) [some (.ref 0), some mV, some v, some (.str a), some (.str b), none, none, none, none] (.cf 11 (.cons (.v 0) (.cons (.li (.cons (.k (.int 0)) (.cons (.k (.int 7)) (.cons (.ng (.k (.int 3))) (.cons (.cf 10 (.cons (.v 0) (.cons (.op .pow (.k (.int 10)) (.k (.int 10))) .nil))) (.cons (.op .sub (.ng (.k (.int 1))) (.cf 10 (.cons (.v 0) (.cons (.op .pow (.k (.int 10)) (.k (.int 9))) .nil)))) .nil)))))) .nil))) SmV := by
    have dr : ∀ (m : Nat) (many : Int), opv .pow (.int 10) (.int m) = some (.int many) → 0 < many → many < 2 ^ 64 → Wp cs (HC (n + 4)) [some (.ref 0), some mV, some v, some (.str a), some (.str b), none, none, none, none] (.cf 10 (.cons (.v 0) (.cons (.op .pow (.k (.int 10)) (.k (.int m))) .nil))) fun u => ∃ r, u = .int r ∧ 0 ≤ r ∧ r < many := fun m many e h1 h2 =>
      wp_cf (two_args (P := fun u => u = .int many) (R := fun ys => ys = [.ref 0, .int many]) rfl (wp_op (P := fun u => u = .int 10) (Q := fun u => u = .int m) (wp_k rfl) (wp_k rfl) fun x y ex ey => by subst ex ey; exact ⟨rfl, rfl, _, e, rfl⟩) fun x e => by rw [e]) fun xs e => by subst e; exact draw_w (n := n + 3) h1 h2
    refine of_e (n := n + 2) rfl (disp_e (k := 5) ?_ (by decide) (by decide))
    refine wps_all (wp_k ⟨0, rfl, by constructor <;> decide⟩) (wps_all (wp_k ⟨7, rfl, by constructor <;> decide⟩) (wps_all (wp_pure (hC _) rfl ⟨-3, rfl, by constructor <;> decide⟩) (wps_all (wp_imp (dr 10 (10 ^ 10) rfl (by decide) (by decide)) fun u ⟨r, e, h0, h1⟩ => ⟨r, e, by constructor <;> omega⟩) (wps_all ?_ wps_none))))
    exact wp_op (P := fun u => u = .int (-1)) (wp_pure (hC _) rfl rfl) (dr 9 (10 ^ 9) rfl (by decide) (by decide)) fun x y ex ⟨r, ey, h0, h1⟩ => by
      subst ex ey
      exact ⟨rfl, rfl, _, rfl, -1 - r, rfl, by constructor <;> omega⟩
  refine ws_as (t := .nm 5) far fun u ⟨i, eu, hi⟩ => ⟨[some (.ref 0), some mV, some v, some (.str a), some (.str b), some u, none, none, none], rfl, ?_⟩
  subst eu
  -- a walk
  have walk : Wp cs (HC (n + 4)) [some (.ref 0), some mV, some v, some (.str a), some (.str b), some (.int i), none, none, none] (.cb .tupOf (.cons (.lc [8] (.cf 11 (.cons (.v 0) (.cons (.v 2) .nil))) (.nm 8) .rng1 (.cons (.cf 10 (.cons (.v 0) (.cons (.k (.int 8)) .nil))) .nil) .nil) .nil)) WkV := by
    refine wp_cb1 (P := fun u => ∃ ys, u = .lst ys ∧ ys.length ≤ 8 ∧ All NmV ys) (wp_lc (P := fun ys => ∃ r, ys = [.int r] ∧ 0 ≤ r ∧ r < 8) (Q := NmV) (wps_cons (Q := fun ys => ys = []) (draw_e (n := n + 3) rfl (by decide) (by decide)) (wps_nil rfl) fun x ys ⟨r, ex, h⟩ e => ⟨r, by rw [ex, e], h⟩) fun ys ⟨r, ey, h0, h1⟩ => ?_) fun u ⟨ys, eu, l, al⟩ => ?_
    · subst ey
      refine ⟨rngL r.toNat 0, ?_, ?_, fun x hx => ⟨[some (.ref 0), some mV, some v, some (.str a), some (.str b), some (.int i), none, none, some x], rfl, of_e (n := n + 2) rfl (wp_v rfl hv)⟩, fun zs az lz => ⟨zs, rfl, ?_, az⟩⟩
      · show (if decide (-(2 ^ 30) < r) && decide (r < 2 ^ 30) then some (rngL r.toNat 0) else none) = _
        rw [if_pos (by rw [Bool.and_eq_true, decide_eq_true_eq, decide_eq_true_eq]; constructor <;> omega)]
      · rw [rng_len, lim_eq]; omega
      · rw [lz, rng_len]; omega
    · subst eu
      obtain ⟨ss, es, ps⟩ := nms_list al
      exact ⟨rfl, .tup ys, rfl, ss, by rw [es], by rw [es, List.length_map] at l; exact l, ps⟩
  refine ws_as (t := .nm 6) walk fun u ⟨ss, eu, hz, hss⟩ => ⟨[some (.ref 0), some mV, some v, some (.str a), some (.str b), some (.int i), some u, none, none], rfl, ?_⟩
  subst eu
  have A : Sim (.nm a) := ha
  have B : Sim (.nm b) := hb
  have I : Sim (.num i) := hi
  have n0 : ∀ f : Fd, ([f] : List Fd) ≠ [] := fun f h => by cases h
  have l1 : Wp cs (HC (n + 4)) [some (.ref 0), some mV, some v, some (.str a), some (.str b), some (.int i), some (.tup (ss.map .str)), none, none] (.li (.cons (.tu (.cons (.k (.str [114, 111, 111, 109])) (.cons (.v 3) .nil))) (.cons (.tu (.cons (.k (.str [115, 116, 114, 105, 107, 101])) (.cons (.v 4) .nil))) (.cons (.tu (.cons (.k (.str [100, 111, 111, 114])) (.cons (.v 3) (.cons (.v 4) .nil)))) (.cons (.tu (.cons (.k (.str [119, 97, 108, 108])) (.cons (.v 4) (.cons (.v 3) .nil)))) (.cons (.tu (.cons (.k (.str [115, 105, 103, 104, 116])) (.cons (.v 3) (.cons (.v 3) .nil)))) (.cons (.tu (.cons (.k (.str [99, 117, 114, 116, 97, 105, 110])) (.cons (.v 3) (.cons (.v 4) .nil)))) .nil))))))) fun v => ∃ xs, v = .lst xs ∧ xs ≠ [] ∧ xs.length ≤ 100 ∧ All DeedV xs :=
    disp_k (k := 6) (wps_all (wp_pure (hC _) rfl (sim_deed (fs := [.nm a]) rfl (sim1 A) (Nat.le_of_ble_eq_true rfl) (by simp) rfl (by decide) (by decide) (by decide)))
      (wps_all (wp_pure (hC _) rfl (sim_deed (fs := [.nm b]) rfl (sim1 B) (Nat.le_of_ble_eq_true rfl) (by simp) rfl (by decide) (by decide) (by decide)))
      (wps_all (wp_pure (hC _) rfl (sim_deed (fs := [.nm a, .nm b]) rfl (sim2 A B) (Nat.le_of_ble_eq_true rfl) (by simp) rfl (by decide) (by decide) (by decide)))
      (wps_all (wp_pure (hC _) rfl (sim_deed (fs := [.nm b, .nm a]) rfl (sim2 B A) (Nat.le_of_ble_eq_true rfl) (by simp) rfl (by decide) (by decide) (by decide)))
      (wps_all (wp_pure (hC _) rfl (sim_deed (fs := [.nm a, .nm a]) rfl (sim2 A A) (Nat.le_of_ble_eq_true rfl) (by simp) rfl (by decide) (by decide) (by decide)))
      (wps_all (wp_pure (hC _) rfl (sim_deed (fs := [.nm a, .nm b]) rfl (sim2 A B) (Nat.le_of_ble_eq_true rfl) (by simp) rfl (by decide) (by decide) (by decide))) wps_none)))))) (by decide) (by decide)
  refine ws_as (t := .nm 7) l1 fun u hu => ⟨[some (.ref 0), some mV, some v, some (.str a), some (.str b), some (.int i), some (.tup (ss.map .str)), some u, none], rfl, ?_⟩
  have post : DeedV (.tup (.str [112, 111, 115, 116] :: [Fd.nm a, .walk ss, .num i].map fv)) := ⟨_, _, rfl, ⟨nm_dec rfl, rfl, fun f hf => by
    simp only [List.mem_cons, List.not_mem_nil, or_false] at hf
    rcases hf with rfl | rfl | rfl
    · exact ha
    · exact ⟨hz, hss⟩
    · exact hi, Nat.le_of_ble_eq_true rfl, by simp, .inl fun f hf => by
    simp only [List.mem_cons, List.not_mem_nil, or_false] at hf
    rcases hf with rfl | rfl | rfl <;> trivial⟩, .post⟩
  have s2 := add_wp (k := 100) (by decide) (wp_v (cs := cs) (C := HC (n + 4)) (ρ := [some (.ref 0), some mV, some v, some (.str a), some (.str b), some (.int i), some (.tup (ss.map .str)), some u, none]) (i := 7) rfl hu) (disp_k (k := 5) (es := (.cons (.tu (.cons (.k (.str [112, 111, 115, 116])) (.cons (.v 3) (.cons (.v 6) (.cons (.v 5) .nil))))) (.cons (.tu (.cons (.k (.str [99, 97, 108, 108])) (.cons (.v 4) .nil))) (.cons (.tu (.cons (.k (.str [100, 101, 108, 97, 121])) (.cons (.v 3) (.cons (.v 5) .nil)))) (.cons (.tu (.cons (.k (.str [119, 97, 116, 99, 104, 101, 114])) (.cons (.v 4) (.cons (.v 5) .nil)))) (.cons (.tu (.cons (.k (.str [108, 101, 97, 118, 101])) (.cons (.v 3) .nil))) .nil))))))
    (wps_all (wp_pure (hC _) rfl post)
      (wps_all (wp_pure (hC _) rfl (sim_deed (fs := [.nm b]) rfl (sim1 B) (Nat.le_of_ble_eq_true rfl) (by simp) rfl (by decide) (by decide) (by decide)))
      (wps_all (wp_pure (hC _) rfl (sim_deed (fs := [.nm a, .num i]) rfl (sim2 A I) (Nat.le_of_ble_eq_true rfl) (by simp) rfl (by decide) (by decide) (by decide)))
      (wps_all (wp_pure (hC _) rfl (sim_deed (fs := [.nm b, .num i]) rfl (sim2 B I) (Nat.le_of_ble_eq_true rfl) (by simp) rfl (by decide) (by decide) (by decide)))
      (wps_all (wp_pure (hC _) rfl (sim_deed (fs := [.nm a]) rfl (sim1 A) (Nat.le_of_ble_eq_true rfl) (by simp) rfl (by decide) (by decide) (by decide))) wps_none))))) (by decide) (by decide))
  refine ws_as (t := .nm 7) s2 fun u2 ⟨xs2, e2, n2, z2, a2⟩ => ⟨[some (.ref 0), some mV, some v, some (.str a), some (.str b), some (.int i), some (.tup (ss.map .str)), some u2, none], rfl, ?_⟩
  have rule : Wp cs (HC (n + 4)) [some (.ref 0), some mV, some v, some (.str a), some (.str b), some (.int i), some (.tup (ss.map .str)), some u2, none] (.tu (.cons (.k (.str [114, 117, 108, 101])) (.cons (.op .eq (.cf 10 (.cons (.v 0) (.cons (.k (.int 2)) .nil))) (.k (.int 0))) (.cons (.v 5) .nil)))) DeedV := by
    refine wp_tu (P := fun xs => ∃ t, xs = [.str [114, 117, 108, 101], .bl t, .int i]) (wps_cons (P := fun x => x = .str [114, 117, 108, 101]) (Q := fun xs => ∃ t, xs = [.bl t, .int i]) (wp_k rfl) (wps_cons (P := fun x => ∃ t, x = .bl t) (Q := fun xs => xs = [.int i]) (wp_op (Q := fun x => x = .int 0) (draw_e (n := n + 3) rfl (by decide) (by decide)) (wp_k rfl) fun x y ⟨r, ex, _⟩ ey => by
      subst ex ey
      exact ⟨rfl, rfl, _, rfl, _, rfl⟩) (wps_cons (P := fun x => x = .int i) (Q := fun xs => xs = []) (wp_v rfl rfl) (wps_nil rfl) fun x xs ex e => by rw [ex, e]) fun x xs ⟨t, ex⟩ e => ⟨t, by rw [ex, e]⟩) fun x xs ex ⟨t, e⟩ => ⟨t, by rw [ex, e]⟩) fun xs ⟨t, e⟩ => ?_
    subst e
    refine ⟨by show 3 ≤ lim; rw [lim_eq]; omega, [114, 117, 108, 101], [.yes t, .num i], rfl, ⟨nm_dec rfl, rfl, fun f hf => ?_, Nat.le_of_ble_eq_true rfl, by simp, .inl fun f hf => ?_⟩, .rule⟩
    · simp only [List.mem_cons, List.not_mem_nil, or_false] at hf
      rcases hf with rfl | rfl
      · trivial
      · exact hi
    · simp only [List.mem_cons, List.not_mem_nil, or_false] at hf
      rcases hf with rfl | rfl <;> trivial
  have s3 := add_wp (k := 200) (P := DeedV) (by decide) (wp_v (cs := cs) (C := HC (n + 4)) (ρ := [some (.ref 0), some mV, some v, some (.str a), some (.str b), some (.int i), some (.tup (ss.map .str)), some u2, none]) (i := 7) rfl ⟨xs2, e2, n2, z2, a2⟩) (disp_k (k := 3) (es := (.cons (.tu (.cons (.k (.str [108, 97, 109, 112])) (.cons (.v 3) (.cons (.v 5) .nil)))) (.cons (.tu (.cons (.k (.str [114, 117, 108, 101])) (.cons (.op .eq (.cf 10 (.cons (.v 0) (.cons (.k (.int 2)) .nil))) (.k (.int 0))) (.cons (.v 5) .nil)))) (.cons (.tu (.cons (.k (.str [117, 110, 119, 97, 116, 99, 104])) (.cons (.v 4) .nil))) .nil))))
    (wps_all (wp_pure (hC _) rfl (sim_deed (fs := [.nm a, .num i]) rfl (sim2 A I) (Nat.le_of_ble_eq_true rfl) (by simp) rfl (by decide) (by decide) (by decide)))
      (wps_all rule
      (wps_all (wp_pure (hC _) rfl (sim_deed (fs := [.nm b]) rfl (sim1 B) (Nat.le_of_ble_eq_true rfl) (by simp) rfl (by decide) (by decide) (by decide))) wps_none))) (by decide) (by decide))
  refine ws_as (t := .nm 7) s3 fun u3 ⟨xs3, e3, n3, z3, a3⟩ => ⟨[some (.ref 0), some mV, some v, some (.str a), some (.str b), some (.int i), some (.tup (ss.map .str)), some u3, none], rfl, ?_⟩
  have watch : Wp cs (HC (n + 4)) [some (.ref 0), some mV, some v, some (.str a), some (.str b), some (.int i), some (.tup (ss.map .str)), some u3, none] (.tu (.cons (.k (.str [119, 97, 116, 99, 104])) (.cons (.v 4) (.cons (.cf 14 (.cons (.v 0) (.cons (.v 1) .nil))) .nil)))) DeedV := by
    refine wp_tu (P := fun xs => ∃ w fs, xs = [.str [119, 97, 116, 99, 104], .str b, .tup (.str w :: fs.map fv)] ∧ AskOk w fs) (wps_cons (P := fun x => x = .str [119, 97, 116, 99, 104]) (Q := fun xs => ∃ w fs, xs = [.str b, .tup (.str w :: fs.map fv)] ∧ AskOk w fs) (wp_k rfl) (wps_cons (P := fun x => x = .str b) (Q := fun xs => ∃ w fs, xs = [.tup (.str w :: fs.map fv)] ∧ AskOk w fs) (wp_v rfl rfl) (wps_cons (P := AskV) (Q := fun xs => xs = []) (wp_cf (two_args (P := fun x => x = mV) (R := fun ys => ys = [.ref 0, mV]) rfl (wp_v rfl rfl) fun x e => by rw [e]) fun ys e => by subst e; exact asking_w (n := n)) (wps_nil rfl) fun x xs ⟨w, fs, ex, o⟩ e => ⟨w, fs, by rw [ex, e], o⟩) fun x xs ex ⟨w, fs, e, o⟩ => ⟨w, fs, by rw [ex, e], o⟩) fun x xs ex ⟨w, fs, e, o⟩ => ⟨w, fs, by rw [ex, e], o⟩) fun xs ⟨w, fs, e, o⟩ => ?_
    subst e
    refine ⟨by show 3 ≤ lim; rw [lim_eq]; omega, [119, 97, 116, 99, 104], [.nm b, .ask w fs], by simp [fv, fvs_map], ⟨nm_dec rfl, rfl, fun f hf => ?_, Nat.le_of_ble_eq_true rfl, by simp, .inr ⟨b, w, fs, rfl⟩⟩, .watch⟩
    simp only [List.mem_cons, List.not_mem_nil, or_false] at hf
    rcases hf with rfl | rfl
    · exact hb
    · exact o
  refine ws_rt (wp_imp (add_wp (k := 300) (P := DeedV) (by decide) (wp_v rfl ⟨xs3, e3, n3, z3, a3⟩) (disp_k (k := 1) (wps_all watch wps_none) (by decide) (by decide))) fun u ⟨xs, e, _, z, al⟩ => ⟨xs, e, by omega, al⟩)
end K67

namespace K67
open Mp
variable {cs : List Int}
def Wn (cs : List Int) (C : Call) (ρ : Loc) (m : Sts) (I : Loc → Prop) : Prop := ∀ h, Good cs h → ∃ ρ' h', exs C m ρ h = .ok (.nx, ρ') h' ∧ Fr cs h h' ∧ I ρ'
def Wn1 (cs : List Int) (C : Call) (ρ : Loc) (m : St) (I : Loc → Prop) : Prop := ∀ h, Good cs h → ∃ ρ' h', ex C m ρ h = .ok (.nx, ρ') h' ∧ Fr cs h h' ∧ I ρ'
theorem wn_nil {C : Call} {ρ : Loc} {I : Loc → Prop} (i : I ρ) : Wn cs C ρ .nil I := fun h g => ⟨ρ, h, xs_nil, Fr.refl g, i⟩
theorem wn_cons {C : Call} {ρ : Loc} {I J : Loc → Prop} {s : St} {ss : Sts} (a : Wn1 cs C ρ s I) (b : ∀ ρ, I ρ → Wn cs C ρ ss J) : Wn cs C ρ (.cons s ss) J := fun h g => by
  obtain ⟨ρ1, h1, e1, f1, i1⟩ := a h g
  obtain ⟨ρ2, h2, e2, f2, i2⟩ := b ρ1 i1 h1 f1.good
  exact ⟨ρ2, h2, by rw [xs_nx e1]; exact e2, f1.trans f2, i2⟩
theorem wn_one {C : Call} {ρ : Loc} {I : Loc → Prop} {s : St} (a : Wn1 cs C ρ s I) : Wn cs C ρ (.cons s .nil) I := wn_cons a fun ρ i => wn_nil i
theorem wn_as {C : Call} {ρ : Loc} {I : Loc → Prop} {t : Tg} {e : Ex} {P : Va → Prop} (h : Wp cs C ρ e P) (i : ∀ x, P x → ∃ ρ', tgt t x ρ = some ρ' ∧ I ρ') : Wn1 cs C ρ (.as t e) I := fun s g => by
  obtain ⟨v, h', e1, f, p⟩ := h s g
  obtain ⟨ρ', et, ii⟩ := i v p
  exact ⟨ρ', h', x_as e1 et, f, ii⟩
theorem wn_fo {C : Call} {ρ : Loc} {I : Loc → Prop} {t : Tg} {w : Wk} {es : Exs} {b : Sts} {P : List Va → Prop} (hs : Wps cs C ρ es P) (h0 : I ρ) (i : ∀ xs, P xs → ∃ vs, wkL w xs = some vs ∧ ∀ x ∈ vs, ∀ ρ, I ρ → ∃ ρ1, tgt t x ρ = some ρ1 ∧ Wn cs C ρ1 b I) : Wn1 cs C ρ (.fo t w es b) I := fun s g => by
  obtain ⟨xs, h1, e1, f1, p1⟩ := hs s g
  obtain ⟨vs, ew, hx⟩ := i xs p1
  have main : ∀ (l : List Va), (∀ x ∈ l, x ∈ vs) → ∀ (ρ : Loc) (h : Hp), I ρ → Good cs h → ∃ ρ' h', forg (tgt t) (exs C b) l ρ h = .ok (.nx, ρ') h' ∧ Fr cs h h' ∧ I ρ' := by
    intro l
    induction l with
    | nil => intro _ ρ h ir g; exact ⟨ρ, h, by simp only [forg], Fr.refl g, ir⟩
    | cons x l ih =>
      intro hl ρ h ir g
      obtain ⟨ρ1, et, wn⟩ := hx x (hl x (by simp)) ρ ir
      obtain ⟨ρ2, h2, e2, f2, i2⟩ := wn h g
      obtain ⟨ρ3, h3, e3, f3, i3⟩ := ih (fun y hy => hl y (by simp [hy])) ρ2 h2 i2 f2.good
      exact ⟨ρ3, h3, by rw [forg_nx et e2]; exact e3, f2.trans f3, i3⟩
  obtain ⟨ρ', h', e, f, ii⟩ := main vs (fun _ h => h) ρ h1 h0 f1.good
  exact ⟨ρ', h', by simp only [ex, e1, Out.bind, ew]; exact e, f1.trans f, ii⟩
theorem wn_ifF {C : Call} {ρ : Loc} {I : Loc → Prop} {c : Ex} {a : Sts} (h : Wp cs C ρ c fun v => v = .bl false) (i : I ρ) : Wn1 cs C ρ (.iff c a .nil) I := fun s g => by
  obtain ⟨v, h', e1, f, p⟩ := h s g
  subst p
  exact ⟨ρ, h', (x_ifF e1 rfl).trans xs_nil, f, i⟩
theorem wn1_imp {C : Call} {ρ : Loc} {I J : Loc → Prop} {m : St} (h : Wn1 cs C ρ m I) (i : ∀ ρ, I ρ → J ρ) : Wn1 cs C ρ m J := fun s g => by
  obtain ⟨ρ', h', e, f, p⟩ := h s g
  exact ⟨ρ', h', e, f, i _ p⟩
theorem calls_at {P : List Fn} {n f : Nat} {F : Fn} {vs : List Va} {h h' : Hp} {ρ' : Loc} {v : Va} (hF : P[f]? = some F) (hl : vs.length = F.np) (e : exs (calls P n) F.body (start F.ns vs) h = .ok (.rt v, ρ') h') : calls P (n + 1) f vs h = .ok v h' := by
  simp only [calls, hF, runF, hl, ↓reduceIte, e, Out.bind]
theorem law_pure (ns : List Int) (hl : ns.length ≤ 63) : ∃ h', calls code 12 21 [.scr ns] [] = .ok (.bl true) h' := by
  let cs : List Int := cut ns none (some 63)
  -- the box
  have box : calls code 11 15 [.scr ns] [] = .ok (.ref 0) [.lst (bxv cs 0 0 29 0)] := by
    have sl : ev (calls code 10) (start 1 [.scr ns]) (.sl (.v 0) .none (.some (.k (.int 63)))) [] = .ok (.lst (cs.map .int)) [] := by
      simp only [ev, evo, Out.bind, show (start 1 [.scr ns])[0]? = some (some (.scr ns)) from rfl, dr, show bnd (.int 63) = some 63 from rfl, slv, ofO]
      rfl
    have ls : ev (calls code 10) (start 1 [.scr ns]) (.cb .lstOf (.cons (.sl (.v 0) .none (.some (.k (.int 63)))) .nil)) [] = .ok (.lst (cs.map .int)) [] := ev_cb1 sl rfl
    have e : ev (calls code 10) (start 1 [.scr ns]) (.lc1 (.cons (.cb .lstOf (.cons (.sl (.v 0) .none (.some (.k (.int 63)))) .nil)) (.cons (.k (.int 0)) (.cons (.k (.int 0)) (.cons (.k (.int 29)) (.cons (.k (.int 0)) .nil)))))) [] = .ok (.ref 0) [.lst (bxv cs 0 0 29 0)] := by
      rw [show ∀ es : Exs, ev (calls code 10) (start 1 [.scr ns]) (.lc1 es) [] = (evs (calls code 10) (start 1 [.scr ns]) es []).bind fun xs h => if Nat.ble xs.length lim then .ok (.ref h.length) (h ++ [.lst xs]) else .bad from fun es => by simp only [ev]]
      simp only [evs, ls, ev_k, Out.bind]
      rfl
    have x : exs (calls code 10) f__law_box.body (start f__law_box.ns [.scr ns]) [] = .ok (.rt (.ref 0), start 1 [.scr ns]) [.lst (bxv cs 0 0 29 0)] := by
      show exs (calls code 10) (.cons (.rt _) .nil) (start 1 [.scr ns]) [] = _
      refine xs_rt ?_
      rw [show ∀ m : Ex, ex (calls code 10) (.rt m) (start 1 [.scr ns]) [] = (ev (calls code 10) (start 1 [.scr ns]) m []).bind fun x h => .ok (.rt x, start 1 [.scr ns]) h from fun m => by simp only [ex]]
      rw [e]
      rfl
    exact calls_at (n := 10) (F := f__law_box) rfl rfl x
  have g0 : Good cs [.lst (bxv cs 0 0 29 0)] := ⟨0, 0, 29, 0, rfl, by decide, by decide, by decide, by decide⟩
  -- the rest
  let ρ1 : Loc := [some (.scr ns), some (.ref 0), none, none, none, none, none]
  have rest : Wst cs (HC 11) ρ1 (.cons (.as (.nm 2) (.cf 16 .nil)) (.cons (.fo (.nm 3) .rng1 (.cons (.k (.int 3)) .nil) (.cons (.fo (.nm 4) .seq (.cons (.cf 20 (.cons (.v 1) (.cons (.v 2) .nil))) .nil) (.cons (.as (.nm 5) (.cf 18 (.cons (.v 4) .nil))) (.cons (.fo (.nm 6) .rng1 (.cons (.k (.int 2)) .nil) (.cons (.iff (.nt (.cf 19 (.cons (.li (.cons (.cf 6 (.cons (.v 4) .nil)) (.cons (.cf 9 (.cons (.v 5) .nil)) .nil))) (.cons (.li (.cons (.v 5) (.cons (.v 4) .nil))) .nil)))) (.cons (.rt (.k (.bl false))) .nil) .nil) .nil)) .nil))) .nil)) (.cons (.rt (.k (.bl true))) .nil))) fun v => v = .bl true := by
    have emp : Wf cs (HC 11) 16 [] fun v => v = mV := wf_of (F := f__law_empty) rfl rfl (ws_rt fun h g => ⟨mV, h, by rfl, Fr.refl g, rfl⟩)
    refine ws_as (t := .nm 2) (wp_cf (P := fun xs => xs = []) (wps_nil rfl) fun xs e => by subst e; exact emp) fun v e => ⟨[some (.scr ns), some (.ref 0), some v, none, none, none, none], rfl, ?_⟩
    subst e
    let I : Loc → Prop := fun ρ => ∃ a b c d : Option Va, ρ = [some (.scr ns), some (.ref 0), some mV, a, b, c, d]
    have loop : Wn1 cs (HC 11) [some (.scr ns), some (.ref 0), some mV, none, none, none, none] (.fo (.nm 3) .rng1 (.cons (.k (.int 3)) .nil) (.cons (.fo (.nm 4) .seq (.cons (.cf 20 (.cons (.v 1) (.cons (.v 2) .nil))) .nil) (.cons (.as (.nm 5) (.cf 18 (.cons (.v 4) .nil))) (.cons (.fo (.nm 6) .rng1 (.cons (.k (.int 2)) .nil) (.cons (.iff (.nt (.cf 19 (.cons (.li (.cons (.cf 6 (.cons (.v 4) .nil)) (.cons (.cf 9 (.cons (.v 5) .nil)) .nil))) (.cons (.li (.cons (.v 5) (.cons (.v 4) .nil))) .nil)))) (.cons (.rt (.k (.bl false))) .nil) .nil) .nil)) .nil))) .nil)) I := by
      refine wn_fo (P := fun xs => xs = [.int 3]) (wps_cons (P := fun x => x = .int 3) (Q := fun xs => xs = []) (wp_k rfl) (wps_nil rfl) fun x xs e1 e2 => by rw [e1, e2]) ⟨none, none, none, none, rfl⟩ fun xs e => ⟨[.int 0, .int 1, .int 2], by subst e; rfl, fun x _ ρ ⟨a, b, c, d, er⟩ => ⟨[some (.scr ns), some (.ref 0), some mV, some x, b, c, d], by subst er; rfl, wn_one ?_⟩⟩
      refine wn_fo (P := fun xs => ∃ ds, xs = [.lst ds] ∧ All DeedV ds) (wps_cons (P := fun v => ∃ ds, v = .lst ds ∧ ds.length ≤ 1000 ∧ All DeedV ds) (Q := fun xs => xs = []) (wp_cf (P := fun ys => ys = [.ref 0, mV]) (wps_cons (P := fun v => v = .ref 0) (Q := fun ys => ys = [mV]) (wp_v rfl rfl) (wps_cons (P := fun v => v = mV) (Q := fun ys => ys = []) (wp_v rfl rfl) (wps_nil rfl) fun x ys e1 e2 => by rw [e1, e2]) fun x ys e1 e2 => by rw [e1, e2]) fun ys e => by subst e; exact every_w (n := 6)) (wps_nil rfl) fun v xs ⟨ds, ev, _, al⟩ e => ⟨ds, by rw [ev, e], al⟩) ⟨some x, b, c, d, rfl⟩ fun xs ⟨ds, e, al⟩ => ⟨ds, by subst e; rfl, fun D hD ρ ⟨a, b, c, d, er⟩ => ⟨[some (.scr ns), some (.ref 0), some mV, a, some D, c, d], by subst er; rfl, ?_⟩⟩
      obtain ⟨w, fs, eD, dk, kd⟩ := al D hD
      subst eD
      let T : List Nat := TL.joinL [32] (w :: fs.map ft)
      refine wn_cons (I := fun ρ => ρ = [some (.scr ns), some (.ref 0), some mV, a, some (.tup (.str w :: fs.map fv)), some (.str T), d]) (wn_as (P := fun v => v = .str T) (wp_pure (hC 11) (e_cf (es_one (x := .tup (.str w :: fs.map fv)) (e_v rfl)) (line_ok dk kd 9)) rfl) fun v e => ⟨_, by subst e; rfl, rfl⟩) fun ρ er => wn_one ?_
      subst er
      let I2 : Loc → Prop := fun ρ => ∃ a d : Option Va, ρ = [some (.scr ns), some (.ref 0), some mV, a, some (.tup (.str w :: fs.map fv)), some (.str T), d]
      refine wn1_imp (I := I2) ?_ fun ρ ⟨a, d, er⟩ => ⟨a, _, _, d, er⟩
      refine wn_fo (I := I2) (P := fun xs => xs = [.int 2]) (wps_cons (P := fun x => x = .int 2) (Q := fun xs => xs = []) (wp_k rfl) (wps_nil rfl) fun x xs e1 e2 => by rw [e1, e2]) ⟨a, d, rfl⟩ fun xs e => ⟨[.int 0, .int 1], by subst e; rfl, fun y _ ρ ⟨a, d, er⟩ => ⟨[some (.scr ns), some (.ref 0), some mV, a, some (.tup (.str w :: fs.map fv)), some (.str T), some y], by subst er; rfl, wn_one (wn_ifF (wp_pure (hC 11) (e_nt (x := .bl true) (t := true) ?_ rfl) rfl) ⟨a, some y, rfl⟩)⟩⟩
      exact e_cf (es_two (x := .lst [.str T, .tup (.str w :: fs.map fv)]) (y := .lst [.str T, .tup (.str w :: fs.map fv)]) (e_li (es_two (e_cf (es_one (x := .tup (.str w :: fs.map fv)) (e_v rfl)) (deed_text_ok dk 8)) (e_cf (es_one (x := .str T) (e_v rfl)) (deed_of_ok dk 6))) (by show 2 ≤ lim; rw [lim_eq]; omega)) (e_li (es_two (e_v rfl) (e_v rfl)) (by show 2 ≤ lim; rw [lim_eq]; omega))) (deed_like dk T 7)
    intro h g
    obtain ⟨ρ', h', e, f, i⟩ := loop h g
    exact ⟨.bl true, ρ', h', by rw [xs_nx e]; exact xs_rt (by simp only [ex, ev_k, Out.bind]), f, rfl⟩
  obtain ⟨v, ρ', h', e, f, p⟩ := rest _ g0
  subst p
  refine ⟨h', ?_⟩
  have b0 : ex (HC 11) (.as (.nm 1) (.cf 15 (.cons (.v 0) .nil))) (start 7 [.scr ns]) [] = .ok (.nx, ρ1) [.lst (bxv cs 0 0 29 0)] := by
    refine x_as (x := .ref 0) ?_ rfl
    simp only [ev, evs, Out.bind, show (start 7 [.scr ns])[0]? = some (some (.scr ns)) from rfl]
    exact box
  have all : exs (HC 11) f_law.body (start f_law.ns [.scr ns]) [] = .ok (.rt (.bl true), ρ') h' := by
    show exs (HC 11) (.cons (.as (.nm 1) (.cf 15 (.cons (.v 0) .nil))) _) (start 7 [.scr ns]) [] = _
    rw [xs_nx b0]
    exact e
  exact calls_at (n := 11) (F := f_law) rfl rfl all
end K67

namespace K67
open PySem Mp
theorem looks (i : Nat) (d : De) (e : tab[i]? = some d) : ∃ F, code[i]? = some F ∧ lookD glb d F = true := Mp.looks (by decide +kernel) rfl i d e
theorem pure (ns : List Int) (h : ns.length ≤ 63) : ∃ h', calls code 12 21 [.scr ns] [] = .ok (.bl true) h' := law_pure ns h
end K67
open PySem PySem.W PyProof.Rows
set_option maxRecDepth 100000 in
set_option maxHeartbeats 0 in
theorem PySem.Challenge.cw_darkthread_k67_deeds_written_holds : PySem.Challenge.rw_darkthread_k67_deeds_written.Holds := by
  w_on; o_law; k_head; (case hw => w_witness2)
  k_fill
  refine L2.walk_of (l := PySem.Challenge.rw_darkthread_k67_deeds_written) (n := 63) (k := 12) (x := "_law_script") (CX := fun _ => C8.CX0) (sp := fun w => Mp.spLaw _) rfl (by decide) rfl ⟨rfl, by decide, by decide⟩ (fun w h Y => PySem.W.kIn_of Y) ?F (fun _ _ a ns hl _ hS => ⟨a, ns, rfl, hS, hl, fun _ => rfl⟩) (fun _ _ _ _ _ z => z)
  case F =>
    intro w mg fa h KX G hmg
    refine' Mp.fin (G := K67.glb) (T := K67.tab) (P := K67.code) (i := 21) (d := K67.d_law) KX hmg ?cs ?bs ?de rfl K67.looks rfl rfl K67.pure
    case cs =>
      refine' Mp.CsAll.val (x := "FIGURES") KX G ?a1 ?i1 ?q1; (case a1 => k_is); (case i1 => kernel_rfl)
      refine' Mp.CsAll.dic (x := "FORMS") (ks := ["room", "strike", "door", "wall", "sight", "curtain", "post", "call", "delay", "watcher", "leave", "lamp", "rule", "watch", "unwatch"]) KX G ?a2 ?b2 ?c2 ?g2 ?d2 ?e2 ?q2
      (case a2 => k_is); (case b2 => k_is); (case c2 => kernel_rfl); (case g2 => rfl); (case d2 => kernel_rfl); (case e2 => kernel_rfl)
      refine' Mp.CsAll.val (x := "LETTERS") KX G ?a3 ?i3 ?q3; (case a3 => k_is); (case i3 => kernel_rfl)
      refine' Mp.CsAll.val (x := "MOST_FIGURES") KX G ?a4 ?i4 ?q4; (case a4 => k_is); (case i4 => kernel_rfl)
      refine' Mp.CsAll.val (x := "MOST_LETTERS") KX G ?a5 ?i5 ?q5; (case a5 => k_is); (case i5 => kernel_rfl)
      refine' Mp.CsAll.dic (x := "SHAPES") (ks := ["where", "who", "lit", "wheel", "meets", "way", "linger"]) KX G ?a6 ?b6 ?c6 ?g6 ?d6 ?e6 ?q6
      (case a6 => k_is); (case b6 => k_is); (case c6 => kernel_rfl); (case g6 => rfl); (case d6 => kernel_rfl); (case e6 => kernel_rfl)
      refine' Mp.CsAll.dic (x := "TRUTHS") (ks := ["yes", "no"]) KX G ?a7 ?b7 ?c7 ?g7 ?d7 ?e7 ?q7
      (case a7 => k_is); (case b7 => k_is); (case c7 => kernel_rfl); (case g7 => rfl); (case d7 => kernel_rfl); (case e7 => kernel_rfl)
      exact Mp.CsAll.nil
    case bs =>
      refine' Mp.BsAll.mk (x := "all") KX G ?a8 ?q8; (case a8 => k_is)
      refine' Mp.BsAll.mk (x := "bool") KX G ?a9 ?q9; (case a9 => k_is)
      refine' Mp.BsAll.mk (x := "int") KX G ?a10 ?q10; (case a10 => k_is)
      refine' Mp.BsAll.mk (x := "isinstance") KX G ?a11 ?q11; (case a11 => k_is)
      refine' Mp.BsAll.mk (x := "len") KX G ?a12 ?q12; (case a12 => k_is)
      refine' Mp.BsAll.mk (x := "list") KX G ?a13 ?q13; (case a13 => k_is)
      refine' Mp.BsAll.mk (x := "max") KX G ?a14 ?q14; (case a14 => k_is)
      refine' Mp.BsAll.mk (x := "range") KX G ?a15 ?q15; (case a15 => k_is)
      refine' Mp.BsAll.mk (x := "str") KX G ?a16 ?q16; (case a16 => k_is)
      refine' Mp.BsAll.mk (x := "tuple") KX G ?a17 ?q17; (case a17 => k_is)
      refine' Mp.BsAll.mk (x := "zip") KX G ?a18 ?q18; (case a18 => k_is)
      exact Mp.BsAll.nil
    case de =>
      refine' Mp.DeAll.mk (x := "is_name") (st := K67.top 6) (N := ["text", "sign"]) (ps := ["text"]) KX G ?a19 ?l19 ?c19 ?k19 ?b19 ?r19
      (case a19 => k_is); (case l19 => k_is); (case c19 => k_is); (case k19 => k_is); (case b19 => exact fun us hl => match us, hl with | [_], _ => rfl)
      refine' Mp.DeAll.mk (x := "asking_text") (st := K67.top 11) (N := ["asking", "one"]) (ps := ["asking"]) KX G ?a20 ?l20 ?c20 ?k20 ?b20 ?r20
      (case a20 => k_is); (case l20 => k_is); (case c20 => k_is); (case k20 => k_is); (case b20 => exact fun us hl => match us, hl with | [_], _ => rfl)
      refine' Mp.DeAll.mk (x := "number_in") (st := K67.top 12) (N := ["text", "body", "sign"]) (ps := ["text"]) KX G ?a21 ?l21 ?c21 ?k21 ?b21 ?r21
      (case a21 => k_is); (case l21 => k_is); (case c21 => k_is); (case k21 => k_is); (case b21 => exact fun us hl => match us, hl with | [_], _ => rfl)
      refine' Mp.DeAll.mk (x := "thing_in") (st := K67.top 13) (N := ["kind", "word"]) (ps := ["kind", "word"]) KX G ?a22 ?l22 ?c22 ?k22 ?b22 ?r22
      (case a22 => k_is); (case l22 => k_is); (case c22 => k_is); (case k22 => k_is); (case b22 => exact fun us hl => match us, hl with | [_, _], _ => rfl)
      refine' Mp.DeAll.mk (x := "read_asking") (st := K67.top 14) (N := ["text", "word", "rest", "shapes", "things", "shape", "kind", "one"]) (ps := ["text"]) KX G ?a23 ?l23 ?c23 ?k23 ?b23 ?r23
      (case a23 => k_is); (case l23 => k_is); (case c23 => k_is); (case k23 => k_is); (case b23 => exact fun us hl => match us, hl with | [_], _ => rfl)
      refine' Mp.DeAll.mk (x := "thing_text") (st := K67.top 18) (N := ["kind", "thing"]) (ps := ["kind", "thing"]) KX G ?a24 ?l24 ?c24 ?k24 ?b24 ?r24
      (case a24 => k_is); (case l24 => k_is); (case c24 => k_is); (case k24 => k_is); (case b24 => exact fun us hl => match us, hl with | [_, _], _ => rfl)
      refine' Mp.DeAll.mk (x := "deed_text") (st := K67.top 19) (N := ["deed", "word", "rest", "kind", "thing"]) (ps := ["deed"]) KX G ?a25 ?l25 ?c25 ?k25 ?b25 ?r25
      (case a25 => k_is); (case l25 => k_is); (case c25 => k_is); (case k25 => k_is); (case b25 => exact fun us hl => match us, hl with | [_], _ => rfl)
      refine' Mp.DeAll.mk (x := "rooms_in") (st := K67.top 20) (N := ["word", "rooms", "room"]) (ps := ["word"]) KX G ?a26 ?l26 ?c26 ?k26 ?b26 ?r26
      (case a26 => k_is); (case l26 => k_is); (case c26 => k_is); (case k26 => k_is); (case b26 => exact fun us hl => match us, hl with | [_], _ => rfl)
      refine' Mp.DeAll.mk (x := "thing_of") (st := K67.top 21) (N := ["kind", "word"]) (ps := ["kind", "word"]) KX G ?a27 ?l27 ?c27 ?k27 ?b27 ?r27
      (case a27 => k_is); (case l27 => k_is); (case c27 => k_is); (case k27 => k_is); (case b27 => exact fun us hl => match us, hl with | [_, _], _ => rfl)
      refine' Mp.DeAll.mk (x := "deed_of") (st := K67.top 22) (N := ["text", "word", "rest", "kinds", "things", "kind", "one"]) (ps := ["text"]) KX G ?a28 ?l28 ?c28 ?k28 ?b28 ?r28
      (case a28 => k_is); (case l28 => k_is); (case c28 => k_is); (case k28 => k_is); (case b28 => exact fun us hl => match us, hl with | [_], _ => rfl)
      refine' Mp.DeAll.mk (x := "_law_draw") (st := K67.top 24) (N := ["_law_box_here", "_law_many", "_law_cell", "_law_got"]) (ps := ["_law_box_here", "_law_many"]) KX G ?a29 ?l29 ?c29 ?k29 ?b29 ?r29
      (case a29 => k_is); (case l29 => k_is); (case c29 => k_is); (case k29 => k_is); (case b29 => exact fun us hl => match us, hl with | [_, _], _ => rfl)
      refine' Mp.DeAll.mk (x := "_law_of") (st := K67.top 25) (N := ["_law_box_here", "_law_some"]) (ps := ["_law_box_here", "_law_some"]) KX G ?a30 ?l30 ?c30 ?k30 ?b30 ?r30
      (case a30 => k_is); (case l30 => k_is); (case c30 => k_is); (case k30 => k_is); (case b30 => exact fun us hl => match us, hl with | [_, _], _ => rfl)
      refine' Mp.DeAll.mk (x := "_law_names") (st := K67.top 26) (N := ["_law_box_here", "_law_many", "_law_letters", "_law_start", "_law_step", "_law_tail", "_law_pick", "_law_found", "_law_k", "_law_sign"]) (ps := ["_law_box_here", "_law_many"]) KX G ?a31 ?l31 ?c31 ?k31 ?b31 ?r31
      (case a31 => k_is); (case l31 => k_is); (case c31 => k_is); (case k31 => k_is); (case b31 => exact fun us hl => match us, hl with | [_, _], _ => rfl)
      refine' Mp.DeAll.mk (x := "_law_name_of") (st := K67.top 27) (N := ["_law_box_here", "_law_known", "_law_pool", "_law_some"]) (ps := ["_law_box_here", "_law_known"]) KX G ?a32 ?l32 ?c32 ?k32 ?b32 ?r32
      (case a32 => k_is); (case l32 => k_is); (case c32 => k_is); (case k32 => k_is); (case b32 => exact fun us hl => match us, hl with | [_, _], _ => rfl)
      refine' Mp.DeAll.mk (x := "_law_asking") (st := K67.top 28) (N := ["_law_box_here", "_law_m", "_law_rooms", "_law_posts", "_law_one", "_law_other", "_law_beat", "_law_p", "_law_q", "_law_some", "_law_post"]) (ps := ["_law_box_here", "_law_m"]) KX G ?a33 ?l33 ?c33 ?k33 ?b33 ?r33
      (case a33 => k_is); (case l33 => k_is); (case c33 => k_is); (case k33 => k_is); (case b33 => exact fun us hl => match us, hl with | [_, _], _ => rfl)
      refine' Mp.DeAll.mk (x := "_law_box") (st := K67.top 29) (N := ["_law_script"]) (ps := ["_law_script"]) KX G ?a34 ?l34 ?c34 ?k34 ?b34 ?r34
      (case a34 => k_is); (case l34 => k_is); (case c34 => k_is); (case k34 => k_is); (case b34 => exact fun us hl => match us, hl with | [_], _ => rfl)
      refine' Mp.DeAll.mk (x := "_law_empty") (st := K67.top 30) (N := []) (ps := []) KX G ?a35 ?l35 ?c35 ?k35 ?b35 ?r35
      (case a35 => k_is); (case l35 => k_is); (case c35 => k_is); (case k35 => k_is); (case b35 => exact fun us hl => match us, hl with | [], _ => rfl)
      refine' Mp.DeAll.mk (x := "_law_words") (st := K67.top 31) (N := ["_law_asking_here", "_law_one"]) (ps := ["_law_asking_here"]) KX G ?a36 ?l36 ?c36 ?k36 ?b36 ?r36
      (case a36 => k_is); (case l36 => k_is); (case c36 => k_is); (case k36 => k_is); (case b36 => exact fun us hl => match us, hl with | [_], _ => rfl)
      refine' Mp.DeAll.mk (x := "_law_line") (st := K67.top 32) (N := ["_law_deed"]) (ps := ["_law_deed"]) KX G ?a37 ?l37 ?c37 ?k37 ?b37 ?r37
      (case a37 => k_is); (case l37 => k_is); (case c37 => k_is); (case k37 => k_is); (case b37 => exact fun us hl => match us, hl with | [_], _ => rfl)
      refine' Mp.DeAll.mk (x := "_law_like") (st := K67.top 33) (N := ["_law_found", "_law_due", "_law_one", "_law_other"]) (ps := ["_law_found", "_law_due"]) KX G ?a38 ?l38 ?c38 ?k38 ?b38 ?r38
      (case a38 => k_is); (case l38 => k_is); (case c38 => k_is); (case k38 => k_is); (case b38 => exact fun us hl => match us, hl with | [_, _], _ => rfl)
      refine' Mp.DeAll.mk (x := "_law_every_deed") (st := K67.top 34) (N := ["_law_box_here", "_law_m", "_law_names_here", "_law_a", "_law_b", "_law_far", "_law_walk", "_law_some", "_law_k"]) (ps := ["_law_box_here", "_law_m"]) KX G ?a39 ?l39 ?c39 ?k39 ?b39 ?r39
      (case a39 => k_is); (case l39 => k_is); (case c39 => k_is); (case k39 => k_is); (case b39 => exact fun us hl => match us, hl with | [_, _], _ => rfl)
      refine' Mp.DeAll.mk (x := "law") (st := K67.top 35) (N := ["_law_script", "_law_box_here", "_law_m", "_law_turn", "_law_deed", "_law_text", "_law_again"]) (ps := ["_law_script"]) KX G ?a40 ?l40 ?c40 ?k40 ?b40 ?r40
      (case a40 => k_is); (case l40 => k_is); (case c40 => k_is); (case k40 => k_is); (case b40 => exact fun us hl => match us, hl with | [_], _ => rfl)
      exact Mp.DeAll.nil

