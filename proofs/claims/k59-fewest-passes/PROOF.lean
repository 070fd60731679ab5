import PyProof.Rows.All
import Wide.All
import OpenK.AllK
import Wide.FinOn
import HandS.ForMost
import HandS.ForExc
import HandS.Deep
import HandS.TupLe
import HandS.TupAny
import HandS.SortInts
import HandS.SortRule
import HandS.Style
import HandS.IsInst
import PyProof.P3In
import HandS.WordsExc
import PySem.Challenge.RW_postgoeson_k59_fewest_passes
set_option Elab.async false
set_option linter.all false
set_option maxRecDepth 100000
/-! VLD: plain data, results, and the mirrors' combinators. No program and no heap in sight. -/
namespace VL
open PySem

abbrev Key := Sum Int Str
/-- data that never changes -/
inductive FD where
  | non | bl (b : Bool) | int (i : Int) | str (s : Str)
  /-- a tuple that a call has made; one of the program's own constants -/
  | tup (xs : List FD) | cup (xs : List FD)
  /-- the script: a list of ints that nobody changes -/
  | scr (ns : List Int)
/-- data as it stands in a def: frozen, a list, a tuple that holds something that may change, a dict (keys ints and texts), a dict (keys tuples) -/
inductive D where
  | fz (f : FD) | lst (xs : List D) | mtup (xs : List D) | dic (kvs : List (Key × D)) | dit (kvs : List (List Key × D))

@[reducible] def D.i (n : Int) : D := .fz (.int n)
@[reducible] def D.b (k : Bool) : D := .fz (.bl k)
@[reducible] def D.s (x : Str) : D := .fz (.str x)
@[reducible] def D.none : D := .fz .non
@[reducible] def D.t (xs : List FD) : D := .fz (.tup xs)

/-- an end: a value, an error (its class's name, its fields), or nothing that this layer can tell -/
inductive Res (α : Type) where
  | ok (a : α) | err (n : Str) (fs : List (Str × FD)) | bad
@[reducible] def Res.bind {α β : Type} (x : Res α) (f : α → Res β) : Res β :=
  match x with
  | .ok a => f a
  | .err n fs => .err n fs
  | .bad => .bad
instance : Monad Res where
  pure := .ok
  bind := Res.bind
theorem bind_ok {α β : Type} (a : α) (f : α → Res β) : Res.bind (.ok a) f = f a := rfl
theorem bind_err {α β : Type} (n : Str) (fs : List (Str × FD)) (f : α → Res β) : Res.bind (.err n fs) f = .err n fs := rfl
theorem bind_bad {α β : Type} (f : α → Res β) : Res.bind .bad f = .bad := rfl
theorem bind_eq_ok {α β : Type} {x : Res α} {f : α → Res β} {b : β} (h : x.bind f = .ok b) : ∃ a, x = .ok a ∧ f a = .ok b := by
  cases x with
  | ok a => exact ⟨a, rfl, h⟩
  | err n fs => cases h
  | bad => cases h

/-- no error is let through -/
def noErr {α : Type} : Res α → Res α
  | .ok a => .ok a
  | _ => .bad
/-- a condition that the layer asks -/
@[reducible] def need (c : Prop) [Decidable c] {α : Type} (x : Res α) : Res α := if c then x else .bad

abbrev Env := List (Option D)
abbrev E := Env → Res D
abbrev MX := Env → Res (D × Env)
inductive Fl where
  | nx | bk | ct | rt (d : D)
abbrev S := Env → Res (Fl × Env)

/-! ### values -/
def D.fz? : D → Res FD
  | .fz f => .ok f
  | _ => .bad
def D.int? : D → Res Int
  | .fz (.int i) => .ok i
  | _ => .bad
def D.bool? : D → Res Bool
  | .fz (.bl b) => .ok b
  | _ => .bad
/-- all frozen -/
def allF : List D → Res (List FD)
  | [] => .ok []
  | d :: r => d.fz?.bind fun f => (allF r).bind fun fs => .ok (f :: fs)
theorem allF_map : ∀ fs : List FD, allF (fs.map D.fz) = .ok fs
  | [] => rfl
  | f :: fs => by
    have h := allF_map fs
    simp only [List.map_cons, allF, D.fz?, Res.bind, h]
theorem allF_ok : ∀ {ds : List D} {fs : List FD}, allF ds = .ok fs → ds = fs.map D.fz
  | [], _, h => by cases h; rfl
  | d :: r, fs, h => by
    obtain ⟨f, hf, h⟩ := bind_eq_ok h
    obtain ⟨gs, hg, h⟩ := bind_eq_ok h
    cases h
    cases d with
    | fz g => cases hf; rw [allF_ok hg]; rfl
    | lst _ => cases hf
    | mtup _ => cases hf
    | dic _ => cases hf
    | dit _ => cases hf

/-! ### Python's == on frozen data -/
mutual
def pyEq : FD → FD → Bool
  | .non, .non => true
  | .bl a, .bl b => a == b
  | .bl a, .int j => (if a then 1 else 0) == j
  | .int i, .bl b => i == (if b then 1 else 0)
  | .int i, .int j => i == j
  | .str x, .str y => decide (x = y)
  | .tup xs, .tup ys => pyEqs xs ys
  | .tup xs, .cup ys => pyEqs xs ys
  | .cup xs, .tup ys => pyEqs xs ys
  | .cup xs, .cup ys => pyEqs xs ys
  | _, _ => false
def pyEqs : List FD → List FD → Bool
  | [], [] => true
  | x :: xs, y :: ys => pyEq x y && pyEqs xs ys
  | _, _ => false
end

/-! ### subscripts -/
def ixN (n : Nat) (i : Int) : Option Nat := if 0 ≤ i then (if i < n then some i.toNat else none) else if -(n : Int) ≤ i then some (i + n).toNat else none
def atI {α : Type} (xs : List α) (i : Int) : Option α := (ixN xs.length i).bind fun j => xs[j]?
theorem atI_nat {α : Type} (xs : List α) (j : Nat) : atI xs (j : Int) = xs[j]? := by
  unfold atI ixN
  rw [if_pos (Int.natCast_nonneg j)]
  by_cases h : j < xs.length
  · rw [if_pos (by omega)]
    show xs[(j : Int).toNat]? = _
    rw [Int.toNat_natCast]
  · rw [if_neg (by omega)]
    exact (List.getElem?_eq_none_iff.mpr (by omega)).symm
def ofO {α : Type} : Option α → Res α
  | some a => .ok a
  | none => .bad
def valV {κ α : Type} [DecidableEq κ] (kvs : List (κ × α)) (k : κ) : Option α := (kvs.find? fun kv => decide (kv.1 = k)).map (·.2)
def putK {κ α : Type} [DecidableEq κ] (kvs : List (κ × α)) (k : κ) (v : α) : List (κ × α) :=
  if (kvs.any fun kv => decide (kv.1 = k)) = true then kvs.map fun kv => if kv.1 = k then (kv.1, v) else kv else kvs ++ [(k, v)]
/-- a frozen value as a key; a tuple as a key -/
def FD.key? : FD → Res Key
  | .int i => .ok (.inl i)
  | .str x => .ok (.inr x)
  | _ => .bad
def keys? : List FD → Res (List Key)
  | [] => .ok []
  | f :: r => f.key?.bind fun k => (keys? r).bind fun ks => .ok (k :: ks)
def FD.tkey? : FD → Res (List Key)
  | .tup xs => keys? xs
  | _ => .bad
/-- o[i] -/
def oIx : D → D → Res D
  | .lst ds, .fz (.int i) => ofO (atI ds i)
  | .mtup ds, .fz (.int i) => ofO (atI ds i)
  | .fz (.tup fs), .fz (.int i) => (ofO (atI fs i)).bind fun f => .ok (.fz f)
  | .fz (.cup fs), .fz (.int i) => (ofO (atI fs i)).bind fun f => .ok (.fz f)
  | .fz (.str z), .fz (.int i) => need (z.length ≤ 16777216) ((ofO (atI z.cps.toList i)).bind fun c => .ok (.fz (.str ⟨#[c]⟩)))
  | .dic kvs, .fz f => f.key?.bind fun k => ofO (valV kvs k)
  | .dit kvs, .fz f => f.tkey?.bind fun k => ofO (valV kvs k)
  | _, _ => .bad
/-- o[i] = v: the new o -/
def oPut : D → D → D → Res D
  | .lst ds, .fz (.int i), v => (ofO (ixN ds.length i)).bind fun j => .ok (.lst (ds.set j v))
  | .dic kvs, .fz f, v => f.key?.bind fun k => need (kvs.length < 16777216) (.ok (.dic (putK kvs k v)))
  | .dit kvs, .fz f, v => f.tkey?.bind fun k => need (kvs.length < 16777216) (.ok (.dit (putK kvs k v)))
  | _, _, _ => .bad
/-- what stands at a path, changed by f -/
def atPath (f : D → Res D) : List D → D → Res D
  | [], d => f d
  | i :: r, d => (oIx d i).bind fun e => (atPath f r e).bind fun e' => oPut d i e'
def getPath : List D → D → Res D
  | [], d => .ok d
  | i :: r, d => (oIx d i).bind fun e => getPath r e

/-! ### operators -/
def oAdd : D → D → Res D
  | .fz (.int i), .fz (.int j) => .ok (.fz (.int (i + j)))
  | .fz (.str x), .fz (.str y) => need (x.length + y.length ≤ 16777216) (.ok (.fz (.str (x ++ y))))
  | .fz (.tup x), .fz (.tup y) => need (x.length + y.length ≤ 16777216) (.ok (.fz (.tup (x ++ y))))
  | .fz (.tup x), .fz (.cup y) => need (0 < x.length ∧ 0 < y.length ∧ x.length + y.length ≤ 16777216) (.ok (.fz (.tup (x ++ y))))
  | .fz (.cup x), .fz (.tup y) => need (0 < x.length ∧ 0 < y.length ∧ x.length + y.length ≤ 16777216) (.ok (.fz (.tup (x ++ y))))
  | .lst x, .lst y => (allF x).bind fun fs => (allF y).bind fun gs => need (x.length + y.length ≤ 16777216) (.ok (.lst ((fs ++ gs).map D.fz)))
  | _, _ => .bad
def oSub : D → D → Res D
  | .fz (.int i), .fz (.int j) => .ok (.fz (.int (i - j)))
  | _, _ => .bad
def mulOk (i j : Int) : Prop := (-(2 ^ 64) < i ∧ i < 2 ^ 64) ∨ (-(2 ^ 64) < j ∧ j < 2 ^ 64)
instance (i j : Int) : Decidable (mulOk i j) := by unfold mulOk; infer_instance
def oMul : D → D → Res D
  | .fz (.int i), .fz (.int j) => need (mulOk i j) (.ok (.fz (.int (i * j))))
  | _, _ => .bad
def oDiv : D → D → Res D
  | .fz (.int i), .fz (.int j) => need (j ≠ 0 ∧ j.natAbs < 1073741824) (.ok (.fz (.int (i.fdiv j))))
  | _, _ => .bad
def oMod : D → D → Res D
  | .fz (.int i), .fz (.int j) => need (j ≠ 0) (.ok (.fz (.int (i.fmod j))))
  | _, _ => .bad
def powOk (i j : Int) : Prop := 0 ≤ j ∧ j ≤ 1000000 ∧ i.natAbs < 2 ^ 64
instance (i j : Int) : Decidable (powOk i j) := by unfold powOk; infer_instance
def oPow : D → D → Res D
  | .fz (.int i), .fz (.int j) => need (powOk i j) (.ok (.fz (.int (i ^ j.toNat))))
  | _, _ => .bad
def oShl : D → D → Res D
  | .fz (.int i), .fz (.int j) => need (powOk i j) (.ok (.fz (.int (i * 2 ^ j.toNat))))
  | _, _ => .bad
def oNeg : D → Res D
  | .fz (.int i) => .ok (.fz (.int (-i)))
  | _ => .bad
/-- comparisons of ints -/
def oCmp (p : Int → Int → Bool) : D → D → Res D
  | .fz (.int i), .fz (.int j) => .ok (.fz (.bl (p i j)))
  | _, _ => .bad
/-- tuples of ints, in order -/
def lexLt : List Int → List Int → Bool
  | [], [] => false
  | [], _ :: _ => true
  | _ :: _, [] => false
  | x :: xs, y :: ys => if x = y then lexLt xs ys else decide (x < y)
def ints? : List FD → Res (List Int)
  | [] => .ok []
  | .int i :: r => (ints? r).bind fun is => .ok (i :: is)
  | _ :: _ => .bad
def oLt : D → D → Res D
  | .fz (.int i), .fz (.int j) => .ok (.fz (.bl (decide (i < j))))
  | .fz (.tup x), .fz (.tup y) => (ints? x).bind fun xs => (ints? y).bind fun ys => .ok (.fz (.bl (lexLt xs ys)))
  | _, _ => .bad
def oLe : D → D → Res D
  | .fz (.int i), .fz (.int j) => .ok (.fz (.bl (decide (i ≤ j))))
  | .fz (.tup x), .fz (.tup y) => (ints? x).bind fun xs => (ints? y).bind fun ys => .ok (.fz (.bl (!lexLt ys xs)))
  | _, _ => .bad
def oGt : D → D → Res D := oCmp fun i j => decide (j < i)
def oGe : D → D → Res D := oCmp fun i j => decide (j ≤ i)

/- depth of frozen data -/
mutual
def FD.depth : FD → Nat
  | .tup xs => depths xs + 1
  | .cup xs => depths xs + 1
  | _ => 0
def depths : List FD → Nat
  | [] => 0
  | x :: xs => max x.depth (depths xs)
end
def okStr (x : Str) : Bool := x.cps.all (· < 0x110000)
/- what == may be asked of -/
mutual
def FD.okd : FD → Bool
  | .str x => okStr x
  | .tup xs => okds xs
  | .cup xs => okds xs
  | .scr _ => false
  | _ => true
def okds : List FD → Bool
  | [] => true
  | x :: xs => x.okd && okds xs
end
def FD.okq (f : FD) : Bool := f.okd && decide (f.depth ≤ 60)
def okqs (fs : List FD) : Bool := okds fs && decide (depths fs ≤ 60)
def oEq : D → D → Res D
  | .fz (.str x), .fz (.str y) => .ok (.fz (.bl (decide (x = y))))
  | .fz f, .fz g => need (f.okq = true ∧ g.okq = true) (.ok (.fz (.bl (pyEq f g))))
  | _, _ => .bad
def oNe : D → D → Res D
  | .fz (.str x), .fz (.str y) => .ok (.fz (.bl (!decide (x = y))))
  | .fz f, .fz g => need (f.okq = true ∧ g.okq = true) (.ok (.fz (.bl (!pyEq f g))))
  | _, _ => .bad
/-- is, is not None -/
def FD.isN : FD → Bool
  | .non => true
  | _ => false
def oIsN : D → Res D
  | .fz f => .ok (.fz (.bl f.isN))
  | _ => .ok (.fz (.bl false))
def oNotN : D → Res D
  | .fz f => .ok (.fz (.bl (!f.isN)))
  | _ => .ok (.fz (.bl true))
/-- x in y -/
def isIn : D → D → Res Bool
  | .fz f, .lst ds => (allF ds).bind fun fs => need (f.okq = true ∧ okqs fs = true) (.ok (fs.any fun g => pyEq g f))
  | .fz f, .fz (.tup fs) => need (f.okq = true ∧ okqs fs = true) (.ok (fs.any fun g => pyEq g f))
  | .fz f, .fz (.cup fs) => need (f.okq = true ∧ okqs fs = true) (.ok (fs.any fun g => pyEq g f))
  | .fz f, .dic kvs => f.key?.bind fun k => .ok (valV kvs k).isSome
  | .fz f, .dit kvs => f.tkey?.bind fun k => .ok (valV kvs k).isSome
  | _, _ => .bad
def oIn (x y : D) : Res D := (isIn x y).bind fun b => .ok (.fz (.bl b))
def oNotIn (x y : D) : Res D := (isIn x y).bind fun b => .ok (.fz (.bl (!b)))

/-! ### built-in calls -/
def cLen : D → Res D
  | .lst ds => .ok (.fz (.int ds.length))
  | .mtup ds => .ok (.fz (.int ds.length))
  | .fz (.tup fs) => .ok (.fz (.int fs.length))
  | .fz (.cup fs) => .ok (.fz (.int fs.length))
  | .fz (.str x) => need (x.length ≤ 16777216) (.ok (.fz (.int x.length)))
  | .dic kvs => .ok (.fz (.int kvs.length))
  | .fz (.scr ns) => .ok (.fz (.int ns.length))
  | _ => .bad
def cInt : D → Res D
  | .fz (.int i) => .ok (.fz (.int i))
  | .fz (.bl b) => .ok (.fz (.int (if b then 1 else 0)))
  | _ => .bad
def cAbs : D → Res D
  | .fz (.int i) => .ok (.fz (.int (if i < 0 then -i else i)))
  | _ => .bad
/-- tuple(xs) where all are frozen; list(xs) likewise -/
def cTuple : D → Res D
  | .lst ds => (allF ds).bind fun fs => .ok (.fz (.tup fs))
  | .fz (.tup fs) => .ok (.fz (.tup fs))
  | .fz (.cup fs) => .ok (.fz (.cup fs))
  | _ => .bad
def cList : D → Res D
  | .lst ds => (allF ds).bind fun fs => .ok (.lst (fs.map D.fz))
  | .fz (.tup fs) => .ok (.lst (fs.map D.fz))
  | .fz (.cup fs) => .ok (.lst (fs.map D.fz))
  | _ => .bad
def bools? : List FD → Res (List Bool)
  | [] => .ok []
  | .bl b :: r => (bools? r).bind fun bs => .ok (b :: bs)
  | _ :: _ => .bad
def cAll : D → Res D
  | .lst ds => (allF ds).bind fun fs => (bools? fs).bind fun bs => .ok (.fz (.bl (bs.all id)))
  | _ => .bad
def cAny : D → Res D
  | .lst ds => (allF ds).bind fun fs => (bools? fs).bind fun bs => .ok (.fz (.bl (bs.any id)))
  | _ => .bad
def leastI : Int → List Int → Int
  | m, [] => m
  | m, x :: r => leastI (if x < m then x else m) r
def mostI : Int → List Int → Int
  | m, [] => m
  | m, x :: r => mostI (if m < x then x else m) r
def cMin1 : D → Res D
  | .lst ds => (allF ds).bind fun fs => (ints? fs).bind fun is => match is with
    | [] => .bad
    | m :: r => .ok (.fz (.int (leastI m r)))
  | _ => .bad
def cMax1 : D → Res D
  | .lst ds => (allF ds).bind fun fs => (ints? fs).bind fun is => match is with
    | [] => .bad
    | m :: r => .ok (.fz (.int (mostI m r)))
  | _ => .bad
def cMax2 : D → D → Res D
  | .fz (.int i), .fz (.int j) => .ok (.fz (.int (if j > i then j else i)))
  | _, _ => .bad
def cMin2 : D → D → Res D
  | .fz (.int i), .fz (.int j) => .ok (.fz (.int (if j < i then j else i)))
  | _, _ => .bad
def cSum : D → Res D
  | .lst ds => (allF ds).bind fun fs => (ints? fs).bind fun is => .ok (.fz (.int is.sum))
  | _ => .bad
def pairs? : List FD → Res (List (Int × Int))
  | [] => .ok []
  | .tup [.int i, .int j] :: r => (pairs? r).bind fun is => .ok ((i, j) :: is)
  | _ :: _ => .bad
def leP (a b : Int × Int) : Bool := decide (a.1 < b.1) || (decide (a.1 = b.1) && decide (a.2 ≤ b.2))
def isInts : List FD → Bool
  | [] => true
  | .int _ :: r => isInts r
  | _ => false
def sortF (fs : List FD) : Res (List FD) :=
  if isInts fs = true then (ints? fs).bind fun is => .ok ((is.mergeSort fun a b => decide (a ≤ b)).map FD.int)
  else (pairs? fs).bind fun ps => .ok ((ps.mergeSort leP).map fun p => FD.tup [.int p.1, .int p.2])
def keyF : Key → FD
  | .inl i => .int i
  | .inr x => .str x
def cSorted : D → Res D
  | .lst ds => (allF ds).bind fun fs => (sortF fs).bind fun gs => .ok (.lst (gs.map D.fz))
  | _ => .bad
inductive Ty where
  | int | bool | str | tuple | list | dict
/-- isinstance(x, T) -/
def isTy : Ty → D → Bool
  | .int, .fz (.int _) => true
  | .int, .fz (.bl _) => true
  | .bool, .fz (.bl _) => true
  | .str, .fz (.str _) => true
  | .tuple, .fz (.tup _) => true
  | .tuple, .fz (.cup _) => true
  | .tuple, .mtup _ => true
  | .list, .lst _ => true
  | .list, .fz (.scr _) => true
  | .dict, .dic _ => true
  | .dict, .dit _ => true
  | _, _ => false
/-- xs[lo:hi] -/
def sIx (n d : Nat) : Option Int → Nat
  | none => d
  | some v => if v < 0 then (v + (n : Int)).toNat else min v.toNat n
def cut {α : Type} (xs : List α) (lo hi : Option Int) : List α := (xs.drop (sIx xs.length 0 lo)).take (sIx xs.length xs.length hi - sIx xs.length 0 lo)
def oCut (lo hi : Option Int) : D → Res D
  | .lst ds => (allF ds).bind fun fs => .ok (.lst ((cut fs lo hi).map D.fz))
  | .fz (.tup fs) => .ok (.fz (.tup (cut fs lo hi)))
  | _ => .bad
def oRev : D → Res D
  | .lst ds => (allF ds).bind fun fs => .ok (.lst (fs.reverse.map D.fz))
  | _ => .bad
/-- what a for walks -/
def items : D → Res (List D)
  | .lst ds => .ok ds
  | .mtup ds => .ok ds
  | .fz (.tup fs) => .ok (fs.map D.fz)
  | .fz (.cup fs) => .ok (fs.map D.fz)
  | .fz (.scr ns) => .ok (ns.map fun n => D.fz (.int n))
  | _ => .bad
def rangeL (lo : Int) : Nat → List D
  | 0 => []
  | n + 1 => D.fz (.int lo) :: rangeL (lo + 1) n

def c1 (f : D → Res D) : List D → Res D
  | [d] => f d
  | _ => .bad
def c2 (f : D → D → Res D) : List D → Res D
  | [d, e] => f d e
  | _ => .bad
/-! ### expressions -/
def eVar (i : Nat) : E := fun env => match env[i]? with
  | some (some d) => .ok d
  | _ => .bad
def eC (d : FD) : E := fun _ => .ok (.fz d)
def eUn (f : D → Res D) (a : E) : E := fun env => (a env).bind f
def eBin (f : D → D → Res D) (a b : E) : E := fun env => (a env).bind fun x => (b env).bind fun y => f x y
def eAnd (a b : E) : E := fun env => (a env).bind fun x => x.bool?.bind fun k => if k = true then b env else .ok (.fz (.bl false))
def eOr (a b : E) : E := fun env => (a env).bind fun x => x.bool?.bind fun k => if k = true then .ok (.fz (.bl true)) else b env
def eNot (a : E) : E := fun env => (a env).bind fun x => x.bool?.bind fun k => .ok (.fz (.bl (!k)))
def eIf (c a b : E) : E := fun env => (c env).bind fun x => x.bool?.bind fun k => if k = true then a env else b env
/-- a op b op' c -/
def eChain (f g : D → D → Res D) (a b c : E) : E := fun env => (a env).bind fun x => (b env).bind fun y => (f x y).bind fun z => z.bool?.bind fun k =>
  if k = true then (c env).bind fun w => g y w else .ok (.fz (.bl false))
def eAll : List E → Env → Res (List D)
  | [], _ => .ok []
  | e :: r, env => (e env).bind fun d => (eAll r env).bind fun ds => .ok (d :: ds)
theorem eAll_length : ∀ {ms : List E} {env : Env} {ds : List D}, eAll ms env = .ok ds → ds.length = ms.length
  | [], _, _, h => by cases h; rfl
  | m :: r, env, ds, h => by
    obtain ⟨d, _, h⟩ := bind_eq_ok h
    obtain ⟨es, h2, h⟩ := bind_eq_ok h
    cases h
    simp [eAll_length h2]
/-- a borrowed value that must be frozen -/
def eFz (a : E) : E := fun env => (a env).bind fun x => x.fz?.bind fun f => .ok (.fz f)
/-- a tuple all of whose items are frozen -/
def eTup (es : List E) : E := fun env => (eAll es env).bind fun ds => (allF ds).bind fun fs => .ok (.fz (.tup fs))
def eLst (es : List E) : E := fun env => (eAll es env).bind fun ds => .ok (.lst ds)
def eCall (m : List D → Res D) (es : List E) : E := fun env => (eAll es env).bind m
def eOpt : Option E → Env → Res (Option Int)
  | none, _ => .ok none
  | some e, env => (e env).bind fun d => d.int?.bind fun i => .ok (some i)
def eCut (a : E) (lo hi : Option E) : E := fun env => (a env).bind fun x => (eOpt lo env).bind fun l => (eOpt hi env).bind fun h => oCut l h x
/-- {k: v, ..} -/
def eDic : List (E × E) → E
  | kvs => fun env => (eAll (kvs.map (·.1)) env).bind fun ks => (allF ks).bind fun fs => (keys? fs).bind fun js => (eAll (kvs.map (·.2)) env).bind fun vs =>
    .ok (.dic ((js.zip vs).foldl (fun acc kv => putK acc kv.1 kv.2) []))
def eDicT (k v : E) : E := fun env => (k env).bind fun x => x.fz?.bind fun f => f.tkey?.bind fun ks => (v env).bind fun y => .ok (.dit [(ks, y)])

/-! ### targets and loops -/
/-- where an item goes: a slot, or the slots of its parts -/
inductive Tg where
  | nm (i : Nat) | tp (is : List Nat)
def setS (env : Env) (i : Nat) (d : D) : Env := env.set i (some d)
def setMany : List Nat → List FD → Env → Res Env
  | [], [], env => .ok env
  | i :: is, f :: fs, env => setMany is fs (setS env i (.fz f))
  | _, _, _ => .bad
def tgSet : Tg → D → Env → Res Env
  | .nm i, d, env => .ok (setS env i d)
  | .tp is, .fz (.tup fs), env => setMany is fs env
  | .tp is, .fz (.cup fs), env => setMany is fs env
  | _, _, _ => .bad
/-- forget the slots -/
def wipe : List Nat → Env → Env
  | [], env => env
  | i :: is, env => (wipe is env).set i none
/-- [elt for tg in src if test], nothing is changed -/
def compL (tg : Tg) (test : E) (elt : E) (env : Env) : List D → Res (List D)
  | [] => .ok []
  | d :: r => (tgSet tg d env).bind fun env' => (test env').bind fun t => t.bool?.bind fun k =>
    if k = true then (elt env').bind fun x => (compL tg test elt env r).bind fun xs => .ok (x :: xs) else compL tg test elt env r
def eYes : E := fun _ => .ok (.fz (.bl true))
/-- own: the block's slots -/
def eComp (own : List Nat) (src : Env → Res (List D)) (tg : Tg) (test elt : E) : E := fun env => (src env).bind fun ds => need (ds.length ≤ 16777216) ((noErr (compL tg test elt (wipe own env) ds)).bind fun xs => .ok (.lst xs))
def srcE (e : E) : Env → Res (List D) := fun env => (e env).bind items
def srcR1 (e : E) : Env → Res (List D) := fun env => (e env).bind fun x => x.int?.bind fun n => need (-(2 ^ 62) ≤ n ∧ n < 2 ^ 62) (.ok (rangeL 0 n.toNat))
def srcR2 (a b : E) : Env → Res (List D) := fun env => (a env).bind fun x => x.int?.bind fun m => (b env).bind fun y => y.int?.bind fun n =>
  need (-(2 ^ 62) ≤ m ∧ m < 2 ^ 62 ∧ -(2 ^ 62) ≤ n ∧ n < 2 ^ 62) (.ok (rangeL m (n - m).toNat))

/-! ### what changes the state on the way -/
def xF (e : E) : MX := fun env => (e env).bind fun d => .ok (d, env)
/-- a borrowed value: it must be frozen -/
def xZ (e : E) : MX := fun env => (e env).bind fun d => d.fz?.bind fun f => .ok (.fz f, env)
/-- the slot's value leaves its slot -/
def xMv (i : Nat) : MX := fun env => (eVar i env).bind fun d => .ok (d, env.set i none)
def xUn (f : D → Res D) (a : MX) : MX := fun env => (a env).bind fun p => (f p.1).bind fun d => .ok (d, p.2)
def xBin (f : D → D → Res D) (a b : MX) : MX := fun env => (a env).bind fun p => (b p.2).bind fun q => (f p.1 q.1).bind fun d => .ok (d, q.2)
def xAll : List MX → Env → Res (List D × Env)
  | [], env => .ok ([], env)
  | e :: r, env => (e env).bind fun p => (xAll r p.2).bind fun q => .ok (p.1 :: q.1, q.2)
def xTup (es : List MX) : MX := fun env => (xAll es env).bind fun p => (allF p.1).bind fun fs => .ok (.fz (.tup fs), p.2)
def xLst (es : List MX) : MX := fun env => (xAll es env).bind fun p => .ok (.lst p.1, p.2)
def xAnd (a b : MX) : MX := fun env => (a env).bind fun p => p.1.bool?.bind fun k => if k = true then b p.2 else .ok (.fz (.bl false), p.2)
def xOr (a b : MX) : MX := fun env => (a env).bind fun p => p.1.bool?.bind fun k => if k = true then .ok (.fz (.bl true), p.2) else b p.2
def xNot (a : MX) : MX := fun env => (a env).bind fun p => p.1.bool?.bind fun k => .ok (.fz (.bl (!k)), p.2)
def xIf (c a b : MX) : MX := fun env => (c env).bind fun p => p.1.bool?.bind fun k => if k = true then a p.2 else b p.2
/-- slot[i], i with effects: the slot is read behind them -/
def xIxV (j : Nat) (b : MX) : MX := fun env => (eVar j env).bind fun _ => (b env).bind fun q => (eVar j q.2).bind fun o => (oIx o q.1).bind fun d => d.fz?.bind fun f => .ok (.fz f, q.2)
def xCall (m : List D → Res D) (es : List MX) : MX := fun env => (xAll es env).bind fun p => (m p.1).bind fun d => .ok (d, p.2)
/-- the arguments of a call that may change what slots hold: a slot (changed, or only read), or a value -/
inductive Arg where
  | io (j : Nat) | ro (j : Nat) | ex (x : MX)
/-- the values, in order: of a slot its number -/
def xArgs : List Arg → Env → Res (List (Nat ⊕ D) × Env)
  | [], env => .ok ([], env)
  | .io j :: r, env => (eVar j env).bind fun _ => (xArgs r env).bind fun q => .ok (.inl j :: q.1, q.2)
  | .ro j :: r, env => (eVar j env).bind fun _ => (xArgs r env).bind fun q => .ok (.inl j :: q.1, q.2)
  | .ex x :: r, env => (x env).bind fun p => (xArgs r p.2).bind fun q => .ok (.inr p.1 :: q.1, q.2)
def fill : List (Nat ⊕ D) → Env → Res (List D)
  | [], _ => .ok []
  | .inl j :: r, env => (eVar j env).bind fun d => (fill r env).bind fun ds => .ok (d :: ds)
  | .inr d :: r, env => (fill r env).bind fun ds => .ok (d :: ds)
/-- the slots that are changed -/
def ios : List Arg → List Nat
  | [] => []
  | .io j :: r => j :: ios r
  | _ :: r => ios r
def putBack : List Nat → List D → Env → Res Env
  | [], [], env => .ok env
  | j :: js, d :: ds, env => putBack js ds (setS env j d)
  | _, _, _ => .bad
/-- m tells the value and what stands behind the call at the changed ones -/
def xCallM (m : List D → Res (D × List D)) (as : List Arg) : MX := fun env => (xArgs as env).bind fun p => (fill p.1 p.2).bind fun ds => (m ds).bind fun r => (putBack (ios as) r.2 p.2).bind fun env' => .ok (r.1, env')
/-- what a loop walks, with effects -/
def xsE (x : MX) : Env → Res (List D × Env) := fun env => (x env).bind fun p => (items p.1).bind fun ds => .ok (ds, p.2)
def xsR1 (x : MX) : Env → Res (List D × Env) := fun env => (x env).bind fun p => p.1.int?.bind fun n => need (-(2 ^ 62) ≤ n ∧ n < 2 ^ 62) (.ok (rangeL 0 n.toNat, p.2))
def xsR2 (x y : MX) : Env → Res (List D × Env) := fun env => (x env).bind fun p => p.1.int?.bind fun m => (y p.2).bind fun q => q.1.int?.bind fun n =>
  need (-(2 ^ 62) ≤ m ∧ m < 2 ^ 62 ∧ -(2 ^ 62) ≤ n ∧ n < 2 ^ 62) (.ok (rangeL m (n - m).toNat, q.2))
/-- the slots at is as they were -/
def back : List Nat → Env → Env → Env
  | [], _, env => env
  | i :: is, env0, env => match env0[i]? with
    | some o => (back is env0 env).set i o
    | none => back is env0 env
/-- [elt for tg in src if test] with effects -/
def xcompL (own : List Nat) (tg : Tg) (test elt : MX) : List D → Env → Res (List D × Env)
  | [], env => .ok ([], env)
  | d :: r, env => d.fz?.bind fun f => (tgSet tg (.fz f) (wipe own env)).bind fun env1 => (test env1).bind fun t => t.1.bool?.bind fun k =>
    if k = true then (elt t.2).bind fun x => (xcompL own tg test elt r x.2).bind fun xs => .ok (x.1 :: xs.1, xs.2) else xcompL own tg test elt r t.2
def xYes : MX := fun env => .ok (.fz (.bl true), env)
def xComp (own : List Nat) (src : Env → Res (List D × Env)) (tg : Tg) (test elt : MX) : MX := fun env => (src env).bind fun p => need (p.1.length ≤ 16777216) ((noErr (xcompL own tg test elt p.1 (wipe own p.2))).bind fun xs => .ok (.lst xs.1, back own p.2 (wipe own xs.2)))

/-! ### statements -/
def sNx : S := fun env => .ok (.nx, env)
def sSeq (a b : S) : S := fun env => (a env).bind fun p => match p.1 with
  | .nx => b p.2
  | f => .ok (f, p.2)
def sSet (i : Nat) (x : MX) : S := fun env => (x env).bind fun p => .ok (.nx, setS p.2 i p.1)
def sSetT (is : List Nat) (x : MX) : S := fun env => (x env).bind fun p => (tgSet (.tp is) p.1 p.2).bind fun env' => .ok (.nx, env')
def oAddI : D → D → Res D
  | .fz (.int i), .fz (.int j) => .ok (.fz (.int (i + j)))
  | .fz (.str x), .fz (.str y) => need (x.length + y.length ≤ 16777216) (.ok (.fz (.str (x ++ y))))
  | _, _ => .bad
def sAug (f : D → D → Res D) (i : Nat) (x : MX) : S := fun env => (eVar i env).bind fun o => o.fz?.bind fun g => (x env).bind fun p => (f (.fz g) p.1).bind fun d => .ok (.nx, setS p.2 i d)
/-- the value at a path of slot i is changed by f -/
def chg (i : Nat) (path : List D) (f : D → Res D) (env : Env) : Res (Fl × Env) := (eVar i env).bind fun o => (atPath f path o).bind fun o' => .ok (.nx, setS env i o')
/-- o[..][k] = x: x first -/
def sPut (i : Nat) (path : List E) (k : E) (x : MX) : S := fun env => (x env).bind fun p => (noErr (eAll path p.2)).bind fun ds => (noErr (k p.2)).bind fun kd => chg i ds (fun o => oPut o kd p.1) p.2
def oAug (f : D → D → Res D) (kd y : D) : D → Res D := fun o => (oIx o kd).bind fun old => old.fz?.bind fun g => (f (.fz g) y).bind fun new => oPut o kd new
/-- o[..][k] op= y, y without effects -/
def sAugP (f : D → D → Res D) (i : Nat) (path : List E) (k : E) (y : E) : S := fun env => (noErr (eAll path env)).bind fun ds => (noErr (k env)).bind fun kd => (noErr (y env)).bind fun yd => yd.fz?.bind fun g => chg i ds (oAug f kd (.fz g)) env
def oApp (v : D) : D → Res D
  | .lst ds => need (ds.length < 16777216) (.ok (.lst (ds ++ [v])))
  | _ => .bad
/-- o[..].append(x), x without effects -/
def sApp (i : Nat) (path : List E) (x : E) : S := fun env => (noErr (eAll path env)).bind fun ds => (noErr (x env)).bind fun p => chg i ds (oApp p) env
/-- a name's append of a value with effects -/
def sApp0 (i : Nat) (x : MX) : S := fun env => (eVar i env).bind fun d => match d with
  | .lst _ => (x env).bind fun p => chg i [] (oApp p.1) p.2
  | _ => .bad
def sExpr (x : MX) : S := fun env => (x env).bind fun p => .ok (.nx, p.2)
def sRet (x : MX) : S := fun env => (x env).bind fun p => .ok (.rt p.1, p.2)
def sIf (c : MX) (a b : S) : S := fun env => (c env).bind fun p => p.1.bool?.bind fun k => if k = true then a p.2 else b p.2
def sBrk : S := fun env => .ok (.bk, env)
def sCnt : S := fun env => .ok (.ct, env)
/-- a raise of an own error -/
def sRaise (n : Str) (names : List Str) (es : List E) : S := fun env => (eAll es env).bind fun ds => (allF ds).bind fun fs => .err n (names.zip fs)
def sNever : S := fun _ => .bad
/-- the loop over items: the slots at kill are forgotten ahead of each turn and behind the loop -/
def forL (tg : Tg) (kill : List Nat) (body : S) : List D → Env → Res (Fl × Env)
  | [], env => .ok (.nx, wipe kill env)
  | d :: r, env => (tgSet tg d (wipe kill env)).bind fun env1 => (body env1).bind fun p => match p.1 with
    | .nx => forL tg kill body r p.2
    | .ct => forL tg kill body r p.2
    | .bk => .ok (.nx, wipe kill p.2)
    | .rt d => .ok (.rt d, p.2)
/-- for over frozen items: mods are the slots that the body changes (and the target's); the source is read without them -/
def sFor (src : Env → Res (List D)) (tg : Tg) (mods kill : List Nat) (body : S) : S := fun env => (src (wipe mods env)).bind fun ds => (allF ds).bind fun fs => forL tg kill body (fs.map D.fz) env
/-- for over a made list, or a range, with effects in the source -/
def sForX (src : Env → Res (List D × Env)) (tg : Tg) (kill : List Nat) (body : S) : S := fun env => (src env).bind fun p => (allF p.1).bind fun fs => forL tg kill body (fs.map D.fz) p.2
def whileL (c : MX) (kill : List Nat) (body : S) : Nat → Env → Res (Fl × Env)
  | 0, _ => .bad
  | n + 1, env => (c (wipe kill env)).bind fun p => p.1.bool?.bind fun k => if k = true then (body p.2).bind fun q => match q.1 with
      | .nx => whileL c kill body n q.2
      | .ct => whileL c kill body n q.2
      | .bk => .ok (.nx, wipe kill q.2)
      | .rt d => .ok (.rt d, q.2)
    else .ok (.nx, wipe kill p.2)
/- the loop ends in some number of turns -/
open Classical in
noncomputable def sWhile (c : MX) (kill : List Nat) (body : S) : S := fun env =>
  if h : ∃ n r, whileL c kill body n env = r ∧ r ≠ .bad then whileL c kill body h.choose env else .bad

theorem while_mono {kill : List Nat} {c : MX} {b : S} : ∀ (n k : Nat) (env : Env) r, whileL c kill b n env = r → r ≠ .bad → whileL c kill b (n + k) env = r
  | 0, _, _, r, h, hn => absurd h.symm hn
  | n + 1, k, env, r, h, hn => by
    have e : n + 1 + k = (n + k) + 1 := by omega
    rw [e]
    unfold whileL at h ⊢
    cases e1 : c (wipe kill env) with
    | bad => rw [e1] at h; exact absurd h.symm hn
    | err n fs => rw [e1] at h; exact h
    | ok p =>
      rw [e1] at h
      simp only [Res.bind] at h ⊢
      cases e2 : p.1.bool? with
      | bad => rw [e2] at h; exact absurd h.symm hn
      | err n fs => rw [e2] at h; exact h
      | ok q =>
        rw [e2] at h
        simp only at h ⊢
        cases q with
        | false => exact h
        | true =>
          simp only [if_true] at h ⊢
          cases e3 : b p.2 with
          | bad => rw [e3] at h; exact absurd h.symm hn
          | err n fs => rw [e3] at h; exact h
          | ok z =>
            rw [e3] at h
            obtain ⟨fl, env3⟩ := z
            cases fl with
            | nx => exact while_mono n k env3 r h hn
            | ct => exact while_mono n k env3 r h hn
            | bk => exact h
            | rt d => exact h
theorem sWhile_eq {kill : List Nat} {c : MX} {b : S} {env : Env} {n : Nat} {r : Res (Fl × Env)} (h : whileL c kill b n env = r) (hn : r ≠ .bad) : sWhile c kill b env = r := by
  have ex : ∃ n r, whileL c kill b n env = r ∧ r ≠ .bad := ⟨n, r, h, hn⟩
  unfold sWhile
  rw [dif_pos ex]
  obtain ⟨r', h', hn'⟩ := ex.choose_spec
  have e1 := while_mono ex.choose n env r' h' hn'
  have e2 := while_mono n ex.choose env r h hn
  rw [Nat.add_comm] at e2
  rw [h', ← e1, e2]
/-! ### defs -/
def start (n : Nat) (ds : List D) : Env := ds.map some ++ List.replicate (n - ds.length) none
def fnP (np n : Nat) (body : S) : List D → Res D := fun ds => need (ds.length = np) ((body (start n ds)).bind fun p => match p.1 with
  | .rt d => .ok d
  | .nx => .ok (.fz .non)
  | _ => .bad)
/-- what stands in the slots -/
def slots : List Nat → Env → Res (List D)
  | [], _ => .ok []
  | i :: is, env => (eVar i env).bind fun d => (slots is env).bind fun ds => .ok (d :: ds)
/-- the arguments at io may be changed: their values behind the call are told, too -/
def fnM (np n : Nat) (io : List Nat) (body : S) : List D → Res (D × List D) := fun ds => need (ds.length = np) ((body (start n ds)).bind fun p => match p.1 with
  | .rt d => (slots io p.2).bind fun os => .ok (d, os)
  | .nx => (slots io p.2).bind fun os => .ok (.fz .non, os)
  | _ => .bad)
end VL
set_option Elab.async false
set_option linter.all false
set_option maxRecDepth 100000
set_option maxHeartbeats 4000000
/-! VLR: how plain data lies in the abstract heap of the hand layer. -/
namespace VL
open PySem L2

/-! ### frozen data -/
/-- a list that nobody changes: known to the heap, or among the module's own -/
def SqF (K : PySem.W.Frag) (H : Hp) (a : Addr) (xs : List V) : Prop := (∃ o, H a = some (.frz o (.lst xs))) ∨
  ∃ (o : Obj) (its : Array Value) (n : Nat), K.lookup a = some o ∧ o.cls = .type "list" ∧ o.dict = none ∧ o.data = .seq its n ∧ its.size ≤ sizeLine ∧ Vals xs its.toList
theorem SqF.sql {K : PySem.W.Frag} {H : Hp} {a : Addr} {xs : List V} (h : SqF K H a xs) : SqL K H a xs := h.elim (fun ⟨o, h⟩ => .inl (.inr ⟨o, h⟩)) .inr
mutual
def RF (K : PySem.W.Frag) (H : Hp) : FD → V → Prop
  | .non, v => v = .non
  | .bl b, v => v = .bl b
  | .int i, v => v = .int i
  | .str s, v => v = .str s
  | .tup fs, v => ∃ a vs, v = .ref a ∧ H a = some (.tup vs) ∧ RFs K H fs vs
  | .cup fs, v => ∃ a vs, v = .ref a ∧ SqT K H a vs ∧ RFs K H fs vs
  | .scr ns, v => ∃ a, v = .ref a ∧ SqF K H a (ns.map V.int)
def RFs (K : PySem.W.Frag) (H : Hp) : List FD → List V → Prop
  | [], vs => vs = []
  | f :: r, vs => ∃ v q, vs = v :: q ∧ RF K H f v ∧ RFs K H r q
end
mutual
/-- d stands at v; the addresses of what may change in it -/
def RD (K : PySem.W.Frag) (H : Hp) : D → V → List Addr → Prop
  | .fz f, v, F => RF K H f v ∧ F = []
  | .lst ds, v, F => ∃ a vs G, v = .ref a ∧ H a = some (.lst vs) ∧ RDs K H ds vs G ∧ F = a :: G
  | .mtup ds, v, F => ∃ a vs, v = .ref a ∧ H a = some (.tup vs) ∧ RDs K H ds vs F
  | .dic kvs, v, F => ∃ a ws G, v = .ref a ∧ H a = some (.dK ws) ∧ RDk K H kvs ws G ∧ F = a :: G
  | .dit kvs, v, F => ∃ a ws G, v = .ref a ∧ H a = some (.dT ws) ∧ RDt K H kvs ws G ∧ F = a :: G
def RDs (K : PySem.W.Frag) (H : Hp) : List D → List V → List Addr → Prop
  | [], vs, F => vs = [] ∧ F = []
  | d :: r, vs, F => ∃ v q F1 F2, vs = v :: q ∧ RD K H d v F1 ∧ RDs K H r q F2 ∧ F = F1 ++ F2
def RDk (K : PySem.W.Frag) (H : Hp) : List (VL.Key × D) → List (VL.Key × V) → List Addr → Prop
  | [], ws, F => ws = [] ∧ F = []
  | (k, d) :: r, ws, F => ∃ v q F1 F2, ws = (k, v) :: q ∧ RD K H d v F1 ∧ RDk K H r q F2 ∧ F = F1 ++ F2 ∧ k ∉ r.map (·.1)
def RDt (K : PySem.W.Frag) (H : Hp) : List (List VL.Key × D) → List (List VL.Key × V) → List Addr → Prop
  | [], ws, F => ws = [] ∧ F = []
  | (k, d) :: r, ws, F => ∃ v q F1 F2, ws = (k, v) :: q ∧ RD K H d v F1 ∧ RDt K H r q F2 ∧ F = F1 ++ F2 ∧ k ∉ r.map (·.1)
end

/-- what may change -/
def isMut : HO → Prop
  | .lst _ => True
  | .dK _ => True
  | .dT _ => True
  | _ => False
def MutAt (H : Hp) (b : Addr) : Prop := ∃ o, H b = some o ∧ isMut o
/-- all that was tracked, but for F, is as it was -/
def KeepX (F : Addr → Prop) (H H' : Hp) : Prop := ∀ b o, H b = some o → ¬ F b → H' b = some o
theorem KeepX.same {H H' : Hp} {F : Addr → Prop} (s : Same H H') : KeepX F H H' := fun b o e _ => s b o e
theorem KeepX.tup {H H' : Hp} {F : Addr → Prop} (k : KeepX F H H') (hF : ∀ b, F b → MutAt H b) {a : Addr} {xs : List V} (e : H a = some (.tup xs)) : H' a = some (.tup xs) :=
  k a _ e fun h => by
    obtain ⟨o, eo, m⟩ := hF a h
    rw [e] at eo; cases eo
    exact m
theorem KeepX.frz {H H' : Hp} {F : Addr → Prop} (k : KeepX F H H') (hF : ∀ b, F b → MutAt H b) {a : Addr} {o : Obj} {u : HO} (e : H a = some (.frz o u)) : H' a = some (.frz o u) :=
  k a _ e fun h => by
    obtain ⟨o, eo, m⟩ := hF a h
    rw [e] at eo; cases eo
    exact m
theorem KeepX.sqt {K : PySem.W.Frag} {H H' : Hp} {F : Addr → Prop} (k : KeepX F H H') (hF : ∀ b, F b → MutAt H b) {a : Addr} {xs : List V} (e : SqT K H a xs) : SqT K H' a xs := by
  rcases e with (e | ⟨o, e⟩) | e
  · exact .inl (.inl (k.tup hF e))
  · exact .inl (.inr ⟨o, k.frz hF e⟩)
  · exact .inr e
mutual
theorem RF.keep {K : PySem.W.Frag} {H H' : Hp} {F : Addr → Prop} (k : KeepX F H H') (hF : ∀ b, F b → MutAt H b) : ∀ {f : FD} {v : V}, RF K H f v → RF K H' f v
  | .non, _, h => h
  | .bl _, _, h => h
  | .int _, _, h => h
  | .str _, _, h => h
  | .tup _, _, ⟨a, vs, e, h, r⟩ => ⟨a, vs, e, k.tup hF h, RFs.keep k hF r⟩
  | .cup _, _, ⟨a, vs, e, h, r⟩ => ⟨a, vs, e, k.sqt hF h, RFs.keep k hF r⟩
  | .scr _, _, ⟨a, e, h⟩ => ⟨a, e, h.imp (fun ⟨o, h⟩ => ⟨o, k.frz hF h⟩) id⟩
theorem RFs.keep {K : PySem.W.Frag} {H H' : Hp} {F : Addr → Prop} (k : KeepX F H H') (hF : ∀ b, F b → MutAt H b) : ∀ {fs : List FD} {vs : List V}, RFs K H fs vs → RFs K H' fs vs
  | [], _, h => h
  | _ :: _, _, ⟨v, q, e, h, r⟩ => ⟨v, q, e, RF.keep k hF h, RFs.keep k hF r⟩
end
theorem noF {H : Hp} : ∀ b : Addr, (fun _ : Addr => False) b → MutAt H b := fun _ h => h.elim
theorem RF.same {K : PySem.W.Frag} {H H' : Hp} (s : Same H H') {f : FD} {v : V} (h : RF K H f v) : RF K H' f v := h.keep (F := fun _ => False) (.same s) noF
theorem KeepX.rd {H H' : Hp} {F : Addr → Prop} (k : KeepX F H H') {a : Addr} {u : HO} (e : Rd H a u) (n : ¬ F a) : Rd H' a u := by
  rcases e with e | ⟨o, e⟩
  · exact .inl (k a _ e n)
  · exact .inr ⟨o, k a _ e n⟩
mutual
theorem RD.keep {K : PySem.W.Frag} {H H' : Hp} {F : Addr → Prop} (k : KeepX F H H') (hF : ∀ b, F b → MutAt H b) : ∀ {d : D} {v : V} {G : List Addr}, RD K H d v G → (∀ b ∈ G, ¬ F b) → RD K H' d v G
  | .fz _, _, _, ⟨h, e⟩, _ => ⟨h.keep k hF, e⟩
  | .lst _, _, _, ⟨a, vs, G, e, h, r, eG⟩, n => by
    subst eG
    exact ⟨a, vs, G, e, k a _ h (n a List.mem_cons_self), RDs.keep k hF r fun b hb => n b (List.mem_cons_of_mem _ hb), rfl⟩
  | .mtup _, _, _, ⟨a, vs, e, h, r⟩, n => ⟨a, vs, e, k.tup hF h, RDs.keep k hF r n⟩
  | .dic _, _, _, ⟨a, ws, G, e, h, r, eG⟩, n => by
    subst eG
    exact ⟨a, ws, G, e, k a _ h (n a List.mem_cons_self), RDk.keep k hF r fun b hb => n b (List.mem_cons_of_mem _ hb), rfl⟩
  | .dit _, _, _, ⟨a, ws, G, e, h, r, eG⟩, n => by
    subst eG
    exact ⟨a, ws, G, e, k a _ h (n a List.mem_cons_self), RDt.keep k hF r fun b hb => n b (List.mem_cons_of_mem _ hb), rfl⟩
theorem RDs.keep {K : PySem.W.Frag} {H H' : Hp} {F : Addr → Prop} (k : KeepX F H H') (hF : ∀ b, F b → MutAt H b) : ∀ {ds : List D} {vs : List V} {G : List Addr}, RDs K H ds vs G → (∀ b ∈ G, ¬ F b) → RDs K H' ds vs G
  | [], _, _, h, _ => h
  | _ :: _, _, _, ⟨v, q, F1, F2, e, h, r, eG⟩, n => by
    subst eG
    exact ⟨v, q, F1, F2, e, RD.keep k hF h fun b hb => n b (List.mem_append_left _ hb), RDs.keep k hF r fun b hb => n b (List.mem_append_right _ hb), rfl⟩
theorem RDk.keep {K : PySem.W.Frag} {H H' : Hp} {F : Addr → Prop} (k : KeepX F H H') (hF : ∀ b, F b → MutAt H b) : ∀ {ds : List (VL.Key × D)} {vs : List (VL.Key × V)} {G : List Addr}, RDk K H ds vs G → (∀ b ∈ G, ¬ F b) → RDk K H' ds vs G
  | [], _, _, h, _ => h
  | (_, _) :: _, _, _, ⟨v, q, F1, F2, e, h, r, eG, nk⟩, n => by
    subst eG
    exact ⟨v, q, F1, F2, e, RD.keep k hF h fun b hb => n b (List.mem_append_left _ hb), RDk.keep k hF r fun b hb => n b (List.mem_append_right _ hb), rfl, nk⟩
theorem RDt.keep {K : PySem.W.Frag} {H H' : Hp} {F : Addr → Prop} (k : KeepX F H H') (hF : ∀ b, F b → MutAt H b) : ∀ {ds : List (List VL.Key × D)} {vs : List (List VL.Key × V)} {G : List Addr}, RDt K H ds vs G → (∀ b ∈ G, ¬ F b) → RDt K H' ds vs G
  | [], _, _, h, _ => h
  | (_, _) :: _, _, _, ⟨v, q, F1, F2, e, h, r, eG, nk⟩, n => by
    subst eG
    exact ⟨v, q, F1, F2, e, RD.keep k hF h fun b hb => n b (List.mem_append_left _ hb), RDt.keep k hF r fun b hb => n b (List.mem_append_right _ hb), rfl, nk⟩
end
theorem RD.same {K : PySem.W.Frag} {H H' : Hp} (s : Same H H') {d : D} {v : V} {G : List Addr} (h : RD K H d v G) : RD K H' d v G := h.keep (F := fun _ => False) (.same s) noF fun _ _ z => z
theorem RDs.same {K : PySem.W.Frag} {H H' : Hp} (s : Same H H') {d : List D} {v : List V} {G : List Addr} (h : RDs K H d v G) : RDs K H' d v G := h.keep (F := fun _ => False) (.same s) noF fun _ _ z => z
mutual
/-- what may change in it is tracked -/
theorem RD.mut {K : PySem.W.Frag} {H : Hp} : ∀ {d : D} {v : V} {G : List Addr}, RD K H d v G → ∀ b ∈ G, MutAt H b
  | .fz _, _, _, ⟨_, e⟩, b, hb => by subst e; cases hb
  | .lst _, _, _, ⟨a, vs, G, e, h, r, eG⟩, b, hb => by
    subst eG
    rcases List.mem_cons.mp hb with rfl | hb
    · exact ⟨_, h, trivial⟩
    · exact RDs.mut r b hb
  | .mtup _, _, _, ⟨a, vs, e, h, r⟩, b, hb => RDs.mut r b hb
  | .dic _, _, _, ⟨a, vs, G, e, h, r, eG⟩, b, hb => by
    subst eG
    rcases List.mem_cons.mp hb with rfl | hb
    · exact ⟨_, h, trivial⟩
    · exact RDk.mut r b hb
  | .dit _, _, _, ⟨a, vs, G, e, h, r, eG⟩, b, hb => by
    subst eG
    rcases List.mem_cons.mp hb with rfl | hb
    · exact ⟨_, h, trivial⟩
    · exact RDt.mut r b hb
theorem RDs.mut {K : PySem.W.Frag} {H : Hp} : ∀ {d : List D} {v : List V} {G : List Addr}, RDs K H d v G → ∀ b ∈ G, MutAt H b
  | [], _, _, ⟨_, e⟩, b, hb => by subst e; cases hb
  | _ :: _, _, _, ⟨v, q, F1, F2, e, h, r, eG⟩, b, hb => by
    subst eG
    rcases List.mem_append.mp hb with hb | hb
    · exact RD.mut h b hb
    · exact RDs.mut r b hb
theorem RDk.mut {K : PySem.W.Frag} {H : Hp} : ∀ {d : List (VL.Key × D)} {v : List (VL.Key × V)} {G : List Addr}, RDk K H d v G → ∀ b ∈ G, MutAt H b
  | [], _, _, ⟨_, e⟩, b, hb => by subst e; cases hb
  | (_, _) :: _, _, _, ⟨v, q, F1, F2, e, h, r, eG, _⟩, b, hb => by
    subst eG
    rcases List.mem_append.mp hb with hb | hb
    · exact RD.mut h b hb
    · exact RDk.mut r b hb
theorem RDt.mut {K : PySem.W.Frag} {H : Hp} : ∀ {d : List (List VL.Key × D)} {v : List (List VL.Key × V)} {G : List Addr}, RDt K H d v G → ∀ b ∈ G, MutAt H b
  | [], _, _, ⟨_, e⟩, b, hb => by subst e; cases hb
  | (_, _) :: _, _, _, ⟨v, q, F1, F2, e, h, r, eG, _⟩, b, hb => by
    subst eG
    rcases List.mem_append.mp hb with hb | hb
    · exact RD.mut h b hb
    · exact RDt.mut r b hb
end

/-! ### lists of data -/
theorem RFs.length {K : PySem.W.Frag} {H : Hp} : ∀ {fs : List FD} {vs : List V}, RFs K H fs vs → vs.length = fs.length
  | [], _, h => by cases h; rfl
  | _ :: _, _, ⟨v, q, e, _, r⟩ => by subst e; simp [RFs.length r]
theorem RDs.length {K : PySem.W.Frag} {H : Hp} : ∀ {fs : List D} {vs : List V} {G : List Addr}, RDs K H fs vs G → vs.length = fs.length
  | [], _, _, h => by cases h.1; rfl
  | _ :: _, _, _, ⟨v, q, _, _, e, _, r, _⟩ => by subst e; simp [RDs.length r]
theorem RFs.get {K : PySem.W.Frag} {H : Hp} : ∀ {fs : List FD} {vs : List V} {i : Nat} {f : FD}, RFs K H fs vs → fs[i]? = some f → ∃ v, vs[i]? = some v ∧ RF K H f v
  | [], _, _, _, _, e => by simp at e
  | g :: r, _, 0, f, ⟨v, q, e, h, _⟩, e2 => by
    subst e
    simp at e2
    subst e2
    exact ⟨v, by simp, h⟩
  | g :: r, _, i + 1, f, ⟨v, q, e, _, h⟩, e2 => by
    subst e
    obtain ⟨u, h1, h2⟩ := RFs.get (i := i) (f := f) h (by simpa using e2)
    exact ⟨u, by simpa using h1, h2⟩
theorem RDs.get {K : PySem.W.Frag} {H : Hp} : ∀ {fs : List D} {vs : List V} {G : List Addr} {i : Nat} {f : D}, RDs K H fs vs G → fs[i]? = some f → ∃ v F, vs[i]? = some v ∧ RD K H f v F ∧ (∀ b ∈ F, b ∈ G) ∧ (G.Nodup → F.Nodup)
  | [], _, _, _, _, _, e => by simp at e
  | g :: r, _, _, 0, f, ⟨v, q, F1, F2, e, h, _, eG⟩, e2 => by
    subst e eG
    simp at e2
    subst e2
    exact ⟨v, F1, by simp, h, fun b hb => List.mem_append_left _ hb, fun n => (List.nodup_append.mp n).1⟩
  | g :: r, _, _, i + 1, f, ⟨v, q, F1, F2, e, _, h, eG⟩, e2 => by
    subst e eG
    obtain ⟨u, F, h1, h2, h3, h4⟩ := RDs.get (i := i) (f := f) h (by simpa using e2)
    exact ⟨u, F, by simpa using h1, h2, fun b hb => List.mem_append_right _ (h3 b hb), fun n => h4 (List.nodup_append.mp n).2.1⟩
theorem RFs.rds {K : PySem.W.Frag} {H : Hp} : ∀ {fs : List FD} {vs : List V}, RFs K H fs vs → RDs K H (fs.map D.fz) vs []
  | [], _, h => ⟨h, rfl⟩
  | _ :: _, _, ⟨v, q, e, h, r⟩ => ⟨v, q, [], [], e, ⟨h, rfl⟩, RFs.rds r, rfl⟩
theorem RDs.rfs {K : PySem.W.Frag} {H : Hp} : ∀ {fs : List FD} {vs : List V} {G : List Addr}, RDs K H (fs.map D.fz) vs G → RFs K H fs vs ∧ G = []
  | [], _, _, h => ⟨h.1, h.2⟩
  | f :: r, _, _, ⟨v, q, F1, F2, e, ⟨h, e1⟩, hr, eG⟩ => by
    obtain ⟨a, b⟩ := RDs.rfs hr
    subst e1 b eG
    exact ⟨⟨v, q, e, h, a⟩, rfl⟩
theorem RDs.allF {K : PySem.W.Frag} {H : Hp} {ds : List D} {fs : List FD} {vs : List V} {G : List Addr} (h : RDs K H ds vs G) (e : VL.allF ds = .ok fs) : RFs K H fs vs ∧ G = [] := by
  rw [allF_ok e] at h
  exact h.rfs
theorem RDs.append {K : PySem.W.Frag} {H : Hp} : ∀ {ds es : List D} {vs ws : List V} {F G : List Addr}, RDs K H ds vs F → RDs K H es ws G → RDs K H (ds ++ es) (vs ++ ws) (F ++ G)
  | [], _, _, _, _, _, ⟨e1, e2⟩, h => by subst e1 e2; exact h
  | d :: r, _, _, _, _, _, ⟨v, q, F1, F2, e, h, hr, eG⟩, h2 => by
    subst e eG
    exact ⟨v, _, F1, F2 ++ _, rfl, h, RDs.append hr h2, List.append_assoc ..⟩
theorem RFs.append {K : PySem.W.Frag} {H : Hp} : ∀ {ds es : List FD} {vs ws : List V}, RFs K H ds vs → RFs K H es ws → RFs K H (ds ++ es) (vs ++ ws)
  | [], _, _, _, e1, h => by cases e1; exact h
  | d :: r, _, _, _, ⟨v, q, e, h, hr⟩, h2 => by
    subst e
    exact ⟨v, _, rfl, h, RFs.append hr h2⟩
theorem RFs.take {K : PySem.W.Frag} {H : Hp} : ∀ (n : Nat) {fs : List FD} {vs : List V}, RFs K H fs vs → RFs K H (fs.take n) (vs.take n)
  | 0, _, _, _ => by simp [RFs]
  | n + 1, [], _, h => by cases h; simp [RFs]
  | n + 1, f :: r, _, ⟨v, q, e, h, hr⟩ => by
    subst e
    exact ⟨v, _, rfl, h, RFs.take n hr⟩
theorem RFs.drop {K : PySem.W.Frag} {H : Hp} : ∀ (n : Nat) {fs : List FD} {vs : List V}, RFs K H fs vs → RFs K H (fs.drop n) (vs.drop n)
  | 0, _, _, h => h
  | n + 1, [], _, h => by cases h; simp [RFs]
  | n + 1, f :: r, _, ⟨v, q, e, h, hr⟩ => by
    subst e
    exact RFs.drop n hr
theorem RFs.reverse {K : PySem.W.Frag} {H : Hp} : ∀ {fs : List FD} {vs : List V}, RFs K H fs vs → RFs K H fs.reverse vs.reverse
  | [], _, h => by cases h; exact rfl
  | f :: r, _, ⟨v, q, e, h, hr⟩ => by
    subst e
    rw [List.reverse_cons, List.reverse_cons]
    exact RFs.append (RFs.reverse hr) ⟨v, [], rfl, h, rfl⟩
/-- an item exchanged -/
theorem RDs.set {K : PySem.W.Frag} {H : Hp} : ∀ {ds : List D} {vs : List V} {G : List Addr} {i : Nat} {d e : D} {u : V} {F' : List Addr}, RDs K H ds vs G → ds[i]? = some d → RD K H e u F' →
    ∃ v F A B, vs[i]? = some v ∧ RD K H d v F ∧ G = A ++ F ++ B ∧ RDs K H (ds.set i e) (vs.set i u) (A ++ F' ++ B)
  | [], _, _, _, _, _, _, _, _, e, _ => by simp at e
  | g :: r, _, _, 0, d, e, u, F', ⟨v, q, F1, F2, ev, h, hr, eG⟩, e2, h3 => by
    subst ev eG
    simp at e2
    subst e2
    exact ⟨v, F1, [], F2, by simp, h, by simp, u, q, F', F2, by simp, h3, hr, by simp⟩
  | g :: r, _, _, i + 1, d, e, u, F', ⟨v, q, F1, F2, ev, h, hr, eG⟩, e2, h3 => by
    subst ev eG
    obtain ⟨v', F, A, B, h4, h5, h6, h7⟩ := RDs.set (i := i) (d := d) hr (by simpa using e2) h3
    subst h6
    exact ⟨v', F, F1 ++ A, B, by simpa using h4, h5, by simp, v, q.set i u, F1, A ++ F' ++ B, by simp, h, h7, by simp⟩
end VL
set_option Elab.async false
set_option linter.all false
set_option maxRecDepth 100000
set_option maxHeartbeats 4000000
/-! VLE: expressions by their mirrors. -/
namespace VL
open PySem L2

/-! ### outcomes -/
def Outc {α : Type} (r : Res α) (ok : α → Prop) (er : Str → List (Str × FD) → Prop) : Prop :=
  match r with
  | .ok a => ok a
  | .err n fs => er n fs
  | .bad => False
section
variable {α β : Type} {r : Res α} {f : α → Res β} {ok : β → Prop} {er : Str → List (Str × FD) → Prop}
theorem Outc.bnd (h : Outc (r.bind f) ok er) : Outc r (fun a => Outc (f a) ok er) er := by
  cases r <;> exact h
theorem Outc.mono {ok ok' : α → Prop} {er er' : Str → List (Str × FD) → Prop} (h : Outc r ok er) (h1 : ∀ a, r = .ok a → ok a → ok' a) (h2 : ∀ n fs, er n fs → er' n fs) : Outc r ok' er' := by
  cases r with
  | ok a => exact h1 a rfl h
  | err n fs => exact h2 n fs h
  | bad => exact h
theorem Outc.need {c : Prop} [Decidable c] {x : Res β} (h : Outc (VL.need c x) ok er) : c ∧ Outc x ok er := by
  by_cases e : c
  · refine ⟨e, ?_⟩
    unfold VL.need at h
    rwa [if_pos e] at h
  · unfold VL.need at h
    rw [if_neg e] at h
    exact h.elim
theorem Outc.ofO {o : Option β} (h : Outc (VL.ofO o) ok er) : ∃ a, o = some a ∧ ok a := by
  cases o with
  | none => exact h.elim
  | some a => exact ⟨a, rfl, h⟩
theorem Outc.fz {ok : FD → Prop} {d : D} (h : Outc d.fz? ok er) : ∃ f, d = .fz f ∧ ok f := by
  cases d with
  | fz f => exact ⟨f, rfl, h⟩
  | _ => exact h.elim
theorem Outc.int {ok : Int → Prop} {d : D} (h : Outc d.int? ok er) : ∃ i, d = .fz (.int i) ∧ ok i := by
  cases d with
  | fz f =>
    cases f with
    | int i => exact ⟨i, rfl, h⟩
    | _ => exact h.elim
  | _ => exact h.elim
theorem Outc.bool {ok : Bool → Prop} {d : D} (h : Outc d.bool? ok er) : ∃ i, d = .fz (.bl i) ∧ ok i := by
  cases d with
  | fz f =>
    cases f with
    | bl i => exact ⟨i, rfl, h⟩
    | _ => exact h.elim
  | _ => exact h.elim
/-- a helper that raises nothing: it is done, or nothing is told -/
theorem Outc.okOf {ok : α → Prop} (h : Outc r ok er) (n : ∀ m fs, r ≠ .err m fs) : ∃ a, r = .ok a ∧ ok a := by
  cases r with
  | ok a => exact ⟨a, rfl, h⟩
  | err m fs => exact absurd rfl (n m fs)
  | bad => exact h.elim
end
theorem ne_bind {α β : Type} {r : Res α} {f : α → Res β} (h : ∀ m fs, r ≠ .err m fs) (h2 : ∀ a m fs, f a ≠ .err m fs) : ∀ m fs, r.bind f ≠ .err m fs := by
  cases r with
  | ok a => exact h2 a
  | err m fs => exact absurd rfl (h m fs)
  | bad => intro m fs z; cases z
theorem fz_ne (d : D) : ∀ m fs, d.fz? ≠ .err m fs := by
  intro m fs z
  cases d <;> cases z
theorem allF_ne : ∀ (ds : List D) m fs, allF ds ≠ .err m fs
  | [] => by intro m fs z; cases z
  | d :: r => ne_bind (fz_ne d) fun f => ne_bind (allF_ne r) fun fs => by intro m fs z; cases z
theorem key_ne (f : FD) : ∀ m fs, f.key? ≠ .err m fs := by
  intro m fs z
  cases f <;> cases z
theorem keys_ne : ∀ (fs : List FD) m gs, keys? fs ≠ .err m gs
  | [] => by intro m fs z; cases z
  | f :: r => ne_bind (key_ne f) fun k => ne_bind (keys_ne r) fun ks => by intro m fs z; cases z
theorem tkey_ne (f : FD) : ∀ m fs, f.tkey? ≠ .err m fs := by
  cases f with
  | tup xs => exact keys_ne xs
  | _ => intro m fs z; cases z
theorem ints_ne : ∀ (fs : List FD) m gs, ints? fs ≠ .err m gs
  | [] => by intro m fs z; cases z
  | f :: r => by
    cases f with
    | int i => exact ne_bind (ints_ne r) fun is => by intro m fs z; cases z
    | _ => intro m fs z; cases z
theorem bools_ne : ∀ (fs : List FD) m gs, bools? fs ≠ .err m gs
  | [] => by intro m fs z; cases z
  | f :: r => by
    cases f with
    | bl i => exact ne_bind (bools_ne r) fun is => by intro m fs z; cases z
    | _ => intro m fs z; cases z
theorem ints_map : ∀ {fs : List FD} {is : List Int}, ints? fs = .ok is → fs = is.map FD.int
  | [], is, h => by cases h; rfl
  | f :: r, is, h => by
    cases f with
    | int i =>
      obtain ⟨js, h1, h2⟩ := bind_eq_ok h
      cases h2
      rw [ints_map h1]
      rfl
    | _ => cases h
theorem bools_map : ∀ {fs : List FD} {is : List Bool}, bools? fs = .ok is → fs = is.map FD.bl
  | [], is, h => by cases h; rfl
  | f :: r, is, h => by
    cases f with
    | bl i =>
      obtain ⟨js, h1, h2⟩ := bind_eq_ok h
      cases h2
      rw [bools_map h1]
      rfl
    | _ => cases h
theorem ints_of : ∀ is : List Int, ints? (is.map FD.int) = .ok is
  | [] => rfl
  | i :: r => by
    have h := ints_of r
    simp only [List.map_cons, ints?, Res.bind, h]

/-! ### states and errors -/
def Rdl (K : PySem.W.Frag) (H : Hp) (σ : St) (env : Env) (Fs : Nat → List Addr) : Prop := env.length = σ.length ∧ ∀ (i : Nat) (d : D), env[i]? = some (some d) → ∃ v, σ[i]? = some (some v) ∧ RD K H d v (Fs i)
theorem Rdl.same {K : PySem.W.Frag} {H H' : Hp} {σ : St} {env : Env} {Fs : Nat → List Addr} (h : Rdl K H σ env Fs) (s : Same H H') : Rdl K H' σ env Fs := ⟨h.1, fun i d e => by
  obtain ⟨v, e1, r⟩ := h.2 i d e
  exact ⟨v, e1, r.same s⟩⟩
/-- an error as it lies -/
structure ErrAt (K : PySem.W.Frag) (mg : Str → Option Value) (H : Hp) (n : Str) (fs : List (Str × FD)) (cls : Value) (dd : Option Addr) : Prop where
  cls : mg n = some cls
  flds : ∃ a ws, dd = some a ∧ H a = some (.xd ws) ∧ ∀ x f, (x, f) ∈ fs → ∃ v, ws.lookup x = some v ∧ RF K H f v
/-- what is wanted of a value that may be borrowed from the slots; of one that is made or frozen; of an error -/
def KB (K : PySem.W.Frag) (H : Hp) (Fs : Nat → List Addr) (Q : VK) (d : D) : Prop := ∀ v F H', Same H H' → RD K H' d v F → (∀ b ∈ F, (∃ i, b ∈ Fs i) ∨ H b = none) → Q v H'
def KN (K : PySem.W.Frag) (H : Hp) (Q : VK) (d : D) : Prop := ∀ v F H', Same H H' → RD K H' d v F → F.Nodup → (∀ b ∈ F, H b = none) → Q v H'
def ER (K : PySem.W.Frag) (mg : Str → Option Value) (W : WX) (σ : St) (H : Hp) (n : Str) (fs : List (Str × FD)) : Prop := ∀ cls dd H', Same H H' → ErrAt K mg H' n fs cls dd → W cls dd σ H'
section
variable {K : PySem.W.Frag} {mg : Str → Option Value} {H H1 : Hp} {Fs : Nat → List Addr} {Q : VK} {d : D} {W : WX} {σ : St} {n : Str} {fs : List (Str × FD)}
theorem KB.later (h : KB K H Fs Q d) (s : Same H H1) : KB K H1 Fs Q d := fun v F H' s' r p => h v F H' (s.trans s') r fun b hb => (p b hb).imp id s.free
theorem KN.later (h : KN K H Q d) (s : Same H H1) : KN K H1 Q d := fun v F H' s' r nd p => h v F H' (s.trans s') r nd fun b hb => s.free (p b hb)
theorem ER.later (h : ER K mg W σ H n fs) (s : Same H H1) : ER K mg W σ H1 n fs := fun c dd H' s' e => h c dd H' (s.trans s') e
theorem KB.kn (h : KB K H Fs Q d) : KN K H Q d := fun v F H' s r _ p => h v F H' s r fun b hb => .inr (p b hb)
/-- a frozen value at the heap as it stands -/
theorem KN.fz {f : FD} {v : V} (h : KN K H Q (.fz f)) (r : RF K H f v) : Q v H := h v [] H (Same.refl H) ⟨r, rfl⟩ List.nodup_nil fun b hb => by cases hb
theorem KN.fz' {f : FD} {v : V} {H' : Hp} (h : KN K H Q (.fz f)) (s : Same H H') (r : RF K H' f v) : Q v H' := h v [] H' s ⟨r, rfl⟩ List.nodup_nil fun b hb => by cases hb
end
def rB (K : PySem.W.Frag) (mg : Str → Option Value) (W : WX) (m : E) : TE := fun σ H Q => ∃ env Fs, Rdl K H σ env Fs ∧ Outc (m env) (KB K H Fs Q) (ER K mg W σ H)
def rN (K : PySem.W.Frag) (mg : Str → Option Value) (W : WX) (m : E) : TE := fun σ H Q => ∃ env Fs, Rdl K H σ env Fs ∧ Outc (m env) (KN K H Q) (ER K mg W σ H)
/-- an expression whose value may be borrowed; whose value is made or frozen -/
abbrev PB (X : Cx) (W : WX) (e : Expr) (m : E) : Prop := PE X e (rB X.K X.mg W m)
abbrev PN (X : Cx) (W : WX) (e : Expr) (m : E) : Prop := PE X e (rN X.K X.mg W m)
theorem _root_.L2.PE.imp {X : Cx} {e : Expr} {t t' : TE} (h : PE X e t) (i : ∀ σ H Q, t' σ H Q → t σ H Q) : PE X e t' := ⟨fun pins s σ H Q I q => h.run pins s σ H Q I (i σ H Q q)⟩
theorem _root_.L2.PT.imp {X : Cx} {e : Expr} {t t' : TT} (h : PT X e t) (i : ∀ σ H Q, t' σ H Q → t σ H Q) : PT X e t' := ⟨fun pins s σ H Q I q => h.run pins s σ H Q I (i σ H Q q)⟩
theorem _root_.L2.PW.imp {X : Cx} {e : Expr} {t t' : TT} (h : PW X e t) (i : ∀ σ H Q, t' σ H Q → t σ H Q) : PW X e t' := ⟨fun wh pins s σ H Q I q => h.run wh pins s σ H Q I (i σ H Q q)⟩
theorem _root_.L2.PA.imp {X : Cx} {e : List Expr} {t t' : TA} (h : PA X e t) (i : ∀ σ H Q, t' σ H Q → t σ H Q) : PA X e t' := ⟨fun pos pins s σ H Q I q => h.run pos pins s σ H Q I (i σ H Q q)⟩

section
variable {X : Cx} {W : WX} {a b c e : Expr} {ma mb mc m : E} {pos : Pos}
theorem pnB (h : PN X W e m) : PB X W e m := h.imp fun σ H Q ⟨env, Fs, r, o⟩ => ⟨env, Fs, r, o.mono (fun _ _ k => k.kn) fun _ _ z => z⟩

/-! ### names, constants -/
theorem pb_var {i : Nat} {x : Str} (h : PE X (.Name x pos) (tVar i)) : PB X W (.Name x pos) (eVar i) := h.imp fun σ H Q ⟨env, Fs, r, o⟩ => by
  unfold eVar at o
  split at o
  · rename_i d e
    obtain ⟨v, ev, rd⟩ := r.2 i d e
    exact ⟨v, ev, o v _ H (Same.refl H) rd fun b hb => .inl ⟨i, hb⟩⟩
  · exact o.elim
theorem pn_c {f : FD} {v : V} (h : PE X e (tC v)) (r : ∀ H, RF X.K H f v) : PN X W e (eC f) := h.imp fun σ H Q ⟨env, Fs, _, o⟩ => KN.fz (show KN X.K H Q (.fz f) from o) (r H)
theorem pn_int {i : Int} {j : Nat} : PN X W (.Constant (.int i) j pos) (eC (.int i)) := pn_c pe_int fun _ => rfl
theorem pn_str {x : Str} {j : Nat} : PN X W (.Constant (.str x) j pos) (eC (.str x)) := pn_c pe_str fun _ => rfl
theorem pn_bl {k : Bool} {j : Nat} : PN X W (.Constant (.bool k) j pos) (eC (.bl k)) := pn_c pe_bl fun _ => rfl
theorem pn_non {j : Nat} : PN X W (.Constant .none j pos) (eC .non) := pn_c pe_non fun _ => rfl
/-- a borrowed value that must be frozen -/
theorem pn_fz (h : PB X W e m) : PN X W e (eFz m) := h.imp fun σ H Q ⟨env, Fs, r, o⟩ => ⟨env, Fs, r, o.bnd.mono (fun d _ k v F H' s rd p => by
    obtain ⟨f, rfl, q⟩ := Outc.fz k.bnd
    obtain ⟨rf, eF⟩ := rd
    exact KN.fz' (show KN X.K H Q (.fz f) from q) s rf) fun _ _ z => z⟩

/-! ### operators -/
/-- what an operator gives of two values: made or frozen -/
def Snd (K : PySem.W.Frag) (f : D → D → Res D) (r : R2) : Prop := ∀ (x y : D) (vx vy : V) (F G : List Addr) (H : Hp) (Q : VK) (er : Str → List (Str × FD) → Prop), RD K H x vx F → RD K H y vy G → Outc (f x y) (KN K H Q) er → r vx vy H Q
def Snd1 (K : PySem.W.Frag) (f : D → Res D) (r : V → Hp → VK → Prop) : Prop := ∀ (x : D) (vx : V) (F : List Addr) (H : Hp) (Q : VK) (er : Str → List (Str × FD) → Prop), RD K H x vx F → Outc (f x) (KN K H Q) er → r vx H Q
theorem bin_imp {f : D → D → Res D} {r : R2} (hs : Snd X.K f r) : ∀ σ H Q, rN X.K X.mg W (eBin f ma mb) σ H Q → tOp r (rB X.K X.mg W ma) (rB X.K X.mg W mb) σ H Q := fun σ H Q ⟨env, Fs, R, o⟩ =>
  ⟨env, Fs, R, o.bnd.mono (fun x _ ox vx F H1 s1 rx _ => ⟨env, Fs, R.same s1, ox.bnd.mono (fun y _ oy vy G H2 s2 ry _ => hs x y vx vy F G H2 Q _ (rx.same s2) ry (oy.mono (fun _ _ k => (k.later s1).later s2) fun _ _ z => z)) fun _ _ z => z.later s1⟩) fun _ _ z => z⟩
theorem pn_bin {op : Operator} {f : D → D → Res D} {r : R2} (ho : OpR X (binaryOp op) r) (hs : Snd X.K f r) (ha : PB X W a ma) (hb : PB X W b mb) : PN X W (.BinOp a op b pos) (eBin f ma mb) := (pe_op ho ha hb).imp (bin_imp hs)
theorem pn_cmp {op : CmpOp} {f : D → D → Res D} {r : R2} (ho : OpR X (compareOp op) r) (hs : Snd X.K f r) (ha : PB X W a ma) (hb : PB X W b mb) (hm : behindInMarks op b = false) : PN X W (.Compare a [op] [b] pos) (eBin f ma mb) := (pe_cmpR ho ha hb hm).imp (bin_imp hs)
theorem pn_un {op : UnaryOp} {f : D → Res D} {r : V → Hp → VK → Prop} (ho : UnR X (unaryOp op) r) (hs : Snd1 X.K f r) (ha : PB X W a ma) : PN X W (.UnaryOp op a pos) (eUn f ma) := (pe_un ho ha).imp fun σ H Q ⟨env, Fs, R, o⟩ =>
  ⟨env, Fs, R, o.bnd.mono (fun x _ ox vx F H1 s1 rx _ => hs x vx F H1 Q _ rx (ox.mono (fun _ _ k => k.later s1) fun _ _ z => z)) fun _ _ z => z⟩

/-! ### tests -/
def rT (K : PySem.W.Frag) (mg : Str → Option Value) (W : WX) (m : E) : TT := fun σ H Q => ∃ env Fs, Rdl K H σ env Fs ∧ Outc (m env) (fun d => ∃ k, d = .fz (.bl k) ∧ ∀ H', Same H H' → Q k H') (ER K mg W σ H)
abbrev PTT (X : Cx) (W : WX) (e : Expr) (m : E) : Prop := PT X e (rT X.K X.mg W m)
theorem kb_bool {K : PySem.W.Frag} {H : Hp} {Fs : Nat → List Addr} {Q : Bool → Hp → Prop} {d : D} (h : ∃ k, d = .fz (.bl k) ∧ ∀ H', Same H H' → Q k H') : KB K H Fs (fun x H1 => ∃ c, x = .bl c ∧ Q c H1) d := by
  obtain ⟨k, rfl, q⟩ := h
  intro v F H' s ⟨rf, _⟩ _
  exact ⟨k, rf, q H' s⟩
theorem kn_bool {K : PySem.W.Frag} {H : Hp} {Q : Bool → Hp → Prop} {d : D} (h : ∃ k, d = .fz (.bl k) ∧ ∀ H', Same H H' → Q k H') : KN K H (fun x H1 => ∃ c, x = .bl c ∧ Q c H1) d := by
  obtain ⟨k, rfl, q⟩ := h
  intro v F H' s ⟨rf, _⟩ _ _
  exact ⟨k, rf, q H' s⟩
/-- a value as a test -/
theorem pt_b (h : PB X W e m) (he : ∀ whole, isTrue e X.env whole = (do let v ← whole; standAt e.pos; holding [v] (truthy v)) := by intro _; rfl) : PTT X W e m := (pt_val h he).imp fun σ H Q ⟨env, Fs, R, o⟩ => ⟨env, Fs, R, o.mono (fun _ _ k => kb_bool k) fun _ _ z => z⟩
theorem pt_cm {op : CmpOp} {f : D → D → Res D} {r : R2} (ho : OpR X (compareOp op) r) (hs : Snd X.K f r) (ha : PB X W a ma) (hb : PB X W b mb) (hm : behindInMarks op b = false) : PTT X W (.Compare a [op] [b] pos) (eBin f ma mb) := (pt_cmpR ho ha hb hm).imp fun σ H Q ⟨env, Fs, R, o⟩ =>
  bin_imp hs σ H _ ⟨env, Fs, R, o.mono (fun _ _ k => kn_bool k) fun _ _ z => z⟩
theorem outc_bool {env : Env} {m : E} {ok : Bool → Prop} {er : Str → List (Str × FD) → Prop} (h : Outc ((m env).bind fun x => x.bool?.bind fun k => Res.ok k) ok er) : Outc (m env) (fun d => ∃ k, d = .fz (.bl k) ∧ ok k) er :=
  h.bnd.mono (fun d _ k => by obtain ⟨k, e, q⟩ := Outc.bool k.bnd; exact ⟨k, e, q⟩) fun _ _ z => z
theorem and_imp : ∀ σ H Q, rT X.K X.mg W (eAnd ma mb) σ H Q → tAnd (rT X.K X.mg W ma) (rT X.K X.mg W mb) σ H Q := fun σ H Q ⟨env, Fs, R, o⟩ => by
  refine ⟨env, Fs, R, o.bnd.mono (fun d _ k => ?_) fun _ _ z => z⟩
  obtain ⟨k, e, q⟩ := Outc.bool k.bnd
  refine ⟨k, e, fun H1 s1 => ?_⟩
  cases k with
  | true =>
    exact ⟨env, Fs, R.same s1, Outc.mono q (fun d _ ⟨c, e, z⟩ => ⟨c, e, fun H2 s2 => z H2 (s1.trans s2)⟩) fun _ _ z => z.later s1⟩
  | false =>
    obtain ⟨c, e, z⟩ := q
    cases e
    exact z H1 s1
theorem or_imp : ∀ σ H Q, rT X.K X.mg W (eOr ma mb) σ H Q → tOr (rT X.K X.mg W ma) (rT X.K X.mg W mb) σ H Q := fun σ H Q ⟨env, Fs, R, o⟩ => by
  refine ⟨env, Fs, R, o.bnd.mono (fun d _ k => ?_) fun _ _ z => z⟩
  obtain ⟨k, e, q⟩ := Outc.bool k.bnd
  refine ⟨k, e, fun H1 s1 => ?_⟩
  cases k with
  | false =>
    exact ⟨env, Fs, R.same s1, Outc.mono q (fun d _ ⟨c, e, z⟩ => ⟨c, e, fun H2 s2 => z H2 (s1.trans s2)⟩) fun _ _ z => z.later s1⟩
  | true =>
    obtain ⟨c, e, z⟩ := q
    cases e
    exact z H1 s1
abbrev PWW (X : Cx) (W : WX) (e : Expr) (m : E) : Prop := PW X e (rT X.K X.mg W m)
theorem pwAnd1 (h : PTT X W a ma) : PWW X W (.BoolOp .And [a] pos) ma := pw_and1 h
theorem pwOr1 (h : PTT X W a ma) : PWW X W (.BoolOp .Or [a] pos) ma := pw_or1 h
theorem pwAnd {rest : List Expr} (h : PTT X W a ma) (h2 : PWW X W (.BoolOp .And (b :: rest) pos) mb) : PWW X W (.BoolOp .And (a :: b :: rest) pos) (eAnd ma mb) := (pw_and h h2).imp and_imp
theorem pwOr {rest : List Expr} (h : PTT X W a ma) (h2 : PWW X W (.BoolOp .Or (b :: rest) pos) mb) : PWW X W (.BoolOp .Or (a :: b :: rest) pos) (eOr ma mb) := (pw_or h h2).imp or_imp
theorem ptW (h : PWW X W e m) : PTT X W e m := h.pt
theorem ptNot (h : PTT X W a ma) : PTT X W (.UnaryOp .Not a pos) (eNot ma) := (pt_not h).imp fun σ H Q ⟨env, Fs, R, o⟩ => ⟨env, Fs, R, o.bnd.mono (fun d _ k => by
    obtain ⟨k, e, q⟩ := Outc.bool k.bnd
    obtain ⟨c, e2, z⟩ := q
    cases e2
    exact ⟨k, e, fun H1 s1 => z H1 s1⟩) fun _ _ z => z⟩

/-! ### bools as values -/
theorem pnNot (h : PB X W a ma) : PN X W (.UnaryOp .Not a pos) (eNot ma) := (pe_not h).imp fun σ H Q ⟨env, Fs, R, o⟩ => ⟨env, Fs, R, o.bnd.mono (fun d _ k => by
    obtain ⟨kk, rfl, q⟩ := Outc.bool k.bnd
    intro v F H' s ⟨rf, _⟩ _
    exact ⟨kk, rf, KN.fz' (show KN X.K H Q (.fz (.bl (!kk))) from q) s rfl⟩) fun _ _ z => z⟩
theorem pbOne {op : BoolOp} (h : PB X W a ma) : PB X W (.BoolOp op [a] pos) ma := pe_one h
theorem pbAnd {rest : List Expr} (h : PB X W a ma) (h2 : PB X W (.BoolOp .And (b :: rest) pos) mb) : PB X W (.BoolOp .And (a :: b :: rest) pos) (eAnd ma mb) := (pe_and h h2).imp fun σ H Q ⟨env, Fs, R, o⟩ => ⟨env, Fs, R, o.bnd.mono (fun d _ k => by
    obtain ⟨kk, rfl, q⟩ := Outc.bool k.bnd
    intro v F H' s ⟨rf, _⟩ _
    refine ⟨kk, rf, ?_⟩
    cases kk with
    | true => exact ⟨env, Fs, R.same s, Outc.mono q (fun _ _ k => k.later s) fun _ _ z => z.later s⟩
    | false => exact KN.fz' (show KN X.K H Q (.fz (.bl false)) from KB.kn (Fs := Fs) q) s rfl) fun _ _ z => z⟩
theorem pbOr {rest : List Expr} (h : PB X W a ma) (h2 : PB X W (.BoolOp .Or (b :: rest) pos) mb) : PB X W (.BoolOp .Or (a :: b :: rest) pos) (eOr ma mb) := (pe_or h h2).imp fun σ H Q ⟨env, Fs, R, o⟩ => ⟨env, Fs, R, o.bnd.mono (fun d _ k => by
    obtain ⟨kk, rfl, q⟩ := Outc.bool k.bnd
    intro v F H' s ⟨rf, _⟩ _
    refine ⟨kk, rf, ?_⟩
    cases kk with
    | false => exact ⟨env, Fs, R.same s, Outc.mono q (fun _ _ k => k.later s) fun _ _ z => z.later s⟩
    | true => exact KN.fz' (show KN X.K H Q (.fz (.bl true)) from KB.kn (Fs := Fs) q) s rfl) fun _ _ z => z⟩
theorem if_imp {ta tb : TE} {mc : E} (h1 : ∀ σ H Q env Fs, Rdl X.K H σ env Fs → Outc (ma env) (KN X.K H Q) (ER X.K X.mg W σ H) → ta σ H Q) (h2 : ∀ σ H Q env Fs, Rdl X.K H σ env Fs → Outc (mb env) (KN X.K H Q) (ER X.K X.mg W σ H) → tb σ H Q) :
    ∀ σ H Q, rN X.K X.mg W (eIf mc ma mb) σ H Q → tIf (rT X.K X.mg W mc) ta tb σ H Q := fun σ H Q ⟨env, Fs, R, o⟩ => by
  refine ⟨env, Fs, R, o.bnd.mono (fun d _ k => ?_) fun _ _ z => z⟩
  obtain ⟨k, e, q⟩ := Outc.bool k.bnd
  refine ⟨k, e, fun H1 s1 => ?_⟩
  cases k with
  | true => exact h1 σ H1 Q env Fs (R.same s1) (Outc.mono q (fun _ _ k => k.later s1) fun _ _ z => z.later s1)
  | false => exact h2 σ H1 Q env Fs (R.same s1) (Outc.mono q (fun _ _ k => k.later s1) fun _ _ z => z.later s1)
theorem pnIf (hc : PTT X W c mc) (ha : PN X W a ma) (hb : PN X W b mb) : PN X W (.IfExp c a b pos) (eIf mc ma mb) := (pe_ifExp hc ha hb).imp (if_imp (fun σ H Q env Fs R o => ⟨env, Fs, R, o⟩) fun σ H Q env Fs R o => ⟨env, Fs, R, o⟩)
/-! a op b op' c -/
theorem chain_imp {f g : D → D → Res D} {r r' : R2} (hs : Snd X.K f r) (hs' : Snd X.K g r') : ∀ σ H Q, rN X.K X.mg W (eChain f g ma mb mc) σ H Q → tChain r r' (rB X.K X.mg W ma) (rB X.K X.mg W mb) (rB X.K X.mg W mc) σ H Q := fun σ H Q ⟨env, Fs, R, o⟩ =>
  ⟨env, Fs, R, o.bnd.mono (fun x _ ox vx F H1 s1 rx _ => ⟨env, Fs, R.same s1, ox.bnd.mono (fun y _ oy vy G H2 s2 ry _ => hs x y vx vy F G H2 _ _ (rx.same s2) ry (oy.bnd.mono (fun z _ oz v F' H3 s3 rz _ _ => by
    obtain ⟨k, rfl, q⟩ := Outc.bool oz.bnd
    obtain ⟨rf, _⟩ := rz
    refine ⟨k, rf, ?_⟩
    have s13 := (s1.trans s2).trans s3
    cases k with
    | true =>
      refine iteT ⟨env, Fs, R.same s13, (Outc.bnd q).mono (fun w _ ow vw G' H4 s4 rw _ => hs' y w vy vw G G' H4 Q _ ((ry.same s3).same s4) rw (ow.mono (fun _ _ k => k.later (s13.trans s4)) fun _ _ z => z)) fun _ _ z => z.later s13⟩
    | false => exact iteF (KN.fz' (show KN X.K H Q (.fz (.bl false)) from q) s13 rfl)) fun _ _ z => z)) fun _ _ z => z.later s1⟩) fun _ _ z => z⟩
theorem pnChain {op op' : CmpOp} {f g : D → D → Res D} {r r' : R2} (ho : OpR X (compareOp op) r) (ho' : OpR X (compareOp op') r') (hs : Snd X.K f r) (hs' : Snd X.K g r') (ha : PB X W a ma) (hb : PB X W b mb) (hc : PB X W c mc)
    (hm : lastMarks [op, op'] [b, c] = false := by with_unfolding_all rfl) : PN X W (.Compare a [op, op'] [b, c] pos) (eChain f g ma mb mc) := (pe_chain ho ho' ha hb hc hm).imp (chain_imp hs hs')
theorem ptChain {op op' : CmpOp} {f g : D → D → Res D} {r r' : R2} (ho : OpR X (compareOp op) r) (ho' : OpR X (compareOp op') r') (hs : Snd X.K f r) (hs' : Snd X.K g r') (ha : PB X W a ma) (hb : PB X W b mb) (hc : PB X W c mc)
    (hm : lastMarks [op, op'] [b, c] = false := by with_unfolding_all rfl) : PTT X W (.Compare a [op, op'] [b, c] pos) (eChain f g ma mb mc) := (pt_chain ho ho' ha hb hc hm).imp fun σ H Q ⟨env, Fs, R, o⟩ =>
  chain_imp hs hs' σ H _ ⟨env, Fs, R, o.mono (fun _ _ k => kn_bool k) fun _ _ z => z⟩

/-! ### argument lists, displays -/
def rAB (K : PySem.W.Frag) (mg : Str → Option Value) (W : WX) (m : Env → Res (List D)) : TA := fun σ H Q => ∃ env Fs, Rdl K H σ env Fs ∧ Outc (m env) (fun ds => ∀ vs G H', Same H H' → RDs K H' ds vs G → (∀ b ∈ G, (∃ i, b ∈ Fs i) ∨ H b = none) → Q vs H') (ER K mg W σ H)
def rAN (K : PySem.W.Frag) (mg : Str → Option Value) (W : WX) (m : Env → Res (List D)) : TA := fun σ H Q => ∃ env Fs, Rdl K H σ env Fs ∧ Outc (m env) (fun ds => ∀ vs G H', Same H H' → RDs K H' ds vs G → G.Nodup → (∀ b ∈ G, H b = none) → Q vs H') (ER K mg W σ H)
abbrev PAB (X : Cx) (W : WX) (es : List Expr) (ms : List E) : Prop := PA X es (rAB X.K X.mg W (eAll ms))
abbrev PAN (X : Cx) (W : WX) (es : List Expr) (ms : List E) : Prop := PA X es (rAN X.K X.mg W (eAll ms))
theorem pab_nil : PAB X W [] [] := pa_nil.imp fun σ H Q ⟨env, Fs, R, o⟩ => o [] [] H (Same.refl H) ⟨rfl, rfl⟩ fun b hb => by cases hb
theorem pan_nil : PAN X W [] [] := pa_nil.imp fun σ H Q ⟨env, Fs, R, o⟩ => o [] [] H (Same.refl H) ⟨rfl, rfl⟩ List.nodup_nil fun b hb => by cases hb
variable {es : List Expr} {ms : List E}
theorem pab_cons (h : PB X W e m) (hr : PAB X W es ms) (hs : starEach (e :: es) X.env = (false, eval e X.env) :: starEach es X.env := by rfl) : PAB X W (e :: es) (m :: ms) := (pa_cons h hr hs).imp fun σ H Q ⟨env, Fs, R, o⟩ =>
  ⟨env, Fs, R, o.bnd.mono (fun d _ od v F H1 s1 rd p1 => ⟨env, Fs, R.same s1, od.bnd.mono (fun ds _ ods vs G H2 s2 rds p2 => ods (v :: vs) (F ++ G) H2 (s1.trans s2) ⟨v, vs, F, G, rfl, rd.same s2, rds, rfl⟩ fun b hb => by
    rcases List.mem_append.mp hb with hb | hb
    · exact p1 b hb
    · exact (p2 b hb).imp id s1.free) fun _ _ z => z.later s1⟩) fun _ _ z => z⟩
theorem pan_cons (h : PN X W e m) (hr : PAN X W es ms) (hs : starEach (e :: es) X.env = (false, eval e X.env) :: starEach es X.env := by rfl) : PAN X W (e :: es) (m :: ms) := (pa_cons h hr hs).imp fun σ H Q ⟨env, Fs, R, o⟩ =>
  ⟨env, Fs, R, o.bnd.mono (fun d _ od v F H1 s1 rd n1 p1 => ⟨env, Fs, R.same s1, od.bnd.mono (fun ds _ ods vs G H2 s2 rds n2 p2 => ods (v :: vs) (F ++ G) H2 (s1.trans s2) ⟨v, vs, F, G, rfl, rd.same s2, rds, rfl⟩ (List.nodup_append.mpr ⟨n1, n2, fun x hx y hy e => by
      subst e
      obtain ⟨o, eo, _⟩ := rd.mut x hx
      rw [p2 x hy] at eo; cases eo⟩) fun b hb => by
    rcases List.mem_append.mp hb with hb | hb
    · exact p1 b hb
    · exact s1.free (p2 b hb)) fun _ _ z => z.later s1⟩) fun _ _ z => z⟩
theorem same_upd {H : Hp} {p : Addr} {o : HO} (h : H p = none) : Same H (upd H p o) := fun b x e => by
  rw [upd_ne (ne_of_none e h)]
  exact e
theorem RFs.same {K : PySem.W.Frag} {H H' : Hp} (s : Same H H') {f : List FD} {v : List V} (h : RFs K H f v) : RFs K H' f v := h.keep (F := fun _ => False) (.same s) noF
/-- a tuple just made of frozen things -/
theorem RF.new_tup {K : PySem.W.Frag} {H : Hp} {fs : List FD} {vs : List V} {p : Addr} (h : RFs K H fs vs) (n : H p = none) : RF K (upd H p (.tup vs)) (.tup fs) (.ref p) := ⟨p, vs, rfl, upd_same, h.same (same_upd n)⟩
theorem pn_tup {x1 : Nat} (h : PAB X W es ms) (hl : ms.length ≤ 1000) : PN X W (.Tuple es x1 pos) (eTup ms) := (pe_tup h).imp fun σ H Q ⟨env, Fs, R, o⟩ =>
  ⟨env, Fs, R, o.bnd.mono (fun ds eds od vs G H1 s1 rds _ => by
    obtain ⟨fs, efs, q⟩ := Outc.okOf od.bnd (allF_ne ds)
    obtain ⟨rf, _⟩ := rds.allF efs
    refine ⟨?_, fun p hp => KN.fz' (show KN X.K H Q (.fz (.tup fs)) from q) (s1.trans (same_upd hp)) (RF.new_tup rf hp)⟩
    rw [rds.length]
    have : ds.length = ms.length := eAll_length eds
    exact Nat.le_of_lt (small1000 (by omega))) fun _ _ z => z⟩
theorem RD.new_lst {K : PySem.W.Frag} {H : Hp} {ds : List D} {vs : List V} {G : List Addr} {p : Addr} (h : RDs K H ds vs G) (n : H p = none) : RD K (upd H p (.lst vs)) (.lst ds) (.ref p) (p :: G) := ⟨p, vs, G, rfl, upd_same, h.same (same_upd n), rfl⟩
theorem nodup_new {K : PySem.W.Frag} {H : Hp} {ds : List D} {vs : List V} {G : List Addr} {p : Addr} (h : RDs K H ds vs G) (n : H p = none) (g : G.Nodup) : (p :: G).Nodup := List.nodup_cons.mpr ⟨fun hm => by
  obtain ⟨o, eo, _⟩ := h.mut p hm
  rw [n] at eo
  exact absurd eo (by simp), g⟩
theorem pn_lst (h : PAN X W es ms) (hl : ms.length ≤ 1000) : PN X W (.List es pos) (eLst ms) := (pe_lst h).imp fun σ H Q ⟨env, Fs, R, o⟩ =>
  ⟨env, Fs, R, o.bnd.mono (fun ds eds od vs G H1 s1 rds nd p1 => by
    refine ⟨?_, fun p hp => od (.ref p) (p :: G) _ (s1.trans (same_upd hp)) (RD.new_lst rds hp) (nodup_new rds hp nd) fun b hb => ?_⟩
    · rw [rds.length]
      have : ds.length = ms.length := eAll_length eds
      exact Nat.le_of_lt (small1000 (by omega))
    · rcases List.mem_cons.mp hb with rfl | hb
      · exact s1.free hp
      · exact p1 b hb) fun _ _ z => z⟩
/-! ### built-in calls -/
def SndC (K : PySem.W.Frag) (f : List D → Res D) (r : List V → Hp → VK → Prop) : Prop := ∀ (ds : List D) (vs : List V) (G : List Addr) (H : Hp) (Q : VK) (er : Str → List (Str × FD) → Prop), RDs K H ds vs G → Outc (f ds) (KN K H Q) er → r vs H Q
theorem call_imp {f : List D → Res D} {r : List V → Hp → VK → Prop} (hs : SndC X.K f r) : ∀ σ H Q, rN X.K X.mg W (eCall f ms) σ H Q → tCB r (rAB X.K X.mg W (eAll ms)) σ H Q := fun σ H Q ⟨env, Fs, R, o⟩ =>
  ⟨env, Fs, R, o.bnd.mono (fun ds _ od vs G H1 s1 rds _ => hs ds vs G H1 Q _ rds (od.mono (fun _ _ k => k.later s1) fun _ _ z => z)) fun _ _ z => z⟩
theorem pn_callB {x : Str} {p : Pos} {id : String} {f : List D → Res D} {r : List V → Hp → VK → Prop} (hc : CallR X (.builtin id) r) (hs : SndC X.K f r) (hg : Gl X x) (hm : X.mg x = none) (hv : bootBuiltins x = some (.builtin id)) (ha : PAB X W (e :: es) ms)
    (hn : x ≠ "__name__" := by decide) (hdb : (x == ("__debug__" : Str)) = false := by decide)
    (he : starEach (e :: es) X.env = (false, eval e X.env) :: starEach es X.env := by rfl) (hpl : (backTo pos (starEach es X.env)).any (·.1) = false := by rfl) : PN X W (.Call (.Name x p) (e :: es) [] pos) (eCall f ms) := (pe_callB hc hg hm hv ha hn hdb he hpl).imp (call_imp hs)
theorem pn_callTy {x : Str} {p : Pos} {T : String} {f : List D → Res D} {r : List V → Hp → VK → Prop} (hc : CallR X (.type T) r) (hs : SndC X.K f r) (hg : Gl X x) (hm : X.mg x = none) (hv : bootBuiltins x = some (.type T)) (ha : PAB X W (e :: es) ms)
    (hn : x ≠ "__name__" := by decide) (hdb : (x == ("__debug__" : Str)) = false := by decide)
    (he : starEach (e :: es) X.env = (false, eval e X.env) :: starEach es X.env := by rfl) (hpl : (backTo pos (starEach es X.env)).any (·.1) = false := by rfl) : PN X W (.Call (.Name x p) (e :: es) [] pos) (eCall f ms) := (pe_callTy hc hg hm hv ha hn hdb he hpl).imp (call_imp hs)
/-! ### calls of defs -/
/-- the promise of a def that changes nothing -/
def spP (K : PySem.W.Frag) (mg : Str → Option Value) (m : List D → Res D) : Sp := fun vs H Q E => ∃ ds G, RDs K H ds vs G ∧ Outc (m ds) (KN K H Q) fun n fs => ∀ cls dd H', Same H H' → ErrAt K mg H' n fs cls dd → E cls dd H'
theorem pn_call {x : Str} {p : Pos} {k : Nat} {f : Addr} {fd : FuncData} {ps : List Str} {mf : List D → Res D} (F : FnOk X.prog X.w X.K X.mg X.base (L2.CX X.prog X.w) k f fd ps (spP X.K X.mg mf)) (hr : Room k X.A) (tk : Takes X W) (hg : Gl X x) (hm : X.mg x = some (.ref f))
    (hk : PySem.W.keepIn X.K (.ref f) = true) (hb : Binds X.K fd ps []) (ha : PAB X W (e :: es) ms) (hdb : (x == ("__debug__" : Str)) = false := by decide)
    (he : starEach (e :: es) X.env = (false, eval e X.env) :: starEach es X.env := by rfl) (hpl : (backTo pos (starEach es X.env)).any (·.1) = false := by rfl) : PN X W (.Call (.Name x p) (e :: es) [] pos) (eCall mf ms) :=
  (pe_callS F hr hg hm hk hb (fun σ => passAt tk σ) ha hdb he hpl).imp fun σ H Q ⟨env, Fs, R, o⟩ =>
    ⟨env, Fs, R, o.bnd.mono (fun ds _ od vs G H1 s1 rds _ => ⟨ds, G, rds, od.mono (fun _ _ k => k.later s1) fun _ _ z => z.later s1⟩) fun _ _ z => z⟩
end
end VL
set_option Elab.async false
set_option linter.all false
set_option maxRecDepth 100000
set_option maxHeartbeats 4000000
/-! VLO: operators, subscripts, built-in calls: what the layer's rules give of plain data. -/
namespace VL
open PySem L2
section
variable {K : PySem.W.Frag} {H : Hp}
/-! ### views -/
theorem RF.vInt {i : Int} {v : V} (h : RF K H (.int i) v) : v = .int i := h
theorem RF.sqt {fs : List FD} {v : V} (h : RF K H (.tup fs) v) : ∃ a vs, v = .ref a ∧ SqT K H a vs ∧ RFs K H fs vs := by
  obtain ⟨a, vs, e, h, r⟩ := h
  exact ⟨a, vs, e, .inl (.inl h), r⟩
theorem RFs.ints : ∀ {is : List Int} {vs : List V}, RFs K H (is.map FD.int) vs → vs = is.map V.int
  | [], _, h => h
  | i :: r, _, ⟨v, q, e, h, hr⟩ => by
    subst e
    have h' : v = .int i := h
    rw [h', RFs.ints hr]
    rfl
theorem RFs.bls : ∀ {is : List Bool} {vs : List V}, RFs K H (is.map FD.bl) vs → vs = is.map V.bl
  | [], _, h => h
  | i :: r, _, ⟨v, q, e, h, hr⟩ => by
    subst e
    have h' : v = .bl i := h
    rw [h', RFs.bls hr]
    rfl
theorem rfs_ints : ∀ (is : List Int), RFs K H (is.map FD.int) (is.map V.int)
  | [] => rfl
  | i :: r => ⟨.int i, r.map V.int, rfl, rfl, rfs_ints r⟩
/-! ### frozen data as the deep comparisons take it -/
mutual
def FD.py : FD → PyData
  | .non => .none
  | .bl b => .bool b
  | .int i => .int i
  | .str x => .str x
  | .tup xs => .tuple (pys xs)
  | .cup xs => .tuple (pys xs)
  | .scr ns => .list []
def pys : List FD → List PyData
  | [] => []
  | x :: r => x.py :: pys r
end
mutual
theorem py_dp : ∀ {f : FD} {v : V}, RF K H f v → f.okd = true → Dp K H v f.py
  | .non, _, h, _ => by cases h; exact .non
  | .bl b, _, h, _ => by cases h; exact .bl b
  | .int i, _, h, _ => by cases h; exact .int i
  | .str x, _, h, _ => by cases h; exact .str x
  | .tup xs, _, ⟨a, vs, e, h, r⟩, k => by subst e; exact .tup (.inl (.inl h)) (pys_dp r k)
  | .cup xs, _, ⟨a, vs, e, h, r⟩, k => by subst e; exact .tup h (pys_dp r k)
  | .scr ns, _, _, k => by cases k
theorem pys_dp : ∀ {fs : List FD} {vs : List V}, RFs K H fs vs → okds fs = true → DpAll K H vs (pys fs)
  | [], _, h, _ => by cases h; exact .nil
  | f :: r, _, ⟨v, q, e, h, hr⟩, k => by
    subst e
    obtain ⟨k1, k2⟩ := Bool.and_eq_true_iff.mp k
    exact .cons (py_dp h k1) (pys_dp hr k2)
end
mutual
theorem py_lay : ∀ (f : FD), f.okd = true → f.py.canLay0 = true
  | .non, _ => rfl
  | .bl _, _ => rfl
  | .int _, _ => rfl
  | .str x, k => k
  | .tup xs, k => pys_lay xs k
  | .cup xs, k => pys_lay xs k
  | .scr ns, k => by cases k
theorem pys_lay : ∀ (fs : List FD), okds fs = true → PyData.canLayAll0 (pys fs) = true
  | [], _ => rfl
  | f :: r, k => by
    obtain ⟨k1, k2⟩ := Bool.and_eq_true_iff.mp k
    exact Bool.and_eq_true_iff.mpr ⟨py_lay f k1, pys_lay r k2⟩
end
mutual
theorem py_depth : ∀ (f : FD), f.okd = true → f.py.depth = f.depth
  | .non, _ => rfl
  | .bl _, _ => rfl
  | .int _, _ => rfl
  | .str x, k => rfl
  | .tup xs, k => congrArg (· + 1) (pys_depth xs k)
  | .cup xs, k => congrArg (· + 1) (pys_depth xs k)
  | .scr ns, k => by cases k
theorem pys_depth : ∀ (fs : List FD), okds fs = true → PyData.depthAll (pys fs) = depths fs
  | [], _ => rfl
  | f :: r, k => by
    obtain ⟨k1, k2⟩ := Bool.and_eq_true_iff.mp k
    show max f.py.depth (PyData.depthAll (pys r)) = max f.depth (depths r)
    rw [py_depth f k1, pys_depth r k2]
end
theorem py_shaped {f : FD} (h : f.okq = true) : f.okd = true ∧ SeqAt.shaped f.py = true := by
  obtain ⟨k1, k2⟩ := Bool.and_eq_true_iff.mp h
  have d := of_decide_eq_true k2
  refine ⟨k1, Bool.and_eq_true_iff.mpr ⟨py_lay f k1, decide_eq_true ?_⟩⟩
  rw [py_depth f k1]
  omega
theorem pys_shaped {fs : List FD} (h : okqs fs = true) : okds fs = true ∧ SeqAt.shaped (.list (pys fs)) = true ∧ SeqAt.shaped (.tuple (pys fs)) = true := by
  obtain ⟨k1, k2⟩ := Bool.and_eq_true_iff.mp h
  have d := of_decide_eq_true k2
  have e : PyData.depthAll (pys fs) + 1 ≤ 64 := by
    rw [pys_depth fs k1]
    omega
  exact ⟨k1, Bool.and_eq_true_iff.mpr ⟨pys_lay fs k1, decide_eq_true e⟩, Bool.and_eq_true_iff.mpr ⟨pys_lay fs k1, decide_eq_true e⟩⟩
theorem beq_dec {x y : Str} : decide (x = y) = (x == y) := by
  by_cases e : x = y
  · subst e; simp
  · rw [decide_eq_false e]
    exact (beq_eq_false_iff_ne.mpr e).symm
mutual
theorem py_eqv : ∀ (f g : FD), f.okd = true → g.okd = true → PyData.eqv f.py g.py = pyEq f g
  | .scr _, _, k, _ => by cases k
  | _, .scr _, _, k => by cases k
  | .non, g, _, _ => by cases g <;> rfl
  | .bl b, g, _, _ => by cases g <;> rfl
  | .int i, g, _, _ => by cases g <;> rfl
  | .str x, g, _, _ => by
    cases g with
    | str y => exact (beq_dec (x := x) (y := y)).symm
    | _ => rfl
  | .tup xs, g, k, k' => by
    cases g with
    | tup ys => exact pys_eqv xs ys k k'
    | cup ys => exact pys_eqv xs ys k k'
    | _ => rfl
  | .cup xs, g, k, k' => by
    cases g with
    | tup ys => exact pys_eqv xs ys k k'
    | cup ys => exact pys_eqv xs ys k k'
    | _ => rfl
theorem pys_eqv : ∀ (fs gs : List FD), okds fs = true → okds gs = true → PyData.eqvAll (pys fs) (pys gs) = pyEqs fs gs
  | [], [], _, _ => rfl
  | [], _ :: _, _, _ => rfl
  | _ :: _, [], _, _ => rfl
  | f :: r, g :: q, k, k' => by
    obtain ⟨k1, k2⟩ := Bool.and_eq_true_iff.mp k
    obtain ⟨k3, k4⟩ := Bool.and_eq_true_iff.mp k'
    show (PyData.eqv f.py g.py && PyData.eqvAll (pys r) (pys q)) = (pyEq f g && pyEqs r q)
    rw [py_eqv f g k1 k3, pys_eqv r q k2 k4]
end
theorem pys_any : ∀ (fs : List FD) (g : FD), okds fs = true → g.okd = true → ((pys fs).any fun z => PyData.eqv z g.py) = fs.any fun z => pyEq z g
  | [], _, _, _ => rfl
  | f :: r, g, k, k' => by
    obtain ⟨k1, k2⟩ := Bool.and_eq_true_iff.mp k
    show (PyData.eqv f.py g.py || (pys r).any fun z => PyData.eqv z g.py) = (pyEq f g || r.any fun z => pyEq z g)
    rw [py_eqv f g k1 k', pys_any r g k2 k']

/-! ### arithmetic -/
section
variable {X : Cx}
def rAddA (K : PySem.W.Frag) : R2 := fun x y H Q => (rI0 (fun i j => .int (i + j)) x y H Q ∨ (∃ i j, x = .str i ∧ y = .str j ∧ i.length + j.length ≤ sizeLine ∧ Q (.str (i ++ j)) H)) ∨ rCatA K x y H Q ∨ rCat x y H Q
theorem o_add : OpR X (binaryOp .Add) (rAddA X.K) := (op_add.or op_add_str).or (op_catA.or op_cat)
theorem o_addI : OpR X (inplaceOp .Add) (fun x y H Q => rI0 (fun i j => .int (i + j)) x y H Q ∨ (∃ i j, x = .str i ∧ y = .str j ∧ i.length + j.length ≤ sizeLine ∧ Q (.str (i ++ j)) H)) := iop_add.or iop_add_str
end
theorem sAdd_tup {x y : List FD} {vx vy : V} {Q : VK} (hx : ∃ a vs, vx = .ref a ∧ SqT K H a vs ∧ RFs K H x vs) (hy : ∃ a vs, vy = .ref a ∧ SqT K H a vs ∧ RFs K H y vs) (hz : x.length + y.length ≤ 16777216)
    (h1 : x = [] → RF K H (.tup y) vy) (h2 : y = [] → RF K H (.tup x) vx) (k : KN K H Q (.fz (.tup (x ++ y)))) : rCatA K vx vy H Q := by
  obtain ⟨a, xs, rfl, ha, rx⟩ := hx
  obtain ⟨b, ys, rfl, hb, ry⟩ := hy
  have lx := rx.length
  have ly := ry.length
  refine ⟨a, b, xs, ys, rfl, rfl, ha, hb, by rw [sizeLine_eq]; omega, fun e => ?_, fun _ e => ?_, fun _ _ p hp => k.fz' (same_upd hp) (RF.new_tup (RFs.append rx ry) hp)⟩
  · have e0 : x = [] := by
      rw [e] at lx
      exact List.length_eq_zero_iff.mp lx.symm
    rw [e0, List.nil_append] at k
    exact k.fz (h1 e0)
  · have e0 : y = [] := by
      rw [e] at ly
      exact List.length_eq_zero_iff.mp ly.symm
    rw [e0, List.append_nil] at k
    exact k.fz (h2 e0)
theorem RDs.mapfz {fs : List FD} {vs : List V} (h : RFs K H fs vs) : RDs K H (fs.map D.fz) vs [] := h.rds
/-- a new list of frozen things -/
theorem KN.newL {Q : VK} {fs : List FD} {vs : List V} {p : Addr} (k : KN K H Q (.lst (fs.map D.fz))) (h : RFs K H fs vs) (hp : H p = none) : Q (.ref p) (upd H p (.lst vs)) :=
  k (.ref p) [p] _ (same_upd hp) (RD.new_lst h.rds hp) (List.nodup_cons.mpr ⟨by simp, List.nodup_nil⟩) fun b hb => by rw [List.mem_singleton.mp hb]; exact hp
theorem sAdd : Snd K oAdd (rAddA K) := by
  intro x y vx vy F G H Q er hx hy o
  cases x with
  | fz f =>
    cases y with
    | fz g =>
      obtain ⟨hf, _⟩ := hx
      obtain ⟨hg, _⟩ := hy
      cases f <;> cases g <;> try exact o.elim
      case int.int i j => exact .inl (.inl ⟨i, j, hf, hg, KN.fz (show KN K H Q (.fz (.int (i + j))) from o) rfl⟩)
      case str.str i j =>
        obtain ⟨z, o⟩ := Outc.need o
        exact .inl (.inr ⟨i, j, hf, hg, by rw [sizeLine_eq]; exact z, KN.fz (show KN K H Q (.fz (.str (i ++ j))) from o) rfl⟩)
      case tup.tup i j =>
        obtain ⟨z, o⟩ := Outc.need o
        exact .inr (.inl (sAdd_tup hf.sqt hg.sqt z (fun _ => hg) (fun _ => hf) o))
      case tup.cup i j =>
        obtain ⟨⟨z1, z2, z⟩, o⟩ := Outc.need o
        exact .inr (.inl (sAdd_tup hf.sqt hg z (fun e => by subst e; cases z1) (fun _ => hf) o))
      case cup.tup i j =>
        obtain ⟨⟨z1, z2, z⟩, o⟩ := Outc.need o
        exact .inr (.inl (sAdd_tup hf hg.sqt z (fun _ => hg) (fun e => by subst e; cases z2) o))
    | _ => cases f <;> exact o.elim
  | lst xs =>
    cases y with
    | lst ys =>
      obtain ⟨fs, ef, o⟩ := Outc.okOf o.bnd (allF_ne xs)
      obtain ⟨gs, eg, o⟩ := Outc.okOf o.bnd (allF_ne ys)
      obtain ⟨z, o⟩ := Outc.need o
      obtain ⟨a, vs, F1, rfl, ha, rx, _⟩ := hx
      obtain ⟨b, ws, G1, rfl, hb, ry, _⟩ := hy
      have lx := rx.length
      have ly := ry.length
      exact .inr (.inr ⟨a, b, vs, ws, rfl, rfl, ha, hb, by rw [sizeLine_eq]; omega, fun p hp => KN.newL o (RFs.append (rx.allF ef).1 (ry.allF eg).1) hp⟩)
    | fz f => cases f <;> exact o.elim
    | _ => exact o.elim
  | _ => exact o.elim
/-- two ints in, an int or a bool out -/
theorem snd_ints {f : D → D → Res D} {r : R2} (h : ∀ (i j : Int) (H : Hp) (Q : VK) (er : Str → List (Str × FD) → Prop), Outc (f (.fz (.int i)) (.fz (.int j))) (KN K H Q) er → r (.int i) (.int j) H Q)
    (n : ∀ x y, (∀ i j, ¬ (x = D.fz (.int i) ∧ y = D.fz (.int j))) → f x y = .bad) : Snd K f r := by
  intro x y vx vy F G H Q er hx hy o
  have no : ∀ {x y}, (∀ i j, ¬ (x = D.fz (.int i) ∧ y = D.fz (.int j))) → Outc (f x y) (KN K H Q) er → False := fun z o => by
    rw [n _ _ z] at o
    exact o
  cases x with
  | fz f =>
    cases f with
    | int i =>
      cases y with
      | fz g =>
        cases g with
        | int j =>
          have e1 : vx = .int i := hx.1
          have e2 : vy = .int j := hy.1
          subst e1 e2
          exact h i j H Q er o
        | _ => exact (no (fun i j z => by cases z.2) o).elim
      | _ => exact (no (fun i j z => by cases z.2) o).elim
    | _ => exact (no (fun i j z => by cases z.1) o).elim
  | _ => exact (no (fun i j z => by cases z.1) o).elim
theorem sSub : Snd K oSub (rI0 fun i j => .int (i - j)) := snd_ints (fun i j H Q er o => ⟨i, j, rfl, rfl, KN.fz (show KN K H Q (.fz (.int (i - j))) from o) rfl⟩) fun x y z => by
  unfold oSub; split
  · exact absurd ⟨rfl, rfl⟩ (z _ _)
  · rfl
theorem sMul : Snd K oMul (rI CMul fun i j => .int (i * j)) := snd_ints (fun i j H Q er o => by
    obtain ⟨z, o⟩ := Outc.need o
    exact ⟨i, j, rfl, rfl, z, KN.fz (show KN K H Q (.fz (.int (i * j))) from o) rfl⟩) fun x y z => by
  unfold oMul; split
  · exact absurd ⟨rfl, rfl⟩ (z _ _)
  · rfl
theorem sDiv : Snd K oDiv (rI CDivN fun i j => .int (i.fdiv j)) := snd_ints (fun i j H Q er o => by
    obtain ⟨z, o⟩ := Outc.need o
    exact ⟨i, j, rfl, rfl, z, KN.fz (show KN K H Q (.fz (.int (i.fdiv j))) from o) rfl⟩) fun x y z => by
  unfold oDiv; split
  · exact absurd ⟨rfl, rfl⟩ (z _ _)
  · rfl
theorem sMod : Snd K oMod (rI (fun _ j => j ≠ 0) fun i j => .int (i.fmod j)) := snd_ints (fun i j H Q er o => by
    obtain ⟨z, o⟩ := Outc.need o
    exact ⟨i, j, rfl, rfl, z, KN.fz (show KN K H Q (.fz (.int (i.fmod j))) from o) rfl⟩) fun x y z => by
  unfold oMod; split
  · exact absurd ⟨rfl, rfl⟩ (z _ _)
  · rfl
theorem sPow : Snd K oPow (rI CPow fun i j => .int (i ^ j.toNat)) := snd_ints (fun i j H Q er o => by
    obtain ⟨z, o⟩ := Outc.need o
    exact ⟨i, j, rfl, rfl, z, KN.fz (show KN K H Q (.fz (.int (i ^ j.toNat))) from o) rfl⟩) fun x y z => by
  unfold oPow; split
  · exact absurd ⟨rfl, rfl⟩ (z _ _)
  · rfl
theorem sShl : Snd K oShl (rI CPow fun i j => .int (i * 2 ^ j.toNat)) := snd_ints (fun i j H Q er o => by
    obtain ⟨z, o⟩ := Outc.need o
    exact ⟨i, j, rfl, rfl, z, KN.fz (show KN K H Q (.fz (.int (i * 2 ^ j.toNat))) from o) rfl⟩) fun x y z => by
  unfold oShl; split
  · exact absurd ⟨rfl, rfl⟩ (z _ _)
  · rfl
theorem sCmp {p : Int → Int → Bool} : Snd K (oCmp p) (rI0 fun i j => .bl (p i j)) := snd_ints (fun i j H Q er o => ⟨i, j, rfl, rfl, KN.fz (show KN K H Q (.fz (.bl (p i j))) from o) rfl⟩) fun x y z => by
  unfold oCmp; split
  · exact absurd ⟨rfl, rfl⟩ (z _ _)
  · rfl
theorem sNeg : Snd1 K oNeg (rU fun i => .int (-i)) := by
  intro x vx F H Q er hx o
  cases x with
  | fz f =>
    cases f with
    | int i => exact ⟨i, hx.1, KN.fz (show KN K H Q (.fz (.int (-i))) from o) rfl⟩
    | _ => exact o.elim
  | _ => exact o.elim
/-! ### order -/
theorem lex_eq : ∀ xs ys : List Int, lexLt xs ys = HT.lexLt xs ys
  | [], [] => rfl
  | [], _ :: _ => rfl
  | _ :: _, [] => rfl
  | x :: xs, y :: ys => by
    show (if x = y then lexLt xs ys else decide (x < y)) = (if x = y then HT.lexLt xs ys else decide (x < y))
    rw [lex_eq xs ys]
section
variable {X : Cx}
def rLtA (K : PySem.W.Frag) : R2 := fun x y H Q => rI0 (fun i j => .bl (decide (i < j))) x y H Q ∨ rLtT K x y H Q
theorem o_lt (hu : X.A.units < cLine) : OpR X (compareOp .Lt) (rLtA X.K) := op_lt.or (op_ltT hu)
end
theorem sLt : Snd K oLt (rLtA K) := by
  intro x y vx vy F G H Q er hx hy o
  have tt : ∀ {x y : List FD}, (∃ a vs, vx = .ref a ∧ SqT K H a vs ∧ RFs K H x vs) → (∃ a vs, vy = .ref a ∧ SqT K H a vs ∧ RFs K H y vs) → Outc ((ints? x).bind fun xs => (ints? y).bind fun ys => .ok (D.fz (.bl (lexLt xs ys)))) (KN K H Q) er → rLtA K vx vy H Q := fun {x y} hx hy o => by
    obtain ⟨is, e1, o⟩ := Outc.okOf o.bnd (ints_ne x)
    obtain ⟨js, e2, o⟩ := Outc.okOf o.bnd (ints_ne y)
    obtain ⟨a, xs, rfl, ha, rx⟩ := hx
    obtain ⟨b, ys, rfl, hb, ry⟩ := hy
    rw [ints_map e1] at rx
    rw [ints_map e2] at ry
    rw [rx.ints] at ha
    rw [ry.ints] at hb
    exact .inr ⟨a, b, is, js, rfl, rfl, ha, hb, by rw [← lex_eq]; exact KN.fz (show KN K H Q (.fz (.bl (lexLt is js))) from o) rfl⟩
  cases x with
  | fz f =>
    cases y with
    | fz g =>
      obtain ⟨hf, _⟩ := hx
      obtain ⟨hg, _⟩ := hy
      cases f <;> cases g <;> try exact o.elim
      case int.int i j => exact .inl ⟨i, j, hf, hg, KN.fz (show KN K H Q (.fz (.bl (decide (i < j)))) from o) rfl⟩
      case tup.tup i j => exact tt hf.sqt hg.sqt o
    | _ => cases f <;> exact o.elim
  | _ => exact o.elim
/-! ### == -/
section
variable {X : Cx}
def rEqA (K : PySem.W.Frag) : R2 := fun x y H Q => rEq x y H Q ∨ rEqD K x y H Q
def rNeA (K : PySem.W.Frag) : R2 := fun x y H Q => rNe x y H Q ∨ rNeD K x y H Q
theorem o_eq (hu : X.A.units + 64 < cLine) : OpR X (compareOp .Eq) (rEqA X.K) := op_eq.or (op_eqD hu)
theorem o_ne (hu : X.A.units + 64 < cLine) : OpR X (compareOp .NotEq) (rNeA X.K) := op_ne.or (op_neD hu)
end
theorem oEq_str {x y : Str} : oEq (.fz (.str x)) (.fz (.str y)) = .ok (.fz (.bl (decide (x = y)))) := rfl
theorem oNe_str {x y : Str} : oNe (.fz (.str x)) (.fz (.str y)) = .ok (.fz (.bl (!decide (x = y)))) := rfl
theorem oEq_gen {f g : FD} : (∃ x y, f = .str x ∧ g = .str y) ∨ oEq (.fz f) (.fz g) = need (f.okq = true ∧ g.okq = true) (.ok (.fz (.bl (pyEq f g)))) := by
  cases f <;> cases g <;> first | exact .inr rfl | exact .inl ⟨_, _, rfl, rfl⟩
theorem oNe_gen {f g : FD} : (∃ x y, f = .str x ∧ g = .str y) ∨ oNe (.fz f) (.fz g) = need (f.okq = true ∧ g.okq = true) (.ok (.fz (.bl (!pyEq f g)))) := by
  cases f <;> cases g <;> first | exact .inr rfl | exact .inl ⟨_, _, rfl, rfl⟩
theorem sEq : Snd K oEq (rEqA K) := by
  intro x y vx vy F G H Q er hx hy o
  cases x with
  | fz f =>
    cases y with
    | fz g =>
      obtain ⟨hf, _⟩ := hx
      obtain ⟨hg, _⟩ := hy
      rcases oEq_gen (f := f) (g := g) with ⟨x, y, rfl, rfl⟩ | e
      · have e1 : vx = .str x := hf
        have e2 : vy = .str y := hg
        subst e1 e2
        refine .inl ⟨rfl, ?_⟩
        have e : decide (V.str x = V.str y) = decide (x = y) := by simp
        rw [e]
        exact KN.fz (show KN K H Q (.fz (.bl (decide (x = y)))) from o) rfl
      · rw [e] at o
        obtain ⟨⟨k1, k2⟩, o⟩ := Outc.need o
        obtain ⟨o1, s1⟩ := py_shaped k1
        obtain ⟨o2, s2⟩ := py_shaped k2
        exact .inr ⟨f.py, g.py, py_dp hf o1, py_dp hg o2, s1, s2, by rw [py_eqv f g o1 o2]; exact KN.fz (show KN K H Q (.fz (.bl (pyEq f g))) from o) rfl⟩
    | _ => cases f <;> exact o.elim
  | _ => exact o.elim
theorem sNe : Snd K oNe (rNeA K) := by
  intro x y vx vy F G H Q er hx hy o
  cases x with
  | fz f =>
    cases y with
    | fz g =>
      obtain ⟨hf, _⟩ := hx
      obtain ⟨hg, _⟩ := hy
      rcases oNe_gen (f := f) (g := g) with ⟨x, y, rfl, rfl⟩ | e
      · have e1 : vx = .str x := hf
        have e2 : vy = .str y := hg
        subst e1 e2
        refine .inl ⟨rfl, ?_⟩
        have e : decide (V.str x = V.str y) = decide (x = y) := by simp
        rw [e]
        exact KN.fz (show KN K H Q (.fz (.bl (!decide (x = y)))) from o) rfl
      · rw [e] at o
        obtain ⟨⟨k1, k2⟩, o⟩ := Outc.need o
        obtain ⟨o1, s1⟩ := py_shaped k1
        obtain ⟨o2, s2⟩ := py_shaped k2
        exact .inr ⟨f.py, g.py, py_dp hf o1, py_dp hg o2, s1, s2, by rw [py_eqv f g o1 o2]; exact KN.fz (show KN K H Q (.fz (.bl (!pyEq f g))) from o) rfl⟩
    | _ => cases f <;> exact o.elim
  | _ => exact o.elim
/-! ### is None -/
theorem isN_of {d : D} {v : V} {F : List Addr} (h : RD K H d v F) : oIsN d = .ok (.fz (.bl (decide (v = .non)))) ∧ oNotN d = .ok (.fz (.bl (!decide (v = .non)))) := by
  cases d with
  | fz f =>
    obtain ⟨h, _⟩ := h
    cases f with
    | non => cases h; exact ⟨rfl, rfl⟩
    | bl b => cases h; exact ⟨rfl, rfl⟩
    | int b => cases h; exact ⟨rfl, rfl⟩
    | str b => cases h; exact ⟨rfl, rfl⟩
    | tup b => obtain ⟨a, vs, rfl, _⟩ := h; exact ⟨rfl, rfl⟩
    | cup b => obtain ⟨a, vs, rfl, _⟩ := h; exact ⟨rfl, rfl⟩
    | scr b => obtain ⟨a, rfl, _⟩ := h; exact ⟨rfl, rfl⟩
  | lst ds => obtain ⟨a, vs, G, rfl, _⟩ := h; exact ⟨rfl, rfl⟩
  | mtup ds => obtain ⟨a, vs, rfl, _⟩ := h; exact ⟨rfl, rfl⟩
  | dic ds => obtain ⟨a, vs, G, rfl, _⟩ := h; exact ⟨rfl, rfl⟩
  | dit ds => obtain ⟨a, vs, G, rfl, _⟩ := h; exact ⟨rfl, rfl⟩
section
variable {X : Cx} {W : WX} {a : Expr} {ma : E} {pos pos' : Pos} {j : Nat}
theorem pn_isN (h : PB X W a ma) : PN X W (.Compare a [.Is] [.Constant .none j pos'] pos) (eUn oIsN ma) := (pe_cmp (pc_isN h) rfl).imp fun σ H Q ⟨env, Fs, R, o⟩ =>
  ⟨env, Fs, R, o.bnd.mono (fun d _ k v F H' s rd _ => by
    rw [(isN_of rd).1] at k
    exact KN.fz' (show KN X.K H Q (.fz (.bl (decide (v = .non)))) from k) s rfl) fun _ _ z => z⟩
theorem pn_notN (h : PB X W a ma) : PN X W (.Compare a [.IsNot] [.Constant .none j pos'] pos) (eUn oNotN ma) := (pe_cmp (pc_notN h) rfl).imp fun σ H Q ⟨env, Fs, R, o⟩ =>
  ⟨env, Fs, R, o.bnd.mono (fun d _ k v F H' s rd _ => by
    rw [(isN_of rd).2] at k
    exact KN.fz' (show KN X.K H Q (.fz (.bl (!decide (v = .non)))) from k) s rfl) fun _ _ z => z⟩
theorem pt_isN (h : PB X W a ma) : PTT X W (.Compare a [.Is] [.Constant .none j pos'] pos) (eUn oIsN ma) := (pt_cmp (pc_isN h) rfl).imp fun σ H Q ⟨env, Fs, R, o⟩ =>
  ⟨env, Fs, R, o.bnd.mono (fun d _ k v F H' s rd _ => by
    rw [(isN_of rd).1] at k
    obtain ⟨c, e, q⟩ := k
    cases e
    exact ⟨_, rfl, q H' s⟩) fun _ _ z => z⟩
theorem pt_notN (h : PB X W a ma) : PTT X W (.Compare a [.IsNot] [.Constant .none j pos'] pos) (eUn oNotN ma) := (pt_cmp (pc_notN h) rfl).imp fun σ H Q ⟨env, Fs, R, o⟩ =>
  ⟨env, Fs, R, o.bnd.mono (fun d _ k v F H' s rd _ => by
    rw [(isN_of rd).2] at k
    obtain ⟨c, e, q⟩ := k
    cases e
    exact ⟨_, rfl, q H' s⟩) fun _ _ z => z⟩
end
/-! ### in -/
section
variable {X : Cx}
def rInT (K : PySem.W.Frag) (neg : Bool) : R2 := fun x y H Q => ∃ d ds, Dp K H x d ∧ Dp K H y (.tuple ds) ∧ SeqAt.shaped d = true ∧ SeqAt.shaped (.tuple ds) = true ∧ Q (.bl (if neg then !(ds.any fun z => PyData.eqv z d) else ds.any fun z => PyData.eqv z d)) H
theorem o_inT (hu : X.A.units + 65 < cLine) : OpR X (compareOp .In) (rInT X.K false) := by
  intro pins s σ H x y v u Q I rx ry h
  obtain ⟨d, ds, hd, he, sd, se, q⟩ := h
  obtain ⟨as, r1⟩ := Dp.reads I d x v hd rx
  obtain ⟨bs, r2⟩ := Dp.reads I (.tuple ds) y u he ry
  exact SeqAt.in_tuple_reads r2 r1 (SeqAt.canLay_of_shaped se) (SeqAt.canLay_of_shaped sd) (PyProof.Rows.room_in_shaped sd hu) ⟨.bl _, H, I, rfl, q⟩
theorem o_notInT (hu : X.A.units + 65 < cLine) : OpR X (compareOp .NotIn) (rInT X.K true) := by
  intro pins s σ H x y v u Q I rx ry h
  obtain ⟨d, ds, hd, he, sd, se, q⟩ := h
  obtain ⟨as, r1⟩ := Dp.reads I d x v hd rx
  obtain ⟨bs, r2⟩ := Dp.reads I (.tuple ds) y u he ry
  exact SeqAt.notIn_tuple_reads r2 r1 (SeqAt.canLay_of_shaped se) (SeqAt.canLay_of_shaped sd) (PyProof.Rows.room_in_shaped sd hu) ⟨.bl _, H, I, rfl, q⟩
def rInK (neg : Bool) : R2 := fun y x H Q => ∃ a o, x = .ref a ∧ DGet H a y o ∧ Q (.bl (if neg then !o.isSome else o.isSome)) H
theorem o_inK (hu : X.A.units + 1 < cLine) : OpR X (compareOp .In) (rInK false) := by
  intro pins s σ H y x iv u Q I ry rx h
  obtain ⟨a, ov, rfl, g, q⟩ := h
  obtain rfl : u = Value.ref a := rx
  exact d_in hu I g ry fun s3 I3 => ⟨.bl ov.isSome, H, I3, rfl, q⟩
theorem o_notInK (hu : X.A.units + 1 < cLine) : OpR X (compareOp .NotIn) (rInK true) := by
  intro pins s σ H y x iv u Q I ry rx h
  obtain ⟨a, ov, rfl, g, q⟩ := h
  obtain rfl : u = Value.ref a := rx
  exact d_notIn hu I g ry fun s3 I3 => ⟨.bl (!ov.isSome), H, I3, rfl, q⟩
def rInA (K : PySem.W.Frag) : R2 := fun x y H Q => rInD K x y H Q ∨ rInT K false x y H Q ∨ rInK false x y H Q
def rNotInA (K : PySem.W.Frag) : R2 := fun x y H Q => rNotInD K x y H Q ∨ rInT K true x y H Q ∨ rInK true x y H Q
theorem o_in (hu : X.A.units + 65 < cLine) : OpR X (compareOp .In) (rInA X.K) := (op_inD hu).or ((o_inT hu).or (o_inK (by omega)))
theorem o_notIn (hu : X.A.units + 65 < cLine) : OpR X (compareOp .NotIn) (rNotInA X.K) := (op_notInD hu).or ((o_notInT hu).or (o_notInK (by omega)))
end
theorem key_rf {f : FD} {k : VL.Key} {v : V} (h : RF K H f v) (e : f.key? = .ok k) : v = kV k := by
  cases f with
  | int i => cases e; exact h
  | str x => cases e; exact h
  | _ => cases e
theorem keys_rf : ∀ {fs : List FD} {ks : List VL.Key} {vs : List V}, RFs K H fs vs → keys? fs = .ok ks → vs = ks.map kV
  | [], _, _, h, e => by cases e; exact h
  | f :: r, _, _, ⟨v, q, ev, h, hr⟩, e => by
    obtain ⟨k, e1, e⟩ := bind_eq_ok e
    obtain ⟨ks, e2, e⟩ := bind_eq_ok e
    cases e
    subst ev
    rw [key_rf h e1, keys_rf hr e2]
    rfl
theorem tkey_rf {f : FD} {k : List VL.Key} {v : V} (h : RF K H f v) (e : f.tkey? = .ok k) : ∃ b, v = .ref b ∧ H b = some (.tup (k.map kV)) := by
  cases f with
  | tup xs =>
    obtain ⟨a, vs, rfl, h1, h2⟩ := h
    rw [keys_rf h2 e] at h1
    exact ⟨a, rfl, h1⟩
  | _ => cases e
theorem vals_k : ∀ {kvs : List (VL.Key × D)} {ws : List (VL.Key × V)} {G : List Addr} {k : VL.Key}, RDk K H kvs ws G → match VL.valV kvs k with
    | some d => ∃ v F, L2.valV ws k = some v ∧ RD K H d v F ∧ (∀ b ∈ F, b ∈ G) ∧ (G.Nodup → F.Nodup)
    | none => L2.valV ws k = none
  | [], _, _, k, ⟨e, _⟩ => by subst e; exact rfl
  | (j, d) :: r, _, _, k, ⟨v, q, F1, F2, e, h, hr, eG, _⟩ => by
    subst e eG
    by_cases c : j = k
    · subst c
      have e1 : VL.valV ((j, d) :: r) j = some d := by simp [VL.valV, List.find?_cons]
      have e2 : L2.valV ((j, v) :: q) j = some v := by simp [L2.valV, List.find?_cons]
      rw [e1]
      exact ⟨v, F1, e2, h, fun b hb => List.mem_append_left _ hb, fun n => (List.nodup_append.mp n).1⟩
    · have e1 : VL.valV ((j, d) :: r) k = VL.valV r k := by simp [VL.valV, List.find?_cons, c]
      have e2 : L2.valV ((j, v) :: q) k = L2.valV q k := by simp [L2.valV, List.find?_cons, c]
      rw [e1, e2]
      have ih := vals_k (k := k) hr
      cases z : VL.valV r k with
      | none => rw [z] at ih; exact ih
      | some dd =>
        rw [z] at ih
        obtain ⟨v', F', h1, h2, h3, h4⟩ := ih
        exact ⟨v', F', h1, h2, fun b hb => List.mem_append_right _ (h3 b hb), fun n => h4 (List.nodup_append.mp n).2.1⟩
theorem vals_t : ∀ {kvs : List (List VL.Key × D)} {ws : List (List VL.Key × V)} {G : List Addr} {k : List VL.Key}, RDt K H kvs ws G → match VL.valV kvs k with
    | some d => ∃ v F, L2.valV ws k = some v ∧ RD K H d v F ∧ (∀ b ∈ F, b ∈ G) ∧ (G.Nodup → F.Nodup)
    | none => L2.valV ws k = none
  | [], _, _, k, ⟨e, _⟩ => by subst e; exact rfl
  | (j, d) :: r, _, _, k, ⟨v, q, F1, F2, e, h, hr, eG, _⟩ => by
    subst e eG
    by_cases c : j = k
    · subst c
      have e1 : VL.valV ((j, d) :: r) j = some d := by simp [VL.valV, List.find?_cons]
      have e2 : L2.valV ((j, v) :: q) j = some v := by simp [L2.valV, List.find?_cons]
      rw [e1]
      exact ⟨v, F1, e2, h, fun b hb => List.mem_append_left _ hb, fun n => (List.nodup_append.mp n).1⟩
    · have e1 : VL.valV ((j, d) :: r) k = VL.valV r k := by simp [VL.valV, List.find?_cons, c]
      have e2 : L2.valV ((j, v) :: q) k = L2.valV q k := by simp [L2.valV, List.find?_cons, c]
      rw [e1, e2]
      have ih := vals_t (k := k) hr
      cases z : VL.valV r k with
      | none => rw [z] at ih; exact ih
      | some dd =>
        rw [z] at ih
        obtain ⟨v', F', h1, h2, h3, h4⟩ := ih
        exact ⟨v', F', h1, h2, fun b hb => List.mem_append_right _ (h3 b hb), fun n => h4 (List.nodup_append.mp n).2.1⟩
/-- what in tells, by its reading -/
theorem isIn_of {x y : D} {vx vy : V} {F G : List Addr} {ok : Bool → Prop} {er : Str → List (Str × FD) → Prop} (hx : RD K H x vx F) (hy : RD K H y vy G) (o : Outc (isIn x y) ok er) :
    (∃ d ds, Dp K H vx d ∧ Dp K H vy (.list ds) ∧ SeqAt.shaped d = true ∧ SeqAt.shaped (.list ds) = true ∧ ok (ds.any fun z => PyData.eqv z d)) ∨
    (∃ d ds, Dp K H vx d ∧ Dp K H vy (.tuple ds) ∧ SeqAt.shaped d = true ∧ SeqAt.shaped (.tuple ds) = true ∧ ok (ds.any fun z => PyData.eqv z d)) ∨
    (∃ a ov, vy = .ref a ∧ DGet H a vx ov ∧ ok ov.isSome) := by
  cases x with
  | fz f =>
    obtain ⟨hf, _⟩ := hx
    have tt : ∀ {fs : List FD}, (∃ a vs, vy = .ref a ∧ SqT K H a vs ∧ RFs K H fs vs) → Outc (need (f.okq = true ∧ okqs fs = true) (.ok (fs.any fun g => pyEq g f))) ok er → ∃ d ds, Dp K H vx d ∧ Dp K H vy (.tuple ds) ∧ SeqAt.shaped d = true ∧ SeqAt.shaped (.tuple ds) = true ∧ ok (ds.any fun z => PyData.eqv z d) := fun {fs} hy o => by
      obtain ⟨⟨k1, k2⟩, o⟩ := Outc.need o
      obtain ⟨o1, s1⟩ := py_shaped k1
      obtain ⟨o2, _, s2⟩ := pys_shaped k2
      obtain ⟨a, vs, rfl, ha, r⟩ := hy
      exact ⟨f.py, pys fs, py_dp hf o1, .tup ha (pys_dp r o2), s1, s2, by rw [pys_any fs f o2 o1]; exact o⟩
    cases y with
    | lst ds =>
      obtain ⟨fs, ef, o⟩ := Outc.okOf (Outc.bnd (show Outc ((allF ds).bind fun fs => need (f.okq = true ∧ okqs fs = true) (.ok (fs.any fun g => pyEq g f))) ok er from by cases f <;> exact o)) (allF_ne ds)
      obtain ⟨⟨k1, k2⟩, o⟩ := Outc.need o
      obtain ⟨o1, s1⟩ := py_shaped k1
      obtain ⟨o2, s2, _⟩ := pys_shaped k2
      obtain ⟨a, vs, G', rfl, ha, r, _⟩ := hy
      exact .inl ⟨f.py, pys fs, py_dp hf o1, .lst (.inl (.inl ha)) (pys_dp (r.allF ef).1 o2), s1, s2, by rw [pys_any fs f o2 o1]; exact o⟩
    | fz g =>
      cases g with
      | tup fs => exact .inr (.inl (tt hy.1.sqt (by cases f <;> exact o)))
      | cup fs => exact .inr (.inl (tt hy.1 (by cases f <;> exact o)))
      | _ => cases f <;> exact o.elim
    | dic kvs =>
      obtain ⟨k, ek, o⟩ := Outc.okOf (Outc.bnd (show Outc (f.key?.bind fun k => .ok (VL.valV kvs k).isSome) ok er from by cases f <;> exact o)) (key_ne f)
      obtain ⟨a, ws, G', rfl, ha, r, _⟩ := hy
      rw [key_rf hf ek]
      refine .inr (.inr ⟨a, _, rfl, DGet.k ha, ?_⟩)
      have z := vals_k (k := k) r
      cases e : VL.valV kvs k with
      | none =>
        rw [e] at z o
        rw [z]
        exact o
      | some d =>
        rw [e] at z o
        obtain ⟨v', _, h1, _⟩ := z
        rw [h1]
        exact o
    | dit kvs =>
      obtain ⟨k, ek, o⟩ := Outc.okOf (Outc.bnd (show Outc (f.tkey?.bind fun k => .ok (VL.valV kvs k).isSome) ok er from by cases f <;> exact o)) (tkey_ne f)
      obtain ⟨a, ws, G', rfl, ha, r, _⟩ := hy
      obtain ⟨b, rfl, hb⟩ := tkey_rf hf ek
      refine .inr (.inr ⟨a, _, rfl, DGet.t ha hb, ?_⟩)
      have z := vals_t (k := k) r
      cases e : VL.valV kvs k with
      | none =>
        rw [e] at z o
        rw [z]
        exact o
      | some d =>
        rw [e] at z o
        obtain ⟨v', _, h1, _⟩ := z
        rw [h1]
        exact o
    | mtup ds => cases f <;> exact o.elim
  | _ => exact o.elim
theorem sIn : Snd K oIn (rInA K) := by
  intro x y vx vy F G H Q er hx hy o
  rcases isIn_of hx hy (Outc.bnd o) with ⟨d, ds, h1, h2, h3, h4, q⟩ | ⟨d, ds, h1, h2, h3, h4, q⟩ | ⟨a, ov, h1, h2, q⟩
  · exact .inl ⟨d, ds, h1, h2, h3, h4, KN.fz (show KN K H Q (.fz (.bl _)) from q) rfl⟩
  · exact .inr (.inl ⟨d, ds, h1, h2, h3, h4, KN.fz (show KN K H Q (.fz (.bl _)) from q) rfl⟩)
  · exact .inr (.inr ⟨a, ov, h1, h2, KN.fz (show KN K H Q (.fz (.bl _)) from q) rfl⟩)
theorem sNotIn : Snd K oNotIn (rNotInA K) := by
  intro x y vx vy F G H Q er hx hy o
  rcases isIn_of hx hy (Outc.bnd o) with ⟨d, ds, h1, h2, h3, h4, q⟩ | ⟨d, ds, h1, h2, h3, h4, q⟩ | ⟨a, ov, h1, h2, q⟩
  · exact .inl ⟨d, ds, h1, h2, h3, h4, KN.fz (show KN K H Q (.fz (.bl _)) from q) rfl⟩
  · exact .inr (.inl ⟨d, ds, h1, h2, h3, h4, KN.fz (show KN K H Q (.fz (.bl _)) from q) rfl⟩)
  · exact .inr (.inr ⟨a, ov, h1, h2, KN.fz (show KN K H Q (.fz (.bl _)) from q) rfl⟩)
end
end VL
set_option Elab.async false
set_option linter.all false
set_option maxRecDepth 100000
set_option maxHeartbeats 4000000
/-! VLC: subscripts, slices, built-in calls, dict displays, comprehensions without effects. -/
namespace VL
open PySem L2
section
variable {K : PySem.W.Frag} {H : Hp}
/-! ### o[i] -/
section
variable {X : Cx}
def rIxK : R2 := fun x y H Q => ∃ a v, x = .ref a ∧ DGet H a y (some v) ∧ Q v H
theorem ix_dict (hu : X.A.units + 1 < cLine) : IxR X rIxK := by
  intro value slice pins s σ H x y v u Q I rx ry h hs
  obtain ⟨a, z, rfl, g, q⟩ := h
  obtain rfl : v = Value.ref a := rx
  exact PyProof.Rows.tail_any (dict_typeIs I g) PySem.F.slot_dict_getitem.lookup (d_getItem hu I g ry fun w' s3 I3 rw' => ⟨z, H, I3, rw', q⟩) hs
def rIxA (K : PySem.W.Frag) : R2 := fun x y H Q => rIx K x y H Q ∨ rIxK x y H Q
theorem o_ix (hu : X.A.units + 1 < cLine) : IxR X (rIxA X.K) := ix_seq.or (ix_dict hu)
end
theorem ixN_eq (n : Nat) (i : Int) : VL.ixN n i = L2.ixN n i := rfl
theorem atI_eq {α : Type} (xs : List α) (i : Int) : VL.atI xs i = L2.atI xs i := rfl
theorem atI_rfs {fs : List FD} {vs : List V} {i : Int} {f : FD} (h : RFs K H fs vs) (e : VL.atI fs i = some f) : ∃ v, L2.atI vs i = some v ∧ RF K H f v := by
  unfold VL.atI at e
  unfold L2.atI
  rw [h.length, ← ixN_eq]
  cases z : VL.ixN fs.length i with
  | none => rw [z] at e; cases e
  | some j =>
    rw [z] at e
    obtain ⟨v, h1, h2⟩ := h.get (i := j) (f := f) e
    exact ⟨v, h1, h2⟩
theorem atI_rds {fs : List D} {vs : List V} {G : List Addr} {i : Int} {f : D} (h : RDs K H fs vs G) (e : VL.atI fs i = some f) : ∃ v F, L2.atI vs i = some v ∧ RD K H f v F ∧ (∀ b ∈ F, b ∈ G) ∧ (G.Nodup → F.Nodup) := by
  unfold VL.atI at e
  unfold L2.atI
  rw [h.length, ← ixN_eq]
  cases z : VL.ixN fs.length i with
  | none => rw [z] at e; cases e
  | some j =>
    rw [z] at e
    obtain ⟨v, F, h1, h2, h3, h4⟩ := h.get (i := j) (f := f) e
    exact ⟨v, F, h1, h2, h3, h4⟩
/-- a part of what was read -/
def KS (K : PySem.W.Frag) (H : Hp) (F : List Addr) (Q : VK) (d : D) : Prop := ∀ v F', RD K H d v F' → (∀ b ∈ F', b ∈ F) → (F.Nodup → F'.Nodup) → Q v H
theorem KS.fz {F : List Addr} {Q : VK} {f : FD} {v : V} (k : KS K H F Q (.fz f)) (r : RF K H f v) : Q v H := k v [] ⟨r, rfl⟩ (fun b hb => by cases hb) fun _ => List.nodup_nil
theorem sndIx {x y : D} {vx vy : V} {F G : List Addr} {Q : VK} {er : Str → List (Str × FD) → Prop} (hx : RD K H x vx F) (hy : RD K H y vy G) (o : Outc (oIx x y) (KS K H F Q) er) : rIxA K vx vy H Q := by
  have tt : ∀ {fs : List FD} {i : Int}, (∃ a vs, vx = .ref a ∧ SqT K H a vs ∧ RFs K H fs vs) → vy = .int i → Outc ((ofO (VL.atI fs i)).bind fun f => .ok (D.fz f)) (KS K H F Q) er → rIxA K vx vy H Q := fun {fs i} hx hy o => by
    obtain ⟨f, ef, o⟩ := Outc.ofO o.bnd
    obtain ⟨a, vs, rfl, ha, r⟩ := hx
    obtain ⟨v, h1, h2⟩ := atI_rfs r ef
    exact .inl (.inr (.inl ⟨a, vs, i, v, rfl, hy, ha, h1, KS.fz (show KS K H F Q (.fz f) from o) h2⟩))
  cases x with
  | fz f =>
    cases y with
    | fz g =>
      obtain ⟨hf, _⟩ := hx
      obtain ⟨hg, _⟩ := hy
      cases f <;> cases g <;> try exact o.elim
      case tup.int fs i => exact tt hf.sqt hg o
      case cup.int fs i => exact tt hf hg o
      case str.int z i =>
        obtain ⟨zl, o⟩ := Outc.need o
        obtain ⟨c, ec, o⟩ := Outc.ofO o.bnd
        exact .inl (.inr (.inr ⟨z, i, c, hf, hg, by rw [sizeLine_eq]; exact zl, ec, KS.fz (show KS K H F Q (.fz (.str ⟨#[c]⟩)) from o) rfl⟩))
    | _ => cases f <;> exact o.elim
  | lst ds =>
    cases y with
    | fz g =>
      cases g <;> try exact o.elim
      case int i =>
        have e2 : vy = .int i := hy.1
        obtain ⟨d, ed, o⟩ := Outc.ofO o
        obtain ⟨a, vs, G', rfl, ha, r, eF⟩ := hx
        obtain ⟨v, F', h1, h2, h3, h4⟩ := atI_rds r ed
        subst eF
        exact .inl (.inl ⟨a, vs, i, v, rfl, e2, .inl (.inl ha), h1, o v F' h2 (fun b hb => List.mem_cons_of_mem _ (h3 b hb)) fun n => h4 (List.nodup_cons.mp n).2⟩)
    | _ => exact o.elim
  | mtup ds =>
    cases y with
    | fz g =>
      cases g <;> try exact o.elim
      case int i =>
        have e2 : vy = .int i := hy.1
        obtain ⟨d, ed, o⟩ := Outc.ofO o
        obtain ⟨a, vs, rfl, ha, r⟩ := hx
        obtain ⟨v, F', h1, h2, h3, h4⟩ := atI_rds r ed
        exact .inl (.inr (.inl ⟨a, vs, i, v, rfl, e2, .inl (.inl ha), h1, o v F' h2 h3 h4⟩))
    | _ => exact o.elim
  | dic kvs =>
    cases y with
    | fz f =>
      obtain ⟨k, ek, o⟩ := Outc.okOf (Outc.bnd (show Outc (f.key?.bind fun k => ofO (VL.valV kvs k)) (KS K H F Q) er from by cases f <;> exact o)) (key_ne f)
      obtain ⟨d, ed, o⟩ := Outc.ofO o
      obtain ⟨a, ws, G', rfl, ha, r, eF⟩ := hx
      obtain ⟨hg, _⟩ := hy
      rw [key_rf hg ek]
      have z := vals_k (k := k) r
      rw [ed] at z
      obtain ⟨v, F', h1, h2, h3, h4⟩ := z
      subst eF
      exact .inr ⟨a, v, rfl, by rw [← h1]; exact DGet.k ha, o v F' h2 (fun b hb => List.mem_cons_of_mem _ (h3 b hb)) fun n => h4 (List.nodup_cons.mp n).2⟩
    | _ => exact o.elim
  | dit kvs =>
    cases y with
    | fz f =>
      obtain ⟨k, ek, o⟩ := Outc.okOf (Outc.bnd (show Outc (f.tkey?.bind fun k => ofO (VL.valV kvs k)) (KS K H F Q) er from by cases f <;> exact o)) (tkey_ne f)
      obtain ⟨d, ed, o⟩ := Outc.ofO o
      obtain ⟨a, ws, G', rfl, ha, r, eF⟩ := hx
      obtain ⟨hg, _⟩ := hy
      obtain ⟨b, rfl, hb⟩ := tkey_rf hg ek
      have z := vals_t (k := k) r
      rw [ed] at z
      obtain ⟨v, F', h1, h2, h3, h4⟩ := z
      subst eF
      exact .inr ⟨a, v, rfl, by rw [← h1]; exact DGet.t ha hb, o v F' h2 (fun b hb => List.mem_cons_of_mem _ (h3 b hb)) fun n => h4 (List.nodup_cons.mp n).2⟩
    | _ => exact o.elim
section
variable {X : Cx} {W : WX} {a b : Expr} {ma mb : E} {pos : Pos}
theorem pb_ix (hu : X.A.units + 1 < cLine) (ha : PB X W a ma) (hb : PB X W b mb) (hs : PlainIx b) : PB X W (.Subscript a b pos) (eBin oIx ma mb) := (pe_ix (o_ix hu) ha hb hs).imp fun σ H Q ⟨env, Fs, R, o⟩ =>
  ⟨env, Fs, R, o.bnd.mono (fun x _ ox vx F H1 s1 rx p1 => ⟨env, Fs, R.same s1, ox.bnd.mono (fun y _ oy vy G H2 s2 ry _ => sndIx (rx.same s2) ry (oy.mono (fun d _ k v F' rd sub _ => k v F' H2 (s1.trans s2) rd fun b hb => p1 b (sub b hb)) fun _ _ z => z)) fun _ _ z => z.later s1⟩) fun _ _ z => z⟩
theorem pn_ix (hu : X.A.units + 1 < cLine) (ha : PN X W a ma) (hb : PB X W b mb) (hs : PlainIx b) : PN X W (.Subscript a b pos) (eBin oIx ma mb) := (pe_ix (o_ix hu) ha hb hs).imp fun σ H Q ⟨env, Fs, R, o⟩ =>
  ⟨env, Fs, R, o.bnd.mono (fun x _ ox vx F H1 s1 rx n1 p1 => ⟨env, Fs, R.same s1, ox.bnd.mono (fun y _ oy vy G H2 s2 ry _ => sndIx (rx.same s2) ry (oy.mono (fun d _ k v F' rd sub nd => k v F' H2 (s1.trans s2) rd (nd n1) fun b hb => p1 b (sub b hb)) fun _ _ z => z)) fun _ _ z => z.later s1⟩) fun _ _ z => z⟩
end
/-! ### slices -/
theorem sIx_eq (n d : Nat) (o : Option Int) : VL.sIx n d o = HT.sIx n d o := by
  cases o <;> rfl
theorem RFs.cut {fs : List FD} {vs : List V} (h : RFs K H fs vs) (lo hi : Option Int) : RFs K H (VL.cut fs lo hi) (cutV vs lo hi) := by
  unfold VL.cut cutV
  rw [sIx_eq, sIx_eq, h.length]
  exact RFs.take _ (RFs.drop _ h)
section
variable {X : Cx} {W : WX} {a : Expr} {ma : E} {pos p2 : Pos}
def rO (K : PySem.W.Frag) (mg : Str → Option Value) (W : WX) (m : Env → Res (Option Int)) : TO := fun σ H Q => ∃ env Fs, Rdl K H σ env Fs ∧ Outc (m env) (fun o => ∀ H', Same H H' → Q o H') (ER K mg W σ H)
abbrev POO (X : Cx) (W : WX) (e : Option Expr) (m : Option E) : Prop := PO X e (rO X.K X.mg W (eOpt m))
theorem PO.imp' {X : Cx} {e : Option Expr} {t t' : TO} (h : PO X e t) (i : ∀ σ H Q, t' σ H Q → t σ H Q) : PO X e t' := ⟨fun pins s σ H Q I q => h.run pins s σ H Q I (i σ H Q q)⟩
theorem poo_none : POO X W none none := PO.imp' po_none fun σ H Q ⟨env, Fs, R, o⟩ => o H (Same.refl H)
theorem poo_some {e : Expr} {m : E} (h : PB X W e m) : POO X W (some e) (some m) := PO.imp' (po_some h) fun σ H Q ⟨env, Fs, R, o⟩ => ⟨env, Fs, R, o.bnd.mono (fun d _ od v F H' s rd _ => by
    obtain ⟨i, rfl, q⟩ := Outc.int od.bnd
    exact ⟨i, rd.1, q H' s⟩) fun _ _ z => z⟩
theorem sl_A : SlR X (fun x lo hi H Q => rSlL X.K x lo hi H Q ∨ rSlA X.K x lo hi H Q) := sl_list.or sl_tupA
theorem sCut {x : D} {vx : V} {F : List Addr} {Q : VK} {lo hi : Option Int} {er : Str → List (Str × FD) → Prop} {K : PySem.W.Frag} {H : Hp} (hx : RD K H x vx F) (o : Outc (oCut lo hi x) (KN K H Q) er) : rSlL K vx lo hi H Q ∨ rSlA K vx lo hi H Q := by
  cases x with
  | lst ds =>
    obtain ⟨fs, ef, o⟩ := Outc.okOf o.bnd (allF_ne ds)
    obtain ⟨b, vs, G, rfl, hb, r, _⟩ := hx
    exact .inl ⟨b, vs, rfl, .inl (.inl hb), fun p hp => KN.newL (show KN K H Q (.lst ((VL.cut fs lo hi).map D.fz)) from o) ((r.allF ef).1.cut lo hi) hp⟩
  | fz f =>
    cases f <;> try exact o.elim
    case tup fs =>
      obtain ⟨hf, _⟩ := hx
      have hf' := hf
      obtain ⟨b, vs, rfl, hb, r⟩ := hf'
      refine .inr ⟨b, vs, rfl, .inl (.inl hb), fun e => ?_, fun _ p hp => KN.fz' (show KN K H Q (.fz (.tup (VL.cut fs lo hi))) from o) (same_upd hp) (RF.new_tup (r.cut lo hi) hp)⟩
      have e2 : VL.cut fs lo hi = fs := by
        unfold VL.cut
        rw [sIx_eq, sIx_eq, ← r.length, e.1, e.2]
        simp [r.length]
      have o' : KN K H Q (.fz (.tup (VL.cut fs lo hi))) := o
      rw [e2] at o'
      exact o'.fz hf
  | _ => exact o.elim
theorem pn_cut {lo hi : Option Expr} {ml mh : Option E} (ha : PB X W a ma) (hl : POO X W lo ml) (hh : POO X W hi mh) : PN X W (.Subscript a (.Slice lo hi none p2) pos) (eCut ma ml mh) := (pe_slice sl_A ha hl hh).imp fun σ H Q ⟨env, Fs, R, o⟩ =>
  ⟨env, Fs, R, o.bnd.mono (fun x _ ox vx F H1 s1 rx _ => ⟨env, Fs, R.same s1, ox.bnd.mono (fun l _ ol H2 s2 => ⟨env, Fs, (R.same s1).same s2, ol.bnd.mono (fun h _ oh H3 s3 => sCut ((rx.same s2).same s3) (oh.mono (fun _ _ k => ((k.later s1).later s2).later s3) fun _ _ z => z)) fun _ _ z => (z.later s1).later s2⟩) fun _ _ z => z.later s1⟩) fun _ _ z => z⟩
theorem pn_rev {k : Nat} {q1 q2 q3 : Pos} (ha : PB X W a ma) : PN X W (.Subscript a (.Slice none none (some (.UnaryOp .USub (.Constant (.int 1) k q1) q2)) q3) pos) (eUn oRev ma) := (pe_revL ha).imp fun σ H Q ⟨env, Fs, R, o⟩ =>
  ⟨env, Fs, R, o.bnd.mono (fun x _ ox vx F H1 s1 rx _ => by
    cases x with
    | lst ds =>
      obtain ⟨fs, ef, o⟩ := Outc.okOf ox.bnd (allF_ne ds)
      obtain ⟨b, vs, G, rfl, hb, r, _⟩ := rx
      exact ⟨b, vs, rfl, .inl (.inl hb), fun p hp => KN.newL (KN.later (show KN X.K H Q (.lst (fs.reverse.map D.fz)) from o) s1) (r.allF ef).1.reverse hp⟩
    | _ => exact ox.elim) fun _ _ z => z⟩
end
/-! ### built-in calls -/
theorem sndC1 {f : D → Res D} {r : List V → Hp → VK → Prop} (h : ∀ (d : D) (v : V) (F : List Addr) (H : Hp) (Q : VK) (er : Str → List (Str × FD) → Prop), RD K H d v F → Outc (f d) (KN K H Q) er → r [v] H Q) : SndC K (c1 f) r := by
  intro ds vs G H Q er hr o
  match ds, hr, o with
  | [], _, o => exact o.elim
  | [d], ⟨v, q, F1, F2, e, h1, ⟨e2, _⟩, _⟩, o =>
    subst e e2
    exact h d v F1 H Q er h1 o
  | _ :: _ :: _, _, o => exact o.elim
theorem sndC2 {f : D → D → Res D} {r : List V → Hp → VK → Prop} (h : ∀ (d e : D) (v w : V) (F G : List Addr) (H : Hp) (Q : VK) (er : Str → List (Str × FD) → Prop), RD K H d v F → RD K H e w G → Outc (f d e) (KN K H Q) er → r [v, w] H Q) : SndC K (c2 f) r := by
  intro ds vs G H Q er hr o
  match ds, hr, o with
  | [], _, o => exact o.elim
  | [_], _, o => exact o.elim
  | [d, d'], ⟨v, q, F1, F2, e, h1, ⟨v', q', F1', F2', e', h1', ⟨e2, _⟩, _⟩, _⟩, o =>
    subst e e' e2
    exact h d d' v v' F1 F1' H Q er h1 h1' o
  | _ :: _ :: _ :: _, _, o => exact o.elim
section
variable {X : Cx}
def rLenA (K : PySem.W.Frag) : List V → Hp → VK → Prop := fun xs H Q => ((∃ p ys, xs = [.ref p] ∧ (SqL K H p ys ∨ SqT K H p ys) ∧ Q (.int ys.length) H) ∨ (∃ z, xs = [.str z] ∧ z.length ≤ sizeLine ∧ Q (.int z.length) H)) ∨ ∃ p kvs, xs = [.ref p] ∧ H p = some (.dK kvs) ∧ Q (.int kvs.length) H
theorem cr_lenK : CallR X (.builtin "len") (fun xs H Q => ∃ p kvs, xs = [.ref p] ∧ H p = some (.dK kvs) ∧ Q (.int kvs.length) H) := by
  intro pins s σ H xs us Q I rx h
  obtain ⟨p, kvs, rfl, e, q⟩ := h
  obtain ⟨u, rfl, ru⟩ := vals1 rx
  obtain rfl : u = Value.ref p := ru
  exact d_len I (.inl e) fun t s' I' => ⟨.int kvs.length, H, I', ⟨_, rfl⟩, q⟩
theorem c_len : CallR X (.builtin "len") (rLenA X.K) := (call_len_seq.or call_len_str).or cr_lenK
end
theorem RDk.length : ∀ {kvs : List (VL.Key × D)} {ws : List (VL.Key × V)} {G : List Addr}, RDk K H kvs ws G → ws.length = kvs.length
  | [], _, _, h => by cases h.1; rfl
  | (_, _) :: _, _, _, ⟨v, q, _, _, e, _, r, _, _⟩ => by subst e; simp [RDk.length r]
theorem s_len : SndC K (c1 cLen) (rLenA K) := sndC1 fun d v F H Q er hd o => by
  cases d with
  | fz f =>
    obtain ⟨hf, _⟩ := hd
    cases f <;> try exact o.elim
    case str x =>
      obtain ⟨z, o⟩ := Outc.need o
      have e : v = .str x := hf
      subst e
      exact .inl (.inr ⟨x, rfl, by rw [sizeLine_eq]; exact z, KN.fz (show KN K H Q (.fz (.int x.length)) from o) rfl⟩)
    case tup fs =>
      obtain ⟨a, vs, rfl, ha, r⟩ := hf
      exact .inl (.inl ⟨a, vs, rfl, .inr (.inl (.inl ha)), by rw [r.length]; exact KN.fz (show KN K H Q (.fz (.int fs.length)) from o) rfl⟩)
    case cup fs =>
      obtain ⟨a, vs, rfl, ha, r⟩ := hf
      exact .inl (.inl ⟨a, vs, rfl, .inr ha, by rw [r.length]; exact KN.fz (show KN K H Q (.fz (.int fs.length)) from o) rfl⟩)
    case scr ns =>
      obtain ⟨a, rfl, ha⟩ := hf
      exact .inl (.inl ⟨a, _, rfl, .inl ha.sql, by rw [List.length_map]; exact KN.fz (show KN K H Q (.fz (.int ns.length)) from o) rfl⟩)
  | lst ds =>
    obtain ⟨a, vs, G, rfl, ha, r, _⟩ := hd
    exact .inl (.inl ⟨a, vs, rfl, .inl (.inl (.inl ha)), by rw [r.length]; exact KN.fz (show KN K H Q (.fz (.int ds.length)) from o) rfl⟩)
  | mtup ds =>
    obtain ⟨a, vs, rfl, ha, r⟩ := hd
    exact .inl (.inl ⟨a, vs, rfl, .inr (.inl (.inl ha)), by rw [r.length]; exact KN.fz (show KN K H Q (.fz (.int ds.length)) from o) rfl⟩)
  | dic kvs =>
    obtain ⟨a, ws, G, rfl, ha, r, _⟩ := hd
    exact .inr ⟨a, ws, rfl, ha, by rw [RDk.length r]; exact KN.fz (show KN K H Q (.fz (.int kvs.length)) from o) rfl⟩
  | dit kvs => exact o.elim
def rIntA : List V → Hp → VK → Prop := fun xs H Q => (∃ i, xs = [.int i] ∧ Q (.int i) H) ∨ ∃ k, xs = [.bl k] ∧ Q (.int (if k then 1 else 0)) H
theorem s_int : SndC K (c1 cInt) rIntA := sndC1 fun d v F H Q er hd o => by
  cases d with
  | fz f =>
    obtain ⟨hf, _⟩ := hd
    cases f <;> try exact o.elim
    case int i =>
      have e : v = .int i := hf
      subst e
      exact .inl ⟨i, rfl, KN.fz (show KN K H Q (.fz (.int i)) from o) rfl⟩
    case bl b =>
      have e : v = .bl b := hf
      subst e
      exact .inr ⟨b, rfl, KN.fz (show KN K H Q (.fz (.int (if b then 1 else 0))) from o) rfl⟩
  | _ => exact o.elim
theorem s_abs : SndC K (c1 cAbs) (fun xs H Q => ∃ i, xs = [.int i] ∧ Q (.int (if i < 0 then -i else i)) H) := sndC1 fun d v F H Q er hd o => by
  cases d with
  | fz f =>
    obtain ⟨hf, _⟩ := hd
    cases f <;> try exact o.elim
    case int i =>
      have e : v = .int i := hf
      subst e
      exact ⟨i, rfl, KN.fz (show KN K H Q (.fz (.int (if i < 0 then -i else i))) from o) rfl⟩
  | _ => exact o.elim
theorem s_max2 : SndC K (c2 cMax2) (fun xs H Q => ∃ i j, xs = [.int i, .int j] ∧ Q (.int (if j > i then j else i)) H) := sndC2 fun d e v w F G H Q er hd he o => by
  cases d with
  | fz f =>
    cases e with
    | fz g =>
      obtain ⟨hf, _⟩ := hd
      obtain ⟨hg, _⟩ := he
      cases f <;> cases g <;> try exact o.elim
      case int.int i j =>
        have e1 : v = .int i := hf
        have e2 : w = .int j := hg
        subst e1 e2
        exact ⟨i, j, rfl, KN.fz (show KN K H Q (.fz (.int (if j > i then j else i))) from o) rfl⟩
    | _ => cases f <;> exact o.elim
  | _ => exact o.elim
theorem s_min2 : SndC K (c2 cMin2) (fun xs H Q => ∃ i j, xs = [.int i, .int j] ∧ Q (.int (if j < i then j else i)) H) := sndC2 fun d e v w F G H Q er hd he o => by
  cases d with
  | fz f =>
    cases e with
    | fz g =>
      obtain ⟨hf, _⟩ := hd
      obtain ⟨hg, _⟩ := he
      cases f <;> cases g <;> try exact o.elim
      case int.int i j =>
        have e1 : v = .int i := hf
        have e2 : w = .int j := hg
        subst e1 e2
        exact ⟨i, j, rfl, KN.fz (show KN K H Q (.fz (.int (if j < i then j else i))) from o) rfl⟩
    | _ => cases f <;> exact o.elim
  | _ => exact o.elim
theorem s_tuple : SndC K (c1 cTuple) (fun xs H Q => ∃ p ys, xs = [.ref p] ∧ ((SqL K H p ys ∧ ∀ l, H l = none → Q (.ref l) (upd H l (.tup ys))) ∨ (SqT K H p ys ∧ Q (.ref p) H))) := sndC1 fun d v F H Q er hd o => by
  cases d with
  | fz f =>
    obtain ⟨hf, _⟩ := hd
    cases f <;> try exact o.elim
    case tup fs =>
      have hf' := hf
      obtain ⟨a, vs, rfl, ha, r⟩ := hf'
      exact ⟨a, vs, rfl, .inr ⟨.inl (.inl ha), KN.fz (show KN K H Q (.fz (.tup fs)) from o) hf⟩⟩
    case cup fs =>
      have hf' := hf
      obtain ⟨a, vs, rfl, ha, r⟩ := hf'
      exact ⟨a, vs, rfl, .inr ⟨ha, KN.fz (show KN K H Q (.fz (.cup fs)) from o) hf⟩⟩
  | lst ds =>
    obtain ⟨fs, ef, o⟩ := Outc.okOf o.bnd (allF_ne ds)
    obtain ⟨a, vs, G, rfl, ha, r, _⟩ := hd
    exact ⟨a, vs, rfl, .inl ⟨.inl (.inl ha), fun p hp => KN.fz' (show KN K H Q (.fz (.tup fs)) from o) (same_upd hp) (RF.new_tup (r.allF ef).1 hp)⟩⟩
  | _ => exact o.elim
theorem s_list : SndC K (c1 cList) (fun xs H Q => ∃ p ys, xs = [.ref p] ∧ (SqL K H p ys ∨ SqT K H p ys) ∧ ∀ l, H l = none → Q (.ref l) (upd H l (.lst ys))) := sndC1 fun d v F H Q er hd o => by
  cases d with
  | fz f =>
    obtain ⟨hf, _⟩ := hd
    cases f <;> try exact o.elim
    case tup fs =>
      obtain ⟨a, vs, rfl, ha, r⟩ := hf
      exact ⟨a, vs, rfl, .inr (.inl (.inl ha)), fun p hp => KN.newL (show KN K H Q (.lst (fs.map D.fz)) from o) r hp⟩
    case cup fs =>
      obtain ⟨a, vs, rfl, ha, r⟩ := hf
      exact ⟨a, vs, rfl, .inr ha, fun p hp => KN.newL (show KN K H Q (.lst (fs.map D.fz)) from o) r hp⟩
  | lst ds =>
    obtain ⟨fs, ef, o⟩ := Outc.okOf o.bnd (allF_ne ds)
    obtain ⟨a, vs, G, rfl, ha, r, _⟩ := hd
    exact ⟨a, vs, rfl, .inl (.inl (.inl ha)), fun p hp => KN.newL (show KN K H Q (.lst (fs.map D.fz)) from o) (r.allF ef).1 hp⟩
  | _ => exact o.elim
theorem s_all : SndC K (c1 cAll) (rAll K) := sndC1 fun d v F H Q er hd o => by
  cases d with
  | lst ds =>
    obtain ⟨fs, ef, o⟩ := Outc.okOf o.bnd (allF_ne ds)
    obtain ⟨bs, eb, o⟩ := Outc.okOf o.bnd (bools_ne fs)
    obtain ⟨a, vs, G, rfl, ha, r, _⟩ := hd
    have r' := (r.allF ef).1
    rw [bools_map eb] at r'
    rw [r'.bls] at ha
    exact ⟨a, bs, rfl, .inl (.inl ha), KN.fz (show KN K H Q (.fz (.bl (bs.all id))) from o) rfl⟩
  | _ => exact o.elim
theorem s_any : SndC K (c1 cAny) (rAny K) := sndC1 fun d v F H Q er hd o => by
  cases d with
  | lst ds =>
    obtain ⟨fs, ef, o⟩ := Outc.okOf o.bnd (allF_ne ds)
    obtain ⟨bs, eb, o⟩ := Outc.okOf o.bnd (bools_ne fs)
    obtain ⟨a, vs, G, rfl, ha, r, _⟩ := hd
    have r' := (r.allF ef).1
    rw [bools_map eb] at r'
    rw [r'.bls] at ha
    exact ⟨a, bs, rfl, .inl (.inl ha), KN.fz (show KN K H Q (.fz (.bl (bs.any id))) from o) rfl⟩
  | _ => exact o.elim
theorem least_is : ∀ (r : List Int) (m : Int), leastI m r ∈ m :: r ∧ ∀ y ∈ m :: r, leastI m r ≤ y
  | [], m => ⟨List.mem_cons_self, fun y hy => by
    have e : y = m := by simpa using hy
    rw [e]
    exact Int.le_refl _⟩
  | x :: r, m => by
    have e : leastI m (x :: r) = leastI (if x < m then x else m) r := rfl
    rw [e]
    obtain ⟨h1, h2⟩ := least_is r (if x < m then x else m)
    by_cases c : x < m
    · rw [if_pos c] at h1 h2 ⊢
      refine ⟨List.mem_cons_of_mem _ h1, fun y hy => ?_⟩
      rcases List.mem_cons.mp hy with rfl | hy
      · have := h2 x List.mem_cons_self
        omega
      · exact h2 y hy
    · rw [if_neg c] at h1 h2 ⊢
      refine ⟨?_, fun y hy => ?_⟩
      · rcases List.mem_cons.mp h1 with e | h1
        · rw [e]; exact List.mem_cons_self
        · exact List.mem_cons_of_mem _ (List.mem_cons_of_mem _ h1)
      · rcases List.mem_cons.mp hy with rfl | hy
        · exact h2 y List.mem_cons_self
        · rcases List.mem_cons.mp hy with rfl | hy
          · have := h2 m List.mem_cons_self
            omega
          · exact h2 y (List.mem_cons_of_mem _ hy)
theorem most_is : ∀ (r : List Int) (m : Int), mostI m r ∈ m :: r ∧ ∀ y ∈ m :: r, y ≤ mostI m r
  | [], m => ⟨List.mem_cons_self, fun y hy => by
    have e : y = m := by simpa using hy
    rw [e]
    exact Int.le_refl _⟩
  | x :: r, m => by
    have e : mostI m (x :: r) = mostI (if m < x then x else m) r := rfl
    rw [e]
    obtain ⟨h1, h2⟩ := most_is r (if m < x then x else m)
    by_cases c : m < x
    · rw [if_pos c] at h1 h2 ⊢
      refine ⟨List.mem_cons_of_mem _ h1, fun y hy => ?_⟩
      rcases List.mem_cons.mp hy with rfl | hy
      · have := h2 x List.mem_cons_self
        omega
      · exact h2 y hy
    · rw [if_neg c] at h1 h2 ⊢
      refine ⟨?_, fun y hy => ?_⟩
      · rcases List.mem_cons.mp h1 with e | h1
        · rw [e]; exact List.mem_cons_self
        · exact List.mem_cons_of_mem _ (List.mem_cons_of_mem _ h1)
      · rcases List.mem_cons.mp hy with rfl | hy
        · exact h2 y List.mem_cons_self
        · rcases List.mem_cons.mp hy with rfl | hy
          · have := h2 m List.mem_cons_self
            omega
          · exact h2 y (List.mem_cons_of_mem _ hy)
theorem s_min1 : SndC K (c1 cMin1) (rMin K) := sndC1 fun d v F H Q er hd o => by
  cases d with
  | lst ds =>
    obtain ⟨fs, ef, o⟩ := Outc.okOf o.bnd (allF_ne ds)
    obtain ⟨bs, eb, o⟩ := Outc.okOf o.bnd (ints_ne fs)
    obtain ⟨a, vs, G, rfl, ha, r, _⟩ := hd
    have r' := (r.allF ef).1
    rw [ints_map eb] at r'
    rw [r'.ints] at ha
    cases bs with
    | nil => exact o.elim
    | cons m q =>
      refine ⟨a, m :: q, rfl, .inl (.inl ha), Nat.succ_pos _, fun x hx hle => ?_⟩
      obtain ⟨h1, h2⟩ := least_is q m
      have e : x = leastI m q := Int.le_antisymm (hle _ h1) (h2 _ hx)
      rw [e]
      exact KN.fz (show KN K H Q (.fz (.int (leastI m q))) from o) rfl
  | _ => exact o.elim
theorem s_max1 : SndC K (c1 cMax1) (rMax K) := sndC1 fun d v F H Q er hd o => by
  cases d with
  | lst ds =>
    obtain ⟨fs, ef, o⟩ := Outc.okOf o.bnd (allF_ne ds)
    obtain ⟨bs, eb, o⟩ := Outc.okOf o.bnd (ints_ne fs)
    obtain ⟨a, vs, G, rfl, ha, r, _⟩ := hd
    have r' := (r.allF ef).1
    rw [ints_map eb] at r'
    rw [r'.ints] at ha
    cases bs with
    | nil => exact o.elim
    | cons m q =>
      refine ⟨a, m :: q, rfl, .inl (.inl ha), Nat.succ_pos _, fun x hx hle => ?_⟩
      obtain ⟨h1, h2⟩ := most_is q m
      have e : x = mostI m q := Int.le_antisymm (h2 _ hx) (hle _ h1)
      rw [e]
      exact KN.fz (show KN K H Q (.fz (.int (mostI m q))) from o) rfl
  | _ => exact o.elim
theorem s_sum : SndC K (c1 cSum) (rSum K) := sndC1 fun d v F H Q er hd o => by
  cases d with
  | lst ds =>
    obtain ⟨fs, ef, o⟩ := Outc.okOf o.bnd (allF_ne ds)
    obtain ⟨bs, eb, o⟩ := Outc.okOf o.bnd (ints_ne fs)
    obtain ⟨a, vs, G, rfl, ha, r, _⟩ := hd
    have r' := (r.allF ef).1
    rw [ints_map eb] at r'
    rw [r'.ints] at ha
    exact ⟨a, bs, rfl, .inl (.inl ha), KN.fz (show KN K H Q (.fz (.int bs.sum)) from o) rfl⟩
  | _ => exact o.elim
/-! ### isinstance -/
def Ty.nm : Ty → String
  | .int => "int"
  | .bool => "bool"
  | .str => "str"
  | .tuple => "tuple"
  | .list => "list"
  | .dict => "dict"
inductive TyN where
  | non | bool | int | str | tuple | list | dict
def TyN.nm : TyN → String
  | .non => "NoneType"
  | .bool => "bool"
  | .int => "int"
  | .str => "str"
  | .tuple => "tuple"
  | .list => "list"
  | .dict => "dict"
def tyOf : D → TyN
  | .fz .non => .non
  | .fz (.bl _) => .bool
  | .fz (.int _) => .int
  | .fz (.str _) => .str
  | .fz (.tup _) => .tuple
  | .fz (.cup _) => .tuple
  | .fz (.scr _) => .list
  | .lst _ => .list
  | .mtup _ => .tuple
  | .dic _ => .dict
  | .dit _ => .dict
def tyTab : Ty → TyN → Bool
  | .int, .int => true
  | .int, .bool => true
  | .bool, .bool => true
  | .str, .str => true
  | .tuple, .tuple => true
  | .list, .list => true
  | .dict, .dict => true
  | _, _ => false
theorem tyTab_is (T : Ty) (d : D) : tyTab T (tyOf d) = isTy T d := by
  cases T <;> cases d <;> first
    | rfl
    | (rename_i f; cases f <;> rfl)
theorem kit_tab (T : Ty) (n : TyN) : PySem.W.kitOne K (.type n.nm) (.type T.nm) = some (tyTab T n) := by
  cases T <;> cases n <;> exact kit_ty (by decide +kernel)
theorem kit_all (T : Ty) (d : D) : PySem.W.kitOne K (.type (tyOf d).nm) (.type T.nm) = some (isTy T d) := by
  rw [← tyTab_is]
  exact kit_tab T _
theorem tyX_of {d : D} {v : V} {F : List Addr} (h : RD K H d v F) : TyX K H v (.type (tyOf d).nm) := by
  cases d with
  | fz f =>
    obtain ⟨h, _⟩ := h
    cases f with
    | non => cases h; exact .base .non
    | bl b => cases h; exact .base (.bl b)
    | int i => cases h; exact .base (.int i)
    | str x => cases h; exact .base (.str x)
    | tup xs => obtain ⟨a, vs, rfl, ha, _⟩ := h; exact .base (.tup ha)
    | cup xs =>
      obtain ⟨a, vs, rfl, ha, _⟩ := h
      rcases ha with (ha | ⟨o, ha⟩) | ⟨o, its, n, hk, hc, _⟩
      · exact .base (.tup ha)
      · exact .fTuple ha
      · exact .kTuple hk hc
    | scr ns =>
      obtain ⟨a, rfl, ha⟩ := h
      rcases ha with ⟨o, ha⟩ | ⟨o, its, n, hk, hc, _⟩
      · exact .base (.frz ha)
      · exact .kList hk hc
  | lst ds => obtain ⟨a, vs, G, rfl, ha, _⟩ := h; exact .base (.lst ha)
  | mtup ds => obtain ⟨a, vs, rfl, ha, _⟩ := h; exact .base (.tup ha)
  | dic ds => obtain ⟨a, vs, G, rfl, ha, _⟩ := h; exact .base (.dK ha)
  | dit ds => obtain ⟨a, vs, G, rfl, ha, _⟩ := h; exact .base (.dT ha)
section
variable {X : Cx} {W : WX} {a : Expr} {ma : E} {pos p q : Pos} {x : Str}
theorem pn_isTy (T : Ty) (hm : X.mg "isinstance" = none) (hT : X.mg x = none) (hv : bootBuiltins x = some (.type T.nm)) (ha : PB X W a ma) (hg : Gl X "isinstance" := by rfl) (hgT : Gl X x := by rfl) (hn : x ≠ "__name__" := by decide) (hdb : (x == ("__debug__" : Str)) = false := by decide)
    (hs : starEach [.Name x p] X.env = (false, eval (.Name x p) X.env) :: starEach [] X.env := by rfl)
    (he : starEach [a, .Name x p] X.env = (false, eval a X.env) :: starEach [.Name x p] X.env := by rfl) (hpl : (backTo pos (starEach [.Name x p] X.env)).any (·.1) = false := by rfl) :
    PN X W (.Call (.Name "isinstance" q) [a, .Name x p] [] pos) (eUn (fun d => .ok (.fz (.bl (isTy T d)))) ma) :=
  (pe_callB call_isi hg hm PyProof.Rows.boot_isinstance (pa_cons ha (pa_cons (pe_bltn (v := .ty T.nm) hgT hT hv rfl hn hdb) pa_nil hs) he) (by decide) (by decide) he hpl).imp fun σ H Q ⟨env, Fs, R, o⟩ =>
    ⟨env, Fs, R, o.bnd.mono (fun d _ k v F H1 s1 rd _ => by
      exact ⟨v, .ty T.nm, .type (tyOf d).nm, .type T.nm, _, rfl, .ty _, tyX_of rd, kit_all T d, KN.fz' (show KN X.K H Q (.fz (.bl (isTy T d))) from k) s1 rfl⟩) fun _ _ z => z⟩
end
end
end VL
set_option Elab.async false
set_option linter.all false
set_option maxRecDepth 100000
set_option maxHeartbeats 4000000
/-! VLF: what a loop walks; comprehensions without effects. -/
namespace VL
open PySem L2
section
variable {K : PySem.W.Frag}
/-! ### sources -/
structure WalkOf (J : It) (xs : List V) (P : Hp → Prop) : Prop where
  go : ∀ i H, P H → i < xs.length → J.go i H
  stop : ∀ i H, P H → xs.length ≤ i → J.stop i H
  yld : ∀ i H x H', P H → i < xs.length → J.yld i H x H' → H' = H ∧ xs[i]? = some x
/-- ds are what is walked; F: what may change of it -/
structure Src (K : PySem.W.Frag) (J : It) (ds : List D) (H : Hp) (P : Hp → Prop) (vs : List V) (G F : List Addr) : Prop where
  walk : WalkOf J vs P
  now : P H
  sub : ∀ b ∈ G, b ∈ F
  rds : ∀ H1, P H1 → (∀ b ∈ F, MutAt H1 b) ∧ RDs K H1 ds vs G
  keep : ∀ (H1 H2 : Hp) (Z : Addr → Prop), KeepX Z H1 H2 → (∀ b, Z b → MutAt H1 b) → (∀ b ∈ F, ¬ Z b) → P H1 → P H2
def rI (K : PySem.W.Frag) (mg : Str → Option Value) (W : WX) (m : Env → Res (List D)) : TI := fun σ H R => ∃ env Fs, Rdl K H σ env Fs ∧
  Outc (m env) (fun ds => ∀ J vs G F P H', Same H H' → Src K J ds H' P vs G F → (∀ b ∈ F, (∃ i, b ∈ Fs i) ∨ H b = none) → R J H') (ER K mg W σ H)
abbrev PII (X : Cx) (W : WX) (tg e : Expr) (m : Env → Res (List D)) : Prop := PI X tg e (rI X.K X.mg W m)
theorem _root_.L2.PI.or {X : Cx} {tg i : Expr} {w w' : TI} (h : PI X tg i w) (h' : PI X tg i w') : PI X tg i (fun σ H R => w σ H R ∨ w' σ H R) := ⟨fun pins s σ H R I q => by
  rcases q with q | q
  · exact h.run pins s σ H R I q
  · exact h'.run pins s σ H R I q⟩
theorem PI.imp' {X : Cx} {tg i : Expr} {w w' : TI} (h : PI X tg i w) (j : ∀ σ H R, w' σ H R → w σ H R) : PI X tg i w' := ⟨fun pins s σ H R I q => h.run pins s σ H R I (j σ H R q)⟩
theorem src_list {a : Addr} {ds : List D} {vs : List V} {G : List Addr} {H : Hp} (ha : H a = some (.lst vs)) (r : RDs K H ds vs G) : Src K (Itl K a) ds H (fun H1 => H1 a = some (.lst vs) ∧ RDs K H1 ds vs G) vs G (a :: G) where
  walk := ⟨fun i H p hi => ⟨vs, vs[i], .inl (.inl p.1), by simp [hi]⟩, fun i H p hi => ⟨vs, .inl (.inl p.1), hi⟩, fun i H x H' p _ y => ⟨y.1, y.2 vs (.inl (.inl p.1))⟩⟩
  now := ⟨ha, r⟩
  sub := fun b hb => List.mem_cons_of_mem _ hb
  rds := fun H1 p => ⟨fun b hb => by
    rcases List.mem_cons.mp hb with rfl | hb
    · exact ⟨_, p.1, trivial⟩
    · exact p.2.mut b hb, p.2⟩
  keep := fun H1 H2 Z k hZ n p => ⟨k a _ p.1 (n a List.mem_cons_self), p.2.keep k hZ fun b hb => n b (List.mem_cons_of_mem _ hb)⟩
theorem src_tup {a : Addr} {ds : List D} {vs : List V} {G : List Addr} {H : Hp} (ha : SqT K H a vs) (r : RDs K H ds vs G) : Src K (Itt K a) ds H (fun H1 => SqT K H1 a vs ∧ RDs K H1 ds vs G) vs G G where
  walk := ⟨fun i H p hi => ⟨vs, vs[i], p.1, by simp [hi]⟩, fun i H p hi => ⟨vs, p.1, hi⟩, fun i H x H' p _ y => ⟨y.1, y.2 vs p.1⟩⟩
  now := ⟨ha, r⟩
  sub := fun b hb => hb
  rds := fun H1 p => ⟨fun b hb => p.2.mut b hb, p.2⟩
  keep := fun H1 H2 Z k hZ n p => ⟨k.sqt hZ p.1, p.2.keep k hZ n⟩
theorem src_scr {a : Addr} {ns : List Int} {H : Hp} (ha : SqF K H a (ns.map V.int)) : Src K (Itl K a) (ns.map fun n => D.fz (.int n)) H (fun H1 => SqF K H1 a (ns.map V.int)) (ns.map V.int) [] [] where
  walk := ⟨fun i H p hi => ⟨_, (ns.map V.int)[i], p.sql, by simp⟩, fun i H p hi => ⟨_, p.sql, hi⟩, fun i H x H' p _ y => ⟨y.1, y.2 _ p.sql⟩⟩
  now := ha
  sub := fun b hb => hb
  rds := fun H1 p => ⟨fun b hb => (by cases hb), by
    have e : (ns.map fun n => D.fz (.int n)) = (ns.map FD.int).map D.fz := by simp
    rw [e]
    exact (rfs_ints ns).rds⟩
  keep := fun H1 H2 Z k hZ n p => p.imp (fun ⟨o, h⟩ => ⟨o, k.frz hZ h⟩) id
def rangeV (lo : Int) : Nat → List V
  | 0 => []
  | n + 1 => V.int lo :: rangeV (lo + 1) n
theorem rangeV_len : ∀ (n : Nat) (lo : Int), (rangeV lo n).length = n
  | 0, _ => rfl
  | n + 1, lo => by show (rangeV (lo + 1) n).length + 1 = n + 1; rw [rangeV_len n]
theorem rangeV_get : ∀ (n : Nat) (lo : Int) (i : Nat), i < n → (rangeV lo n)[i]? = some (.int (lo + i))
  | 0, _, _, h => absurd h (Nat.not_lt_zero _)
  | n + 1, lo, 0, _ => by
    show some (V.int lo) = _
    simp
  | n + 1, lo, i + 1, h => by
    show (rangeV (lo + 1) n)[i]? = _
    rw [rangeV_get n (lo + 1) i (Nat.lt_of_succ_lt_succ h)]
    congr 2
    omega
theorem rangeL_len : ∀ (n : Nat) (lo : Int), (rangeL lo n).length = n
  | 0, _ => rfl
  | n + 1, lo => by show (rangeL (lo + 1) n).length + 1 = n + 1; rw [rangeL_len n]
theorem rangeL_rds {H : Hp} : ∀ (n : Nat) (lo : Int), RDs K H (rangeL lo n) (rangeV lo n) []
  | 0, _ => ⟨rfl, rfl⟩
  | n + 1, lo => ⟨.int lo, rangeV (lo + 1) n, [], [], rfl, ⟨rfl, rfl⟩, rangeL_rds n (lo + 1), rfl⟩
theorem src_rng {lo : Int} {n : Nat} {H : Hp} : Src K (Itr lo n) (rangeL lo n) H (fun _ => True) (rangeV lo n) [] [] where
  walk := ⟨fun i H p hi => by rw [rangeV_len] at hi; exact hi, fun i H p hi => by rw [rangeV_len] at hi; exact hi, fun i H x H' p hi y => ⟨y.1, by
    rw [rangeV_len] at hi
    rw [rangeV_get n lo i hi, y.2]⟩⟩
  now := trivial
  sub := fun b hb => hb
  rds := fun H1 p => ⟨fun b hb => (by cases hb), rangeL_rds n lo⟩
  keep := fun H1 H2 Z k hZ n p => trivial
/-- the walked thing told by its data -/
theorem walk_imp {X : Cx} {W : WX} {m : E} : ∀ σ H R, rI X.K X.mg W (srcE m) σ H R → iList X.K (rB X.K X.mg W m) σ H R ∨ iTup X.K (rB X.K X.mg W m) σ H R := fun σ H R ⟨env, Fs, r, o⟩ => by
  have o' := o.bnd
  have er : ∀ n fs, m env = .err n fs → iList X.K (rB X.K X.mg W m) σ H R := fun n fs e => by
    rw [e] at o'
    refine ⟨env, Fs, r, ?_⟩
    rw [e]
    exact o'
  cases e : m env with
  | err n fs => exact .inl (er n fs e)
  | bad => rw [e] at o'; exact o'.elim
  | ok d =>
    rw [e] at o'
    have tt : ∀ {fs : List FD} {g : FD}, d = .fz g → (∀ H1 v, RF X.K H1 g v → ∃ a vs, v = .ref a ∧ SqT X.K H1 a vs ∧ RFs X.K H1 fs vs) → items d = .ok (fs.map D.fz) → iTup X.K (rB X.K X.mg W m) σ H R := fun {fs g} ed hv ei => by
      refine ⟨env, Fs, r, ?_⟩
      rw [e]
      intro v F H1 s1 rd _
      subst ed
      obtain ⟨a, vs, rfl, ha, rf⟩ := hv H1 v rd.1
      refine ⟨a, rfl, ⟨vs, ha⟩, ?_⟩
      have o2 : Outc (items (.fz g)) _ _ := o'
      rw [ei] at o2
      exact o2 _ _ _ _ _ H1 s1 (src_tup ha rf.rds) fun b hb => by cases hb
    cases d with
    | lst ds =>
      refine .inl ⟨env, Fs, r, ?_⟩
      rw [e]
      intro v F H1 s1 rd pv
      obtain ⟨a, vs, G, rfl, ha, rs, eF⟩ := rd
      subst eF
      exact ⟨a, rfl, ⟨vs, .inl (.inl ha)⟩, o' _ _ _ _ _ H1 s1 (src_list ha rs) pv⟩
    | mtup ds =>
      refine .inr ⟨env, Fs, r, ?_⟩
      rw [e]
      intro v F H1 s1 rd pv
      obtain ⟨a, vs, rfl, ha, rs⟩ := rd
      exact ⟨a, rfl, ⟨vs, .inl (.inl ha)⟩, o' _ _ _ _ _ H1 s1 (src_tup (.inl (.inl ha)) rs) pv⟩
    | fz g =>
      cases g with
      | tup fs => exact .inr (tt rfl (fun H1 v h => h.sqt) rfl)
      | cup fs => exact .inr (tt rfl (fun H1 v h => h) rfl)
      | scr ns =>
        refine .inl ⟨env, Fs, r, ?_⟩
        rw [e]
        intro v F H1 s1 rd pv
        obtain ⟨a, rfl, ha⟩ := rd.1
        exact ⟨a, rfl, ⟨_, ha.sql⟩, o' _ _ _ _ _ H1 s1 (src_scr ha) fun b hb => by cases hb⟩
      | _ => exact o'.elim
    | _ => exact o'.elim
section
variable {X : Cx} {W : WX} {tg e a b : Expr} {m ma mb : E} {p pos : Pos}
theorem pi_src (h : PB X W e m) : PII X W tg e (srcE m) := PI.imp' ((pi_list h).or (pi_tup h)) walk_imp
theorem pi_r1 (hm : X.mg "range" = none) (ha : PB X W a ma) (hg : Gl X "range" := by rfl) (hs : starEach [a] X.env = [(false, eval a X.env)] := by rfl) : PII X W tg (.Call (.Name "range" p) [a] [] pos) (srcR1 ma) :=
  PI.imp' (pi_range1 hg hm (pab_cons ha pab_nil (by rw [hs]; rfl)) hs) fun σ H R ⟨env, Fs, r, o⟩ => ⟨env, Fs, r, by
    have o1 := o.bnd
    show Outc ((ma env).bind fun d => (Res.ok []).bind fun ds => Res.ok (d :: ds)) _ _
    cases e : ma env with
    | err n fs => rw [e] at o1; exact o1
    | bad => rw [e] at o1; exact o1.elim
    | ok d =>
      rw [e] at o1
      obtain ⟨n, rfl, o2⟩ := Outc.int (Outc.bnd o1)
      obtain ⟨⟨z1, z2⟩, o3⟩ := Outc.need o2
      rintro vs G H1 s1 ⟨v, q, F1, F2, rfl, ⟨hv, _⟩, ⟨rfl, _⟩, _⟩ _
      have ev : v = .int n := hv
      subst ev
      exact ⟨n, rfl, z1, z2, o3 _ _ _ _ _ H1 s1 src_rng fun b hb => by cases hb⟩⟩
theorem pi_r2 (hm : X.mg "range" = none) (ha : PB X W a ma) (hb : PB X W b mb) (hg : Gl X "range" := by rfl) (hs : starEach [a, b] X.env = [(false, eval a X.env), (false, eval b X.env)] := by rfl) (hs2 : starEach [b] X.env = [(false, eval b X.env)] := by rfl) :
    PII X W tg (.Call (.Name "range" p) [a, b] [] pos) (srcR2 ma mb) :=
  PI.imp' (pi_range2 hg hm (pab_cons ha (pab_cons hb pab_nil (by rw [hs2]; rfl)) (by rw [hs, hs2])) hs hs2) fun σ H R ⟨env, Fs, r, o⟩ => ⟨env, Fs, r, by
    have o1 := o.bnd
    show Outc ((ma env).bind fun d => ((mb env).bind fun d' => (Res.ok []).bind fun ds => Res.ok (d' :: ds)).bind fun ds => Res.ok (d :: ds)) _ _
    cases e : ma env with
    | err n fs => rw [e] at o1; exact o1
    | bad => rw [e] at o1; exact o1.elim
    | ok d =>
      rw [e] at o1
      obtain ⟨m, rfl, o2⟩ := Outc.int (Outc.bnd o1)
      have o2' := Outc.bnd o2
      show Outc (((mb env).bind fun d' => (Res.ok []).bind fun ds => Res.ok (d' :: ds)).bind fun ds => Res.ok (D.fz (.int m) :: ds)) _ _
      cases e' : mb env with
      | err n fs => rw [e'] at o2'; exact o2'
      | bad => rw [e'] at o2'; exact o2'.elim
      | ok d' =>
        rw [e'] at o2'
        obtain ⟨n, rfl, o3⟩ := Outc.int (Outc.bnd o2')
        obtain ⟨⟨z1, z2, z3, z4⟩, o4⟩ := Outc.need o3
        rintro vs G H1 s1 ⟨v, q, F1, F2, rfl, ⟨hv, _⟩, ⟨v', q', F1', F2', rfl, ⟨hv', _⟩, ⟨rfl, _⟩, _⟩, _⟩ _
        have ev : v = .int m := hv
        have ev' : v' = .int n := hv'
        subst ev ev'
        exact ⟨m, n, rfl, ⟨z1, z2, z3, z4⟩, o4 _ _ _ _ _ H1 s1 src_rng fun b hb => by cases hb⟩⟩
end
/-! ### wiping and storing -/
theorem wipe_len : ∀ (is : List Nat) (env : Env), (VL.wipe is env).length = env.length
  | [], _ => rfl
  | i :: is, env => by show ((VL.wipe is env).set i none).length = _; rw [List.length_set, wipe_len is env]
theorem wipe_get {env : Env} {j : Nat} {d : D} : ∀ {is : List Nat}, (VL.wipe is env)[j]? = some (some d) → env[j]? = some (some d) ∧ j ∉ is
  | [], h => ⟨h, by simp⟩
  | i :: is, h => by
    have h' : ((VL.wipe is env).set i none)[j]? = some (some d) := h
    by_cases e : i = j
    · subst e
      by_cases l : i < (VL.wipe is env).length
      · rw [List.getElem?_set_self l] at h'; cases h'
      · rw [List.getElem?_eq_none_iff.mpr (by rw [List.length_set]; omega)] at h'; cases h'
    · rw [List.getElem?_set_ne e] at h'
      obtain ⟨h1, h2⟩ := wipe_get h'
      exact ⟨h1, fun hm => by
        rcases List.mem_cons.mp hm with z | z
        · exact e z.symm
        · exact h2 z⟩
theorem wipe_get_ne {env : Env} {j : Nat} : ∀ {is : List Nat}, j ∉ is → (VL.wipe is env)[j]? = env[j]?
  | [], _ => rfl
  | i :: is, h => by
    show ((VL.wipe is env).set i none)[j]? = _
    rw [List.getElem?_set_ne (fun e => h (by rw [e]; exact List.mem_cons_self)), wipe_get_ne fun m => h (List.mem_cons_of_mem _ m)]
theorem Rdl.wipe {H : Hp} {σ : St} {env : Env} {Fs : Nat → List Addr} (h : Rdl K H σ env Fs) (is : List Nat) : Rdl K H (L2.wipe σ is) (VL.wipe is env) Fs := by
  refine ⟨by rw [wipe_len, L2.wipe_length, h.1], fun i d e => ?_⟩
  obtain ⟨e1, n⟩ := wipe_get e
  obtain ⟨v, ev, r⟩ := h.2 i d e1
  exact ⟨v, by rw [wipe_out n]; exact ev, r⟩
def fset (Fs : Nat → List Addr) (i : Nat) (F : List Addr) : Nat → List Addr := fun j => if j = i then F else Fs j
theorem Rdl.set {H : Hp} {σ : St} {env : Env} {Fs : Nat → List Addr} {d : D} {v : V} {F : List Addr} (h : Rdl K H σ env Fs) (i : Nat) (r : RD K H d v F) : Rdl K H (σ.set i (some v)) (setS env i d) (fset Fs i F) := by
  refine ⟨by show (env.set i (some d)).length = _; rw [List.length_set, List.length_set, h.1], fun j d' e => ?_⟩
  have e' : (env.set i (some d))[j]? = some (some d') := e
  by_cases c : i = j
  · subst c
    have l : i < env.length := by
      by_cases l : i < env.length
      · exact l
      · rw [List.getElem?_eq_none_iff.mpr (by rw [List.length_set]; omega)] at e'; cases e'
    rw [List.getElem?_set_self l] at e'
    cases e'
    exact ⟨v, List.getElem?_set_self (by rw [← h.1]; exact l), by unfold fset; rw [if_pos rfl]; exact r⟩
  · rw [List.getElem?_set_ne c] at e'
    obtain ⟨v', ev, r'⟩ := h.2 j d' e'
    exact ⟨v', by rw [List.getElem?_set_ne c]; exact ev, by unfold fset; rw [if_neg (Ne.symm c)]; exact r'⟩
theorem l2wipe_set {σ : St} {i : Nat} {x : Option V} : ∀ {vs : List Nat}, i ∈ vs → L2.wipe (σ.set i x) vs = L2.wipe σ vs
  | [], h => by cases h
  | v :: vs, h => by
    show (L2.wipe (σ.set i x) vs).set v none = (L2.wipe σ vs).set v none
    by_cases m : i ∈ vs
    · rw [l2wipe_set m]
    · have e : i = v := (List.mem_cons.mp h).resolve_right m
      subst e
      have z : ∀ (ws : List Nat), i ∉ ws → L2.wipe (σ.set i x) ws = (L2.wipe σ ws).set i x := by
        intro ws
        induction ws with
        | nil => intro _; rfl
        | cons w ws ih =>
          intro hn
          show (L2.wipe (σ.set i x) ws).set w none = ((L2.wipe σ ws).set w none).set i x
          rw [ih fun q => hn (List.mem_cons_of_mem _ q), List.set_comm _ _ (fun e => hn (by rw [e]; exact List.mem_cons_self))]
      rw [z vs m, List.set_set]
theorem l2wipe_none {σ : St} {i : Nat} : ∀ {vs : List Nat}, i ∈ vs → (L2.wipe σ vs).set i none = L2.wipe σ vs
  | [], h => by cases h
  | v :: vs, h => by
    show ((L2.wipe σ vs).set v none).set i none = (L2.wipe σ vs).set v none
    by_cases e : i = v
    · subst e; rw [List.set_set]
    · rw [List.set_comm _ _ (Ne.symm e), l2wipe_none ((List.mem_cons.mp h).resolve_left e)]
theorem l2wipe_set2 {σ : St} {i : Nat} {x : Option V} {vs : List Nat} (h : i ∈ vs) : (L2.wipe σ vs).set i none = L2.wipe σ vs := l2wipe_none h
theorem l2wipe_idem {σ : St} : ∀ {ws vs : List Nat}, (∀ w ∈ ws, w ∈ vs) → L2.wipe (L2.wipe σ vs) ws = L2.wipe σ vs
  | [], _, _ => rfl
  | w :: ws, vs, h => by
    show (L2.wipe (L2.wipe σ vs) ws).set w none = _
    rw [l2wipe_idem fun q hq => h q (List.mem_cons_of_mem _ hq), l2wipe_none (h w List.mem_cons_self)]
/-! ### targets -/
/-- a target that a comprehension or a loop stores into -/
def rG (K : PySem.W.Frag) (t : Tg) : TG := fun v σ H Q => ∃ env Fs d F, Rdl K H σ env Fs ∧ RD K H d v F ∧ Outc (tgSet t d env) (fun env' => ∀ σ' Fs', Rdl K H σ' env' Fs' → (∀ vs, (∀ i ∈ (match t with | .nm i => [i] | .tp is => is), i ∈ vs) → L2.wipe σ' vs = L2.wipe σ vs) → Q σ' H) (fun _ _ => False)
section
variable {X : Cx} {pos : Pos}
theorem pg_nm {i : Nat} {x : Str} (h : PG X (.Name x pos) (gName i)) : PG X (.Name x pos) (rG X.K (.nm i)) := ⟨fun pins s σ H v u Q I r ⟨env, Fs, d, F, R, rd, o⟩ => h.run pins s σ H v u Q I r
  ((show ∀ σ' Fs', _ → _ → Q σ' H from o) _ _ (R.set i rd) fun vs hv => l2wipe_set (hv i (by simp)))⟩
def rGs (K : PySem.W.Frag) (is : List Nat) : TGs := fun vs σ H Q => ∃ env Fs fs, Rdl K H σ env Fs ∧ RFs K H fs vs ∧ Outc (setMany is fs env) (fun env' => ∀ σ' Fs', Rdl K H σ' env' Fs' → (∀ ws, (∀ i ∈ is, i ∈ ws) → L2.wipe σ' ws = L2.wipe σ ws) → Q σ' H) (fun _ _ => False)
theorem pgs_n0 : PGs X [] (rGs X.K []) := ⟨fun pins s σ H vs us Q I r ⟨env, Fs, fs, R, rf, o⟩ => by
  cases fs with
  | nil =>
    cases rf
    exact pgs_nil.run pins s σ H [] us Q I r ⟨rfl, (show ∀ σ' Fs', _ → _ → Q σ' H from o) σ Fs R fun _ _ => rfl⟩
  | cons f fs => exact o.elim⟩
theorem pgs_nc {i : Nat} {is : List Nat} {x : Str} {es : List Expr} (h : PG X (.Name x pos) (gName i)) (hr : PGs X es (rGs X.K is)) (hs : (assignEach (.Name x pos :: es) X.env).map (·.2) = assign (.Name x pos) X.env :: (assignEach es X.env).map (·.2) := by rfl) : PGs X (.Name x pos :: es) (rGs X.K (i :: is)) := ⟨fun pins s σ H vs us Q I r ⟨env, Fs, fs, R, rf, o⟩ => by
  cases fs with
  | nil => exact o.elim
  | cons f fs =>
    obtain ⟨v, q, rfl, h1, h2⟩ := rf
    refine (pgs_cons h hr hs).run pins s σ H (v :: q) us Q I r ⟨v, q, rfl, setS env i (.fz f), fset Fs i [], fs, R.set i (d := .fz f) ⟨h1, rfl⟩, h2, Outc.mono (show Outc (setMany is fs (setS env i (.fz f))) _ _ from o) (fun env' _ k σ' Fs' R' w => k σ' Fs' R' fun ws hw => by
      rw [w ws fun j hj => hw j (List.mem_cons_of_mem _ hj), l2wipe_set (hw i List.mem_cons_self)]) fun _ _ z => z⟩⟩
theorem pg_tp {es : List Expr} {k : Nat} {is : List Nat} (hc : X.calm = true) (h : PGs X es (rGs X.K is)) (hl : is.length = es.length)
    (hn : (assignEach es X.env).length = es.length := by rfl) (hst : (assignEach es X.env).findIdx? (·.1) = none := by rfl) : PG X (.Tuple es k pos) (rG X.K (.tp is)) := ⟨fun pins s σ H v u Q I r ⟨env, Fs, d, F, R, rd, o⟩ => by
  refine (pg_tup (n := es.length) hc h hn hst).run pins s σ H v u Q I r ?_
  have go : ∀ {fs : List FD}, (∃ a vs, v = .ref a ∧ SqT X.K H a vs ∧ RFs X.K H fs vs) → Outc (setMany is fs env) (fun env' => ∀ σ' Fs', Rdl X.K H σ' env' Fs' → (∀ vs, (∀ i ∈ is, i ∈ vs) → L2.wipe σ' vs = L2.wipe σ vs) → Q σ' H) (fun _ _ => False) → gTup X.K es.length (rGs X.K is) v σ H Q := fun {fs} ⟨a, vs, e, ha, rf⟩ o => by
    refine ⟨a, vs, e, ha, ?_, env, Fs, fs, R, rf, o⟩
    rw [rf.length, ← hl]
    have z : ∀ (is : List Nat) (fs : List FD) (env : Env) (ok : Env → Prop) (er : Str → List (Str × FD) → Prop), Outc (setMany is fs env) ok er → fs.length = is.length := by
      intro is
      induction is with
      | nil =>
        intro fs env ok er o
        cases fs with
        | nil => rfl
        | cons _ _ => exact o.elim
      | cons i is ih =>
        intro fs env ok er o
        cases fs with
        | nil => exact o.elim
        | cons f fs => exact congrArg (· + 1) (ih fs (setS env i (.fz f)) ok er o)
    exact z is fs env _ _ o
  cases d with
  | fz f =>
    cases f with
    | tup fs => exact go rd.1.sqt o
    | cup fs => exact go rd.1 o
    | _ => exact o.elim
  | _ => exact o.elim⟩
end
end
end VL
set_option Elab.async false
set_option linter.all false
set_option maxRecDepth 100000
set_option maxHeartbeats 4000000
/-! VLG: comprehensions without effects; sorted; dict displays; <= of tuples. -/
namespace VL
open PySem L2
theorem Outc.noErr {α : Type} {r : Res α} {ok : α → Prop} {er : Str → List (Str × FD) → Prop} (h : Outc (VL.noErr r) ok er) : Outc r ok (fun _ _ => False) := by
  cases r <;> exact h
theorem setMany_ne : ∀ (is : List Nat) (fs : List FD) (env : Env) m gs, setMany is fs env ≠ .err m gs
  | [], [], _ => by intro m gs z; cases z
  | [], _ :: _, _ => by intro m gs z; cases z
  | _ :: _, [], _ => by intro m gs z; cases z
  | i :: is, f :: fs, env => setMany_ne is fs (setS env i (.fz f))
theorem tgSet_ne (t : Tg) (d : D) (env : Env) : ∀ m gs, tgSet t d env ≠ .err m gs := by
  intro m gs z
  cases t with
  | nm i => cases z
  | tp is =>
    cases d with
    | fz f =>
      cases f with
      | tup fs => exact setMany_ne is fs env m gs z
      | cup fs => exact setMany_ne is fs env m gs z
      | _ => cases z
    | _ => cases z
abbrev W0 : WX := fun _ _ _ _ => False
def tgs : Tg → List Nat
  | .nm i => [i]
  | .tp is => is
section
variable {K : PySem.W.Frag} {mg : Str → Option Value} {W : WX} {src : Env → Res (List D)} {tg : Tg} {test elt : E} {own : List Nat}
theorem er0 {α : Type} {σ : St} {H : Hp} {r : Res α} {ok : α → Prop} (h : Outc r ok (fun _ _ => False)) : Outc r ok (ER K mg W0 σ H) := h.mono (fun _ _ k => k) fun _ _ z => z.elim
/-- what the turn's test is -/
structure TestOk (K : PySem.W.Frag) (mg : Str → Option Value) (test : E) (tt : TT) : Prop where
  of : ∀ σ H Q, rT K mg W0 test σ H Q → tt σ H Q
theorem comp_imp {tt : TT} (ht : TestOk K mg test tt) (hsub : ∀ i ∈ tgs tg, i ∈ own) : ∀ σ H Q, rN K mg W (eComp own src tg test elt) σ H Q → tLc (rI K mg W src) (rG K tg) tt (rN K mg W0 elt) own σ H Q := by
  rintro σ H Q ⟨env, Fs, R, o⟩
  refine ⟨env, Fs, R, o.bnd.mono (fun ds _ od J vs G F P H1 s1 S pv D hD => ?_) fun _ _ z => z⟩
  obtain ⟨zl, od⟩ := Outc.need od
  have o1 := Outc.noErr od.bnd
  have fD : D ∉ F := fun hm => by
    obtain ⟨ob, e, _⟩ := (S.rds H1 S.now).1 D hm
    rw [hD] at e; cases e
  have len := (S.rds H1 S.now).2.length
  refine ⟨fun i m H2 => m = vs.length - i ∧ i ≤ vs.length ∧ ∃ acc accV GA, Same H1 H2 ∧ P H2 ∧ H2 D = some (.lst accV) ∧ RDs K H2 acc accV GA ∧ GA.Nodup ∧ (∀ b ∈ GA, H1 b = none ∧ b ≠ D) ∧ acc.length ≤ i ∧
    Outc (compL tg test elt (VL.wipe own env) (ds.drop i)) (fun xs => KN K H Q (.lst (acc ++ xs))) (fun _ _ => False), ⟨vs.length, by simp, Nat.zero_le _, [], [], [], same_upd hD, ?_, upd_same, ⟨rfl, rfl⟩, List.nodup_nil, (fun b hb => by cases hb), Nat.le_refl _, ?_⟩, ?_⟩
  · exact S.keep H1 _ (fun _ => False) (.same (same_upd hD)) noF (fun _ _ z => z) S.now
  · exact o1.mono (fun xs _ k => k) fun _ _ z => z
  · rintro i m H2 ⟨rfl, hi, acc, accV, GA, s2, p2, hD2, racc, nGA, fGA, lacc, oo⟩
    by_cases hlt : i < vs.length
    · refine .inr ⟨S.walk.go i H2 p2 hlt, fun H' => i + 1 ≤ vs.length ∧ ∃ acc accV GA, Same H1 H' ∧ P H' ∧ H' D = some (.lst accV) ∧ RDs K H' acc accV GA ∧ GA.Nodup ∧ (∀ b ∈ GA, H1 b = none ∧ b ≠ D) ∧ acc.length ≤ i + 1 ∧
        Outc (compL tg test elt (VL.wipe own env) (ds.drop (i + 1))) (fun xs => KN K H Q (.lst (acc ++ xs))) (fun _ _ => False), fun H' h => ⟨vs.length - (i + 1), by omega, rfl, h⟩, fun x H' y => ?_⟩
      obtain ⟨rfl, hx⟩ := S.walk.yld i H2 x H' p2 hlt y
      have hd : i < ds.length := by omega
      have rds := (S.rds H' p2).2
      obtain ⟨v, F', hv, rd, subF, _⟩ := rds.get (i := i) (f := ds[i]) (by simp [hd])
      have ev : v = x := Option.some.inj (hv.symm.trans hx)
      subst ev
      have ed : ds.drop i = ds[i] :: ds.drop (i + 1) := List.drop_eq_getElem_cons hd
      rw [ed] at oo
      have oo : Outc ((tgSet tg ds[i] (VL.wipe own env)).bind fun env' => (test env').bind fun t => t.bool?.bind fun k => if k = true then (elt env').bind fun x => (compL tg test elt (VL.wipe own env) (ds.drop (i + 1))).bind fun xs => .ok (x :: xs) else compL tg test elt (VL.wipe own env) (ds.drop (i + 1))) _ _ := oo
      obtain ⟨env', eenv, oo⟩ := Outc.okOf oo.bnd (tgSet_ne _ _ _)
      refine ⟨VL.wipe own env, Fs, ds[i], F', ((R.same s1).same s2).wipe own, rd, ?_⟩
      rw [eenv]
      intro σ2 Fs2 R2 w2
      refine ⟨by rw [w2 own (by intro j hj; exact hsub j (by cases tg <;> exact hj)), l2wipe_idem (fun _ h => h)], ht.of _ _ _ ⟨env', Fs2, R2, (er0 oo.bnd).mono (fun t _ ot => ?_) fun _ _ z => z⟩⟩
      obtain ⟨k, rfl, ok⟩ := Outc.bool ot.bnd
      refine ⟨k, rfl, fun H3 s3 => ?_⟩
      cases k with
      | false =>
        refine ⟨hlt, acc, accV, GA, s2.trans s3, S.keep _ _ (fun _ => False) (.same s3) noF (fun _ _ z => z) p2, s3 _ _ hD2, racc.same s3, nGA, fGA, by omega, ok⟩
      | true =>
        refine ⟨env', Fs2, R2.same s3, (er0 (Outc.bnd ok)).mono (fun y _ oy v4 F4 H4 s4 r4 n4 f4 => ?_) fun _ _ z => z⟩
        have s14 := (s2.trans s3).trans s4
        have hD4 := s4 _ _ (s3 _ _ hD2)
        have keepD : KeepX (fun b => b = D) H4 (upd H4 D (.lst (accV ++ [v4]))) := fun b ob e nb => by rw [upd_ne nb]; exact e
        have mutD : ∀ b, (fun b => b = D) b → MutAt H4 b := fun b e => by subst e; exact ⟨_, hD4, trivial⟩
        have f4D : ∀ b ∈ F4, b ≠ D := fun b hb e => by
          subst e
          have z := f4 b hb
          rw [s3 _ _ hD2] at z; cases z
        refine ⟨accV, hD4, ?_, hlt, acc ++ [y], accV ++ [v4], GA ++ F4, fun b ob e => ?_, ?_, upd_same, ?_, ?_, fun b hb => ?_, by simp; omega, ?_⟩
        · rw [racc.length, sizeLine_eq]
          omega
        · have nb : b ≠ D := ne_of_none e hD
          rw [upd_ne nb]
          exact s14 _ _ e
        · exact S.keep H4 _ _ keepD mutD (fun b hb e => by subst e; exact fD hb) (S.keep _ _ (fun _ => False) (.same (s3.trans s4)) noF (fun _ _ z => z) p2)
        · exact RDs.append (((racc.same s3).same s4).keep keepD mutD fun b hb => (fGA b hb).2) ⟨v4, [], F4, [], rfl, r4.keep keepD mutD f4D, ⟨rfl, rfl⟩, by simp⟩
        · refine List.nodup_append.mpr ⟨nGA, n4, fun a ha b hb e => ?_⟩
          subst e
          obtain ⟨ob, e1, _⟩ := (racc.same s3).mut a ha
          rw [f4 a hb] at e1; cases e1
        · rcases List.mem_append.mp hb with hb | hb
          · exact fGA b hb
          · exact ⟨(s2.trans s3).free (f4 b hb), f4D b hb⟩
        · exact oy.bnd.mono (fun xs _ k => by
            have e : acc ++ [y] ++ xs = acc ++ (y :: xs) := by simp
            rw [e]
            exact k) fun _ _ z => z
    · have ei : i = vs.length := by omega
      refine .inl ⟨S.walk.stop i H2 p2 (by omega), ?_⟩
      have ed : ds.drop i = [] := List.drop_eq_nil_iff.mpr (by omega)
      rw [ed] at oo
      have k : KN K H Q (.lst (acc ++ [])) := oo
      rw [List.append_nil] at k
      refine k (.ref D) (D :: GA) H2 (s1.trans s2) ⟨D, accV, GA, rfl, hD2, racc, rfl⟩ (List.nodup_cons.mpr ⟨fun hm => (fGA D hm).2 rfl, nGA⟩) fun b hb => ?_
      rcases List.mem_cons.mp hb with rfl | hb
      · exact s1.free hD
      · exact s1.free (fGA b hb).1
theorem test_yes : TestOk K mg eYes tYes := ⟨fun σ H Q ⟨env, Fs, R, o⟩ => by
  obtain ⟨k, e, q⟩ := (show ∃ k, D.fz (.bl true) = .fz (.bl k) ∧ ∀ H', Same H H' → Q k H' from o)
  cases e
  exact q H (Same.refl H)⟩
theorem test_if : TestOk K mg test (rT K mg W0 test) := ⟨fun _ _ _ h => h⟩
end
section
variable {X : Cx} {W : WX} {target iter elt0 c : Expr} {src : Env → Res (List D)} {tg : Tg} {test elt : E} {scope : Scope} {ownN : List (Str × Nat)} {pos py spos : Pos}
theorem pn_comp (hc : X.calm = true) (hN : X.N.Nodup) (hi : PII X W target iter src) (ok : BlkOk X.N X.env.scope scope ownN) (hsub : ∀ i ∈ tgs tg, i ∈ ownN.map (·.2))
    (hg : ∀ (s : Shared) (H : Hp) (C : Addr) (cl : List (Str × Addr)) (fp : List Addr), PG (X.blk s H scope (compEnvC scope cl C X.env) fp) target (rG X.K tg))
    (he : ∀ (s : Shared) (H : Hp) (C : Addr) (cl : List (Str × Addr)) (fp : List Addr), PE (X.blk s H scope (compEnvC scope cl C X.env) fp) elt0 (rN X.K X.mg W0 elt)) (hs : ∀ x, foldedSetIterable iter X.env x = pure x := by intro _; rfl) :
    PN X W (.ListComp elt0 [⟨target, iter, [], 0⟩] scope pos) (eComp (ownN.map (·.2)) src tg eYes elt) := (pe_lc hc hN hi ok hg (fun _ _ _ _ _ => pts_nil) he hs).imp (comp_imp test_yes hsub)
theorem pn_compIf (hc : X.calm = true) (hN : X.N.Nodup) (hi : PII X W target iter src) (ok : BlkOk X.N X.env.scope scope ownN) (hsub : ∀ i ∈ tgs tg, i ∈ ownN.map (·.2))
    (hg : ∀ (s : Shared) (H : Hp) (C : Addr) (cl : List (Str × Addr)) (fp : List Addr), PG (X.blk s H scope (compEnvC scope cl C X.env) fp) target (rG X.K tg))
    (ht : ∀ (s : Shared) (H : Hp) (C : Addr) (cl : List (Str × Addr)) (fp : List Addr), PT (X.blk s H scope (compEnvC scope cl C X.env) fp) c (rT X.K X.mg W0 test))
    (he : ∀ (s : Shared) (H : Hp) (C : Addr) (cl : List (Str × Addr)) (fp : List Addr), PE (X.blk s H scope (compEnvC scope cl C X.env) fp) elt0 (rN X.K X.mg W0 elt)) (hs : ∀ x, foldedSetIterable iter X.env x = pure x := by intro _; rfl) :
    PN X W (.ListComp elt0 [⟨target, iter, [c], 0⟩] scope pos) (eComp (ownN.map (·.2)) src tg test elt) := (pe_lc hc hN hi ok hg (fun s H C cl fp => pts_one (ht s H C cl fp)) he hs).imp (comp_imp test_if hsub)
end
end VL
set_option Elab.async false
set_option linter.all false
set_option maxRecDepth 100000
set_option maxHeartbeats 4000000
/-! VLS: states with owned slots; expressions with effects; simple statements. -/
namespace VL
open PySem L2
theorem outc_var {i : Nat} {env : Env} {ok : D → Prop} {er : Str → List (Str × FD) → Prop} (h : Outc (eVar i env) ok er) : ∃ d, env[i]? = some (some d) ∧ ok d := by
  unfold eVar at h
  split at h
  · exact ⟨_, by assumption, h⟩
  · exact h.elim
/-- the slots that own what may change in them; all others are read alone -/
structure RL where
  own : List Nat
instance : Membership Nat RL := ⟨fun R i => i ∉ R.own⟩
theorem RL.ni {own : List Nat} {i : Nat} (h : i ∈ own) : i ∉ (RL.mk own) := fun z => z h
theorem RL.of_ni {R : RL} {i : Nat} (h : i ∉ R) : i ∈ R.own := Classical.byContradiction h
/-- R: the slots that are read alone (what they hold may overlap); every other slot owns what may change in it -/
structure RS (K : PySem.W.Frag) (R : RL) (H : Hp) (σ : St) (env : Env) (Fs : Nat → List Addr) : Prop where
  rdl : Rdl K H σ env Fs
  non : ∀ i, (∀ d, env[i]? ≠ some (some d)) → Fs i = []
  own : ∀ i, i ∉ R → (Fs i).Nodup ∧ ∀ b ∈ Fs i, ∀ j, j ≠ i → b ∉ Fs j
def inO (R : RL) (Fs : Nat → List Addr) (b : Addr) : Prop := ∃ i, i ∉ R ∧ b ∈ Fs i
structure Stp (R : RL) (P : List Nat) (σ : St) (env : Env) (Fs : Nat → List Addr) (H : Hp) (σ' : St) (env' : Env) (Fs' : Nat → List Addr) (H' : Hp) : Prop where
  keep : KeepX (inO R Fs) H H'
  sub : ∀ b, inO R Fs' b → inO R Fs b ∨ H b = none
  pin : ∀ i, i ∈ P ∨ i ∈ R → σ'[i]? = σ[i]?
  ro : ∀ i ∈ R, Fs' i = Fs i ∧ env'[i]? = env[i]?
section
variable {K : PySem.W.Frag} {R : RL} {P : List Nat} {H H1 H2 H' : Hp} {σ σ1 σ2 : St} {env env1 env2 : Env} {Fs Fs1 Fs2 : Nat → List Addr}
theorem RS.mut (h : RS K R H σ env Fs) {i : Nat} {b : Addr} (hb : b ∈ Fs i) : MutAt H b := by
  by_cases e : ∃ d, env[i]? = some (some d)
  · obtain ⟨d, e⟩ := e
    obtain ⟨v, _, r⟩ := h.rdl.2 i d e
    exact r.mut b hb
  · rw [h.non i fun d z => e ⟨d, z⟩] at hb
    cases hb
theorem RS.mutO (h : RS K R H σ env Fs) : ∀ b, inO R Fs b → MutAt H b := fun b ⟨i, _, hb⟩ => h.mut hb
theorem RS.freeAt (h : RS K R H σ env Fs) {b : Addr} (e : H b = none) (i : Nat) : b ∉ Fs i := fun hb => by
  obtain ⟨o, e', _⟩ := h.mut hb
  rw [e] at e'; cases e'
theorem RS.same (h : RS K R H σ env Fs) (s : Same H H') : RS K R H' σ env Fs := ⟨h.rdl.same s, h.non, h.own⟩
theorem Stp.refl : Stp R P σ env Fs H σ env Fs H := ⟨fun _ _ e _ => e, fun _ h => .inl h, fun _ _ => rfl, fun _ _ => ⟨rfl, rfl⟩⟩
theorem Stp.same (s : Same H H') : Stp R P σ env Fs H σ env Fs H' := ⟨.same s, fun _ h => .inl h, fun _ _ => rfl, fun _ _ => ⟨rfl, rfl⟩⟩
theorem Stp.trans (a : Stp R P σ env Fs H σ1 env1 Fs1 H1) (b : Stp R P σ1 env1 Fs1 H1 σ2 env2 Fs2 H2) : Stp R P σ env Fs H σ2 env2 Fs2 H2 where
  keep := fun x o e n => b.keep x o (a.keep x o e n) fun h => (a.sub x h).elim n fun z => by rw [e] at z; cases z
  sub := fun x h => (b.sub x h).elim (fun z => a.sub x z) fun z => by
    by_cases q : inO R Fs x
    · exact .inl q
    · refine .inr ?_
      cases e : H x with
      | none => rfl
      | some o => rw [a.keep x o e q] at z; cases z
  pin := fun i h => (b.pin i h).trans (a.pin i h)
  ro := fun i h => ⟨(b.ro i h).1.trans (a.ro i h).1, (b.ro i h).2.trans (a.ro i h).2⟩
/-- what was free behind was free or owned ahead -/
theorem Stp.back (a : Stp R P σ env Fs H σ1 env1 Fs1 H1) {b : Addr} (e : H1 b = none) : inO R Fs b ∨ H b = none := by
  by_cases q : inO R Fs b
  · exact .inl q
  · refine .inr ?_
    cases e' : H b with
    | none => rfl
    | some o => rw [a.keep b o e' q] at e; cases e
theorem Stp.mono {P' : List Nat} (a : Stp R P' σ env Fs H σ1 env1 Fs1 H1) (h : ∀ i ∈ P, i ∈ P' ∨ i ∈ R) : Stp R P σ env Fs H σ1 env1 Fs1 H1 :=
  ⟨a.keep, a.sub, fun i hi => a.pin i (hi.elim (h i) .inr), a.ro⟩
end
def EX (K : PySem.W.Frag) (mg : Str → Option Value) (W : WX) (R : RL) (σ : St) (Fs : Nat → List Addr) (H : Hp) (n : Str) (fs : List (Str × FD)) : Prop :=
  ∀ cls dd H' σ', KeepX (inO R Fs) H H' → (∀ i ∈ R, σ'[i]? = σ[i]?) → σ'.length = σ.length → ErrAt K mg H' n fs cls dd → W cls dd σ' H'
/-- a value of one's own: made, or moved out of a slot -/
structure Own (R : RL) (Fs : Nat → List Addr) (H : Hp) (Fs' : Nat → List Addr) (G : List Addr) : Prop where
  nd : G.Nodup
  apart : ∀ b ∈ G, ∀ j, b ∉ Fs' j
  orig : ∀ b ∈ G, inO R Fs b ∨ H b = none
def KX (K : PySem.W.Frag) (R : RL) (σ : St) (env : Env) (Fs : Nat → List Addr) (H : Hp) (Q : VK) (p : D × Env) : Prop :=
  ∀ v G H' Fs', RS K R H' σ p.2 Fs' → Stp R [] σ env Fs H σ p.2 Fs' H' → RD K H' p.1 v G → Own R Fs H Fs' G → Q v H'
def rX (K : PySem.W.Frag) (mg : Str → Option Value) (W : WX) (R : RL) (m : MX) : TE := fun σ H Q => ∃ env Fs, RS K R H σ env Fs ∧ Outc (m env) (KX K R σ env Fs H Q) (EX K mg W R σ Fs H)
abbrev PX (X : Cx) (W : WX) (R : RL) (e : Expr) (m : MX) : Prop := PE X e (rX X.K X.mg W R m)
section
variable {K : PySem.W.Frag} {mg : Str → Option Value} {W : WX} {R : RL} {P : List Nat} {H H1 H2 H' : Hp} {σ σ1 σ2 : St} {env env1 env2 : Env} {Fs Fs1 Fs2 : Nat → List Addr} {Q : VK} {d : D} {n : Str} {fs : List (Str × FD)}
theorem EX.er (h : EX K mg W R σ Fs H n fs) : ER K mg W σ H n fs := fun c dd H' s e => h c dd H' σ (.same s) (fun _ _ => rfl) rfl e
theorem EX.later (h : EX K mg W R σ Fs H n fs) (s : Stp R P σ env Fs H σ1 env1 Fs1 H1) (hl : σ1.length = σ.length) : EX K mg W R σ1 Fs1 H1 n fs := fun c dd H' σ' k r l e =>
  h c dd H' σ' (fun x o ex nx => k x o (s.keep x o ex nx) fun hx => (s.sub x hx).elim nx fun z => by rw [ex] at z; cases z) (fun i hi => (r i hi).trans (s.pin i (.inr hi))) (l.trans hl) e
theorem Own.fresh (rs : RS K R H1 σ1 env1 Fs1) (s : Stp R P σ env Fs H σ1 env1 Fs1 H1) {G : List Addr} (nd : G.Nodup) (f : ∀ b ∈ G, H1 b = none) : Own R Fs H Fs1 G :=
  ⟨nd, fun b hb j => rs.freeAt (f b hb) j, fun b hb => s.back (f b hb)⟩
theorem Own.nil : Own R Fs H Fs1 [] := ⟨List.nodup_nil, fun _ h => (by cases h), fun _ h => (by cases h)⟩
/-- from a state that was reached, a made value -/
theorem KX.kn (k : KX K R σ env Fs H Q (d, env1)) (rs : RS K R H1 σ env1 Fs1) (s : Stp R [] σ env Fs H σ env1 Fs1 H1) : KN K H1 Q d := fun v F H' s' rd nd f =>
  k v F H' Fs1 (rs.same s') (s.trans (.same s')) rd ⟨nd, fun b hb j => rs.freeAt (f b hb) j, fun b hb => s.back (f b hb)⟩
theorem KX.fz {f : FD} {v : V} (k : KX K R σ env Fs H Q (.fz f, env1)) (rs : RS K R H1 σ env1 Fs1) (s : Stp R [] σ env Fs H σ env1 Fs1 H1) (r : RF K H1 f v) : Q v H1 := (k.kn rs s).fz r
/-- an owned value stays over a step -/
theorem RD.stp {v : V} {G : List Addr} (h : RD K H1 d v G) (o : ∀ b ∈ G, ∀ j, b ∉ Fs1 j) (rs : RS K R H1 σ1 env1 Fs1) (s : Stp R P σ1 env1 Fs1 H1 σ2 env2 Fs2 H2) : RD K H2 d v G :=
  h.keep s.keep rs.mutO fun b hb ⟨i, _, hi⟩ => o b hb i hi
theorem Own.stp {G : List Addr} {d : D} {v : V} (o : Own R Fs H Fs1 G) (rd : RD K H1 d v G) (rs1 : RS K R H1 σ1 env1 Fs1) (s : Stp R P σ1 env1 Fs1 H1 σ2 env2 Fs2 H2) : Own R Fs H Fs2 G :=
  ⟨o.nd, fun b hb j hj => by
    by_cases hR : j ∈ R
    · exact o.apart b hb j (by rw [← (s.ro j hR).1]; exact hj)
    · rcases s.sub b ⟨j, hR, hj⟩ with ⟨i, _, hi⟩ | z
      · exact o.apart b hb i hi
      · obtain ⟨ob, e, _⟩ := rd.mut b hb
        rw [z] at e
        exact absurd e (by simp), o.orig⟩
theorem Own.trans {G : List Addr} (s : Stp R P σ env Fs H σ1 env1 Fs1 H1) (o : Own R Fs1 H1 Fs2 G) : Own R Fs H Fs2 G :=
  ⟨o.nd, o.apart, fun b hb => (o.orig b hb).elim (fun z => s.sub b z) fun z => s.back z⟩
end
section
variable {X : Cx} {W : WX} {R : RL} {a b c e : Expr} {ma mb mc : MX} {m : E} {pos : Pos}
theorem px_f (h : PN X W e m) : PX X W R e (xF m) := h.imp fun σ H Q ⟨env, Fs, r, o⟩ => ⟨env, Fs, r.rdl, o.bnd.mono (fun d _ k v F H' s rd nd f => (KX.kn (show KX X.K R σ env Fs H Q (d, env) from k) r .refl) v F H' s rd nd f) fun _ _ z => z.er⟩
theorem px_z (h : PB X W e m) : PX X W R e (xZ m) := h.imp fun σ H Q ⟨env, Fs, r, o⟩ => ⟨env, Fs, r.rdl, o.bnd.mono (fun d _ k v F H' s rd _ => by
  obtain ⟨f, rfl, q⟩ := Outc.fz k.bnd
  exact KX.fz (show KX X.K R σ env Fs H Q (.fz f, env) from q) (r.same s) (.same s) rd.1) fun _ _ z => z.er⟩
theorem px_mv {i : Nat} {x : Str} (h : PE X (.Name x pos) (tVar i)) (hi : i ∉ R) : PX X W R (.Name x pos) (xMv i) := h.imp fun σ H Q ⟨env, Fs, r, o⟩ => by
  obtain ⟨d, e, o⟩ := outc_var o.bnd
  · obtain ⟨v, ev, rd⟩ := r.rdl.2 i d e
    have hl : i < env.length := by
      by_cases l : i < env.length
      · exact l
      · rw [List.getElem?_eq_none_iff.mpr (by omega)] at e; cases e
    refine ⟨v, ev, (show KX X.K R σ env Fs H Q (d, env.set i none) from o) v (Fs i) H (fset Fs i []) ⟨⟨by rw [List.length_set, r.rdl.1], fun j d' e' => ?_⟩, fun j hj => ?_, fun j hj => ?_⟩ ⟨fun _ _ e _ => e, fun b ⟨j, hj, hb⟩ => .inl ⟨j, hj, ?_⟩, fun _ _ => rfl, fun j hj => ?_⟩ rd ⟨(r.own i hi).1, fun b hb j hj => ?_, fun b hb => .inl ⟨i, hi, hb⟩⟩⟩
    · by_cases z : i = j
      · subst z; rw [List.getElem?_set_self hl] at e'; cases e'
      · rw [List.getElem?_set_ne z] at e'
        obtain ⟨v', h1, h2⟩ := r.rdl.2 j d' e'
        exact ⟨v', h1, by unfold fset; rw [if_neg (Ne.symm z)]; exact h2⟩
    · unfold fset
      by_cases z : j = i
      · rw [if_pos z]
      · rw [if_neg z]
        exact r.non j fun d' e' => hj d' (by rw [List.getElem?_set_ne (Ne.symm z)]; exact e')
    · unfold fset
      by_cases z : j = i
      · rw [if_pos z]; exact ⟨List.nodup_nil, fun _ h => (by cases h)⟩
      · rw [if_neg z]
        refine ⟨(r.own j hj).1, fun b hb k hk => ?_⟩
        by_cases z' : k = i
        · rw [if_pos z']; exact List.not_mem_nil
        · rw [if_neg z']; exact (r.own j hj).2 b hb k hk
    · unfold fset at hb
      by_cases z : j = i
      · rw [if_pos z] at hb; cases hb
      · rw [if_neg z] at hb; exact hb
    · have z : j ≠ i := fun e => hi (e ▸ hj)
      unfold fset
      rw [if_neg z]
      exact ⟨rfl, List.getElem?_set_ne (Ne.symm z)⟩
    · unfold fset at hj
      by_cases z : j = i
      · rw [if_pos z] at hj; cases hj
      · rw [if_neg z] at hj; exact (r.own i hi).2 b hb j z hj
/-! ### operators with effects in their operands -/
theorem xbin_imp {f : D → D → Res D} {r : R2} (hs : Snd X.K f r) : ∀ σ H Q, rX X.K X.mg W R (xBin f ma mb) σ H Q → tOp r (rX X.K X.mg W R ma) (rX X.K X.mg W R mb) σ H Q := fun σ H Q ⟨env, Fs, rs, o⟩ =>
  ⟨env, Fs, rs, o.bnd.mono (fun p _ op v1 G1 H1 Fs1 rs1 s1 r1 o1 => ⟨p.2, Fs1, rs1, op.bnd.mono (fun q _ oq v2 G2 H2 Fs2 rs2 s2 r2 o2 =>
    hs p.1 q.1 v1 v2 G1 G2 H2 Q _ (r1.stp o1.apart rs1 s2) r2 (oq.bnd.mono (fun d _ k => KX.kn (show KX X.K R σ env Fs H Q (d, q.2) from k) rs2 (s1.trans s2)) fun _ _ z => z)) fun _ _ z => z.later s1 rfl⟩) fun _ _ z => z⟩
theorem px_bin {op : Operator} {f : D → D → Res D} {r : R2} (ho : OpR X (binaryOp op) r) (hs : Snd X.K f r) (ha : PX X W R a ma) (hb : PX X W R b mb) : PX X W R (.BinOp a op b pos) (xBin f ma mb) := (pe_op ho ha hb).imp (xbin_imp hs)
theorem px_cmp {op : CmpOp} {f : D → D → Res D} {r : R2} (ho : OpR X (compareOp op) r) (hs : Snd X.K f r) (ha : PX X W R a ma) (hb : PX X W R b mb) (hm : behindInMarks op b = false) : PX X W R (.Compare a [op] [b] pos) (xBin f ma mb) := (pe_cmpR ho ha hb hm).imp (xbin_imp hs)
/-- slot[i], i with effects -/
theorem px_ixV {j : Nat} {x : Str} {p1 : Pos} (hu : X.A.units + 1 < cLine) (hv : PE X (.Name x p1) (tVar j)) (hb : PX X W R b mb) (hs : PlainIx b) : PX X W R (.Subscript (.Name x p1) b pos) (xIxV j mb) := (pe_ix (o_ix hu) hv hb hs).imp fun σ H Q ⟨env, Fs, rs, o⟩ => by
  obtain ⟨d0, e0, o⟩ := outc_var o.bnd
  obtain ⟨v, ev, _⟩ := rs.rdl.2 j d0 e0
  refine ⟨v, ev, env, Fs, rs, o.bnd.mono (fun q _ oq y G H2 Fs2 rs2 s2 r2 o2 => ?_) fun _ _ z => z⟩
  obtain ⟨d, e, oq⟩ := outc_var oq.bnd
  obtain ⟨v', ev', rd⟩ := rs2.rdl.2 j d e
  rw [ev] at ev'; cases ev'
  exact sndIx rd r2 (oq.bnd.mono (fun dd _ k v' F' rd' _ _ => by
    obtain ⟨f, rfl, q'⟩ := Outc.fz k.bnd
    exact KX.fz (show KX X.K R σ env Fs H Q (.fz f, q.2) from q') rs2 s2 rd'.1) fun _ _ z => z)
end
end VL
set_option Elab.async false
set_option linter.all false
set_option maxRecDepth 100000
set_option maxHeartbeats 4000000
/-! VLT: tests, argument lists, calls and displays with effects; simple statements. -/
namespace VL
open PySem L2
/-! ### tests -/
def KT1 (K : PySem.W.Frag) (R : RL) (σ : St) (env : Env) (Fs : Nat → List Addr) (H : Hp) (Q : Bool → Hp → Prop) (p : D × Env) : Prop :=
  ∃ k, p.1 = .fz (.bl k) ∧ ∀ H' Fs', RS K R H' σ p.2 Fs' → Stp R [] σ env Fs H σ p.2 Fs' H' → Q k H'
def rXT (K : PySem.W.Frag) (mg : Str → Option Value) (W : WX) (R : RL) (m : MX) : TT := fun σ H Q => ∃ env Fs, RS K R H σ env Fs ∧ Outc (m env) (KT1 K R σ env Fs H Q) (EX K mg W R σ Fs H)
abbrev PXT (X : Cx) (W : WX) (R : RL) (e : Expr) (m : MX) : Prop := PT X e (rXT X.K X.mg W R m)
abbrev PXW (X : Cx) (W : WX) (R : RL) (e : Expr) (m : MX) : Prop := PW X e (rXT X.K X.mg W R m)
section
variable {X : Cx} {W : WX} {R : RL} {P : List Nat} {a b c e : Expr} {ma mb mc mx : MX} {m : E} {pos : Pos} {rest : List Expr}
theorem kt_kx {K : PySem.W.Frag} {σ : St} {env : Env} {Fs : Nat → List Addr} {H : Hp} {Q : Bool → Hp → Prop} {p : D × Env} (h : KT1 K R σ env Fs H Q p) : KX K R σ env Fs H (fun x H1 => ∃ c, x = .bl c ∧ Q c H1) p := by
  obtain ⟨k, e, q⟩ := h
  intro v G H' Fs' rs s rd _
  rw [e] at rd
  exact ⟨k, rd.1, q H' Fs' rs s⟩
/-- a test without effects -/
theorem pxt_f (h : PTT X W e m) : PXT X W R e (xF m) := h.imp fun σ H Q ⟨env, Fs, r, o⟩ => ⟨env, Fs, r.rdl, o.bnd.mono (fun d _ k => by
  obtain ⟨kk, ed, q⟩ := k
  exact ⟨kk, ed, fun H' s => q H' Fs (r.same s) (.same s)⟩) fun _ _ z => z.er⟩
/-- a value with effects as a test -/
theorem pxt_v (h : PX X W R e mx) (he : ∀ whole, isTrue e X.env whole = (do let v ← whole; standAt e.pos; holding [v] (truthy v)) := by intro _; rfl) : PXT X W R e mx := (pt_val h he).imp fun σ H Q ⟨env, Fs, r, o⟩ => ⟨env, Fs, r, o.mono (fun _ _ k => kt_kx k) fun _ _ z => z⟩
theorem pxt_cmp {op : CmpOp} {f : D → D → Res D} {r : R2} (ho : OpR X (compareOp op) r) (hs : Snd X.K f r) (ha : PX X W R a ma) (hb : PX X W R b mb) (hm : behindInMarks op b = false) : PXT X W R (.Compare a [op] [b] pos) (xBin f ma mb) := (pt_cmpR ho ha hb hm).imp fun σ H Q ⟨env, Fs, rs, o⟩ =>
  xbin_imp hs σ H _ ⟨env, Fs, rs, o.mono (fun _ _ k => kt_kx k) fun _ _ z => z⟩
theorem kt_later {K : PySem.W.Frag} {σ : St} {env env1 : Env} {Fs Fs1 : Nat → List Addr} {H H1 : Hp} {Q : Bool → Hp → Prop} {p : D × Env} (h : KT1 K R σ env Fs H Q p) (s1 : Stp R [] σ env Fs H σ env1 Fs1 H1) : KT1 K R σ env1 Fs1 H1 Q p := by
  obtain ⟨k, e, q⟩ := h
  exact ⟨k, e, fun H' Fs' rs s => q H' Fs' rs (s1.trans s)⟩
theorem xand_imp : ∀ σ H Q, rXT X.K X.mg W R (xAnd ma mb) σ H Q → tAnd (rXT X.K X.mg W R ma) (rXT X.K X.mg W R mb) σ H Q := fun σ H Q ⟨env, Fs, rs, o⟩ => by
  refine ⟨env, Fs, rs, o.bnd.mono (fun p _ k => ?_) fun _ _ z => z⟩
  obtain ⟨k, e, q⟩ := Outc.bool k.bnd
  refine ⟨k, e, fun H1 Fs1 rs1 s1 => ?_⟩
  cases k with
  | true => exact ⟨p.2, Fs1, rs1, Outc.mono q (fun _ _ k => kt_later k s1) fun _ _ z => z.later s1 rfl⟩
  | false =>
    obtain ⟨c, e, z⟩ := (show KT1 X.K R σ env Fs H Q (.fz (.bl false), p.2) from q)
    cases e
    exact z H1 Fs1 rs1 s1
theorem xor_imp : ∀ σ H Q, rXT X.K X.mg W R (xOr ma mb) σ H Q → tOr (rXT X.K X.mg W R ma) (rXT X.K X.mg W R mb) σ H Q := fun σ H Q ⟨env, Fs, rs, o⟩ => by
  refine ⟨env, Fs, rs, o.bnd.mono (fun p _ k => ?_) fun _ _ z => z⟩
  obtain ⟨k, e, q⟩ := Outc.bool k.bnd
  refine ⟨k, e, fun H1 Fs1 rs1 s1 => ?_⟩
  cases k with
  | false => exact ⟨p.2, Fs1, rs1, Outc.mono q (fun _ _ k => kt_later k s1) fun _ _ z => z.later s1 rfl⟩
  | true =>
    obtain ⟨c, e, z⟩ := (show KT1 X.K R σ env Fs H Q (.fz (.bl true), p.2) from q)
    cases e
    exact z H1 Fs1 rs1 s1
theorem pxwAnd1 (h : PXT X W R a ma) : PXW X W R (.BoolOp .And [a] pos) ma := pw_and1 h
theorem pxwOr1 (h : PXT X W R a ma) : PXW X W R (.BoolOp .Or [a] pos) ma := pw_or1 h
theorem pxwAnd (h : PXT X W R a ma) (h2 : PXW X W R (.BoolOp .And (b :: rest) pos) mb) : PXW X W R (.BoolOp .And (a :: b :: rest) pos) (xAnd ma mb) := (pw_and h h2).imp xand_imp
theorem pxwOr (h : PXT X W R a ma) (h2 : PXW X W R (.BoolOp .Or (b :: rest) pos) mb) : PXW X W R (.BoolOp .Or (a :: b :: rest) pos) (xOr ma mb) := (pw_or h h2).imp xor_imp
theorem pxtW (h : PXW X W R e mx) : PXT X W R e mx := h.pt
theorem pxtNot (h : PXT X W R a ma) : PXT X W R (.UnaryOp .Not a pos) (xNot ma) := (pt_not h).imp fun σ H Q ⟨env, Fs, rs, o⟩ => ⟨env, Fs, rs, o.bnd.mono (fun p _ k => by
    obtain ⟨k, e, q⟩ := Outc.bool k.bnd
    obtain ⟨c, e2, z⟩ := q
    cases e2
    exact ⟨k, e, fun H1 Fs1 rs1 s1 => z H1 Fs1 rs1 s1⟩) fun _ _ z => z⟩
theorem pxIf (hc : PXT X W R c mc) (ha : PX X W R a ma) (hb : PX X W R b mb) : PX X W R (.IfExp c a b pos) (xIf mc ma mb) := (pe_ifExp hc ha hb).imp fun σ H Q ⟨env, Fs, rs, o⟩ => by
  refine ⟨env, Fs, rs, o.bnd.mono (fun p _ k => ?_) fun _ _ z => z⟩
  obtain ⟨k, e, q⟩ := Outc.bool k.bnd
  refine ⟨k, e, fun H1 Fs1 rs1 s1 => ?_⟩
  have go : ∀ {mm : MX}, Outc (mm p.2) (KX X.K R σ env Fs H Q) (EX X.K X.mg W R σ Fs H) → rX X.K X.mg W R mm σ H1 Q := fun {mm} q => ⟨p.2, Fs1, rs1, Outc.mono q (fun _ _ k v G H' Fs' rs' s' rd o => k v G H' Fs' rs' (s1.trans s') rd (o.trans s1)) fun _ _ z => z.later s1 rfl⟩
  cases k with
  | true => exact go q
  | false => exact go q
/-! ### argument lists -/
def rXA (K : PySem.W.Frag) (mg : Str → Option Value) (W : WX) (R : RL) (m : Env → Res (List D × Env)) : TA := fun σ H Q => ∃ env Fs, RS K R H σ env Fs ∧
  Outc (m env) (fun p => ∀ vs G H' Fs', RS K R H' σ p.2 Fs' → Stp R [] σ env Fs H σ p.2 Fs' H' → RDs K H' p.1 vs G → Own R Fs H Fs' G → Q vs H') (EX K mg W R σ Fs H)
abbrev PXA (X : Cx) (W : WX) (R : RL) (es : List Expr) (ms : List MX) : Prop := PA X es (rXA X.K X.mg W R (xAll ms))
variable {es : List Expr} {ms : List MX}
theorem pxa_nil : PXA X W R [] [] := pa_nil.imp fun σ H Q ⟨env, Fs, rs, o⟩ => (show ∀ vs G H' Fs', _ from o) [] [] H Fs rs .refl ⟨rfl, rfl⟩ .nil
theorem RDs.stp {K : PySem.W.Frag} {H1 H2 : Hp} {σ1 σ2 : St} {env1 env2 : Env} {Fs1 Fs2 : Nat → List Addr} {ds : List D} {v : List V} {G : List Addr} (h : RDs K H1 ds v G) (o : ∀ b ∈ G, ∀ j, b ∉ Fs1 j) (rs : RS K R H1 σ1 env1 Fs1) (s : Stp R P σ1 env1 Fs1 H1 σ2 env2 Fs2 H2) : RDs K H2 ds v G :=
  h.keep s.keep rs.mutO fun b hb ⟨i, _, hi⟩ => o b hb i hi
theorem pxa_cons (h : PX X W R e mx) (hr : PXA X W R es ms) (hs : starEach (e :: es) X.env = (false, eval e X.env) :: starEach es X.env := by rfl) : PXA X W R (e :: es) (mx :: ms) := (pa_cons h hr hs).imp fun σ H Q ⟨env, Fs, rs, o⟩ =>
  ⟨env, Fs, rs, o.bnd.mono (fun p _ op v1 G1 H1 Fs1 rs1 s1 r1 o1 => ⟨p.2, Fs1, rs1, op.bnd.mono (fun q _ oq vs G2 H2 Fs2 rs2 s2 r2 o2 => by
    have o1' := o1.stp r1 rs1 s2
    refine (show ∀ vs G H' Fs', _ from oq) (v1 :: vs) (G1 ++ G2) H2 Fs2 rs2 (s1.trans s2) ⟨v1, vs, G1, G2, rfl, r1.stp o1.apart rs1 s2, r2, rfl⟩ ⟨List.nodup_append.mpr ⟨o1.nd, o2.nd, fun x hx y hy e => ?_⟩, fun b hb j => ?_, fun b hb => ?_⟩
    · subst e
      rcases o2.orig x hy with ⟨i, _, hi⟩ | z
      · exact o1.apart x hx i hi
      · obtain ⟨ob, e, _⟩ := r1.mut x hx
        rw [z] at e; cases e
    · rcases List.mem_append.mp hb with hb | hb
      · exact o1'.apart b hb j
      · exact o2.apart b hb j
    · rcases List.mem_append.mp hb with hb | hb
      · exact o1.orig b hb
      · exact (o2.trans s1).orig b hb) fun _ _ z => z.later s1 rfl⟩) fun _ _ z => z⟩
theorem xAll_length : ∀ {ms : List MX} {env : Env} {p : List D × Env}, xAll ms env = .ok p → p.1.length = ms.length
  | [], _, _, h => by cases h; rfl
  | m :: r, env, p, h => by
    obtain ⟨d, _, h⟩ := bind_eq_ok h
    obtain ⟨q, h2, h⟩ := bind_eq_ok h
    cases h
    simp [xAll_length h2]
theorem px_tup {x1 : Nat} (h : PXA X W R es ms) (hl : ms.length ≤ 1000) : PX X W R (.Tuple es x1 pos) (xTup ms) := (pe_tup h).imp fun σ H Q ⟨env, Fs, rs, o⟩ =>
  ⟨env, Fs, rs, o.bnd.mono (fun p ep op vs G H1 Fs1 rs1 s1 rds _ => by
    obtain ⟨fs, efs, q⟩ := Outc.okOf op.bnd (allF_ne p.1)
    obtain ⟨rf, _⟩ := rds.allF efs
    refine ⟨?_, fun a ha => (KX.kn (show KX X.K R σ env Fs H Q (.fz (.tup fs), p.2) from q) rs1 s1).fz' (same_upd ha) (RF.new_tup rf ha)⟩
    rw [rds.length]
    have : p.1.length = ms.length := xAll_length ep
    exact Nat.le_of_lt (small1000 (by omega))) fun _ _ z => z⟩
theorem px_lst (h : PXA X W R es ms) (hl : ms.length ≤ 1000) : PX X W R (.List es pos) (xLst ms) := (pe_lst h).imp fun σ H Q ⟨env, Fs, rs, o⟩ =>
  ⟨env, Fs, rs, o.bnd.mono (fun p ep op vs G H1 Fs1 rs1 s1 rds ow => by
    refine ⟨?_, fun a ha => (show KX X.K R σ env Fs H Q (.lst p.1, p.2) from op) (.ref a) (a :: G) _ Fs1 (rs1.same (same_upd ha)) (s1.trans (.same (same_upd ha))) (RD.new_lst rds ha) ⟨nodup_new rds ha ow.nd, fun b hb j => ?_, fun b hb => ?_⟩⟩
    · rw [rds.length]
      have : p.1.length = ms.length := xAll_length ep
      exact Nat.le_of_lt (small1000 (by omega))
    · rcases List.mem_cons.mp hb with rfl | hb
      · exact rs1.freeAt ha j
      · exact ow.apart b hb j
    · rcases List.mem_cons.mp hb with rfl | hb
      · exact s1.back ha
      · exact ow.orig b hb) fun _ _ z => z⟩
theorem px_callB {x : Str} {p : Pos} {id : String} {f : List D → Res D} {r : List V → Hp → VK → Prop} (hc : CallR X (.builtin id) r) (hs : SndC X.K f r) (hg : Gl X x) (hm : X.mg x = none) (hv : bootBuiltins x = some (.builtin id)) (ha : PXA X W R (e :: es) ms)
    (hn : x ≠ "__name__" := by decide) (hdb : (x == ("__debug__" : Str)) = false := by decide)
    (he : starEach (e :: es) X.env = (false, eval e X.env) :: starEach es X.env := by rfl) (hpl : (backTo pos (starEach es X.env)).any (·.1) = false := by rfl) : PX X W R (.Call (.Name x p) (e :: es) [] pos) (xCall f ms) := (pe_callB hc hg hm hv ha hn hdb he hpl).imp fun σ H Q ⟨env, Fs, rs, o⟩ =>
  ⟨env, Fs, rs, o.bnd.mono (fun p _ op vs G H1 Fs1 rs1 s1 rds _ => hs p.1 vs G H1 Q _ rds (op.bnd.mono (fun d _ k => KX.kn (show KX X.K R σ env Fs H Q (d, p.2) from k) rs1 s1) fun _ _ z => z)) fun _ _ z => z⟩
theorem px_callTy {x : Str} {p : Pos} {T : String} {f : List D → Res D} {r : List V → Hp → VK → Prop} (hc : CallR X (.type T) r) (hs : SndC X.K f r) (hg : Gl X x) (hm : X.mg x = none) (hv : bootBuiltins x = some (.type T)) (ha : PXA X W R (e :: es) ms)
    (hn : x ≠ "__name__" := by decide) (hdb : (x == ("__debug__" : Str)) = false := by decide)
    (he : starEach (e :: es) X.env = (false, eval e X.env) :: starEach es X.env := by rfl) (hpl : (backTo pos (starEach es X.env)).any (·.1) = false := by rfl) : PX X W R (.Call (.Name x p) (e :: es) [] pos) (xCall f ms) := (pe_callTy hc hg hm hv ha hn hdb he hpl).imp fun σ H Q ⟨env, Fs, rs, o⟩ =>
  ⟨env, Fs, rs, o.bnd.mono (fun p _ op vs G H1 Fs1 rs1 s1 rds _ => hs p.1 vs G H1 Q _ rds (op.bnd.mono (fun d _ k => KX.kn (show KX X.K R σ env Fs H Q (d, p.2) from k) rs1 s1) fun _ _ z => z)) fun _ _ z => z⟩
theorem px_call {x : Str} {p : Pos} {k : Nat} {f : Addr} {fd : FuncData} {ps : List Str} {mf : List D → Res D} (F : FnOk X.prog X.w X.K X.mg X.base (L2.CX X.prog X.w) k f fd ps (spP X.K X.mg mf)) (hr : Room k X.A) (tk : Takes X W) (hg : Gl X x) (hm : X.mg x = some (.ref f))
    (hk : PySem.W.keepIn X.K (.ref f) = true) (hb : Binds X.K fd ps []) (ha : PXA X W R (e :: es) ms) (hdb : (x == ("__debug__" : Str)) = false := by decide)
    (he : starEach (e :: es) X.env = (false, eval e X.env) :: starEach es X.env := by rfl) (hpl : (backTo pos (starEach es X.env)).any (·.1) = false := by rfl) : PX X W R (.Call (.Name x p) (e :: es) [] pos) (xCall mf ms) :=
  (pe_callS F hr hg hm hk hb (fun σ => passAt tk σ) ha hdb he hpl).imp fun σ H Q ⟨env, Fs, rs, o⟩ =>
    ⟨env, Fs, rs, o.bnd.mono (fun p _ op vs G H1 Fs1 rs1 s1 rds _ => ⟨p.1, G, rds, op.bnd.mono (fun d _ k => KX.kn (show KX X.K R σ env Fs H Q (d, p.2) from k) rs1 s1) fun _ _ z => (z.later s1 rfl).er⟩) fun _ _ z => z⟩
/-! ### calls that change what slots hold -/
/-- the values of arguments: a slot's own, or a value of one's own -/
def AVs (K : PySem.W.Frag) (H : Hp) (σ : St) : List (Nat ⊕ D) → List V → List Addr → Prop
  | [], vs, G => vs = [] ∧ G = []
  | .inl j :: r, vs, G => ∃ v q, vs = v :: q ∧ σ[j]? = some (some v) ∧ AVs K H σ r q G
  | .inr d :: r, vs, G => ∃ v q F1 F2, vs = v :: q ∧ RD K H d v F1 ∧ AVs K H σ r q F2 ∧ G = F1 ++ F2
def rXG (K : PySem.W.Frag) (mg : Str → Option Value) (W : WX) (R : RL) (as : List Arg) : TA := fun σ H Q => ∃ env Fs, RS K R H σ env Fs ∧
  Outc (xArgs as env) (fun p => ∀ vs G H' Fs', RS K R H' σ p.2 Fs' → Stp R [] σ env Fs H σ p.2 Fs' H' → AVs K H' σ p.1 vs G → Own R Fs H Fs' G → Q vs H') (EX K mg W R σ Fs H)
abbrev PXG (X : Cx) (W : WX) (R : RL) (es : List Expr) (as : List Arg) : Prop := PA X es (rXG X.K X.mg W R as)
variable {as : List Arg}
theorem pxg_nil : PXG X W R [] [] := pa_nil.imp fun σ H Q ⟨env, Fs, rs, o⟩ => (show ∀ vs G H' Fs', _ from o) [] [] H Fs rs .refl ⟨rfl, rfl⟩ .nil
theorem AVs.mut {K : PySem.W.Frag} {H : Hp} {σ : St} : ∀ {xs : List (Nat ⊕ D)} {vs : List V} {G : List Addr}, AVs K H σ xs vs G → ∀ b ∈ G, MutAt H b
  | [], _, _, ⟨_, e⟩, b, hb => by subst e; cases hb
  | .inl j :: r, _, _, ⟨v, q, e, h, hr⟩, b, hb => AVs.mut hr b hb
  | .inr d :: r, _, _, ⟨v, q, F1, F2, e, h, hr, eG⟩, b, hb => by
    subst eG
    rcases List.mem_append.mp hb with hb | hb
    · exact h.mut b hb
    · exact AVs.mut hr b hb
theorem AVs.stp {K : PySem.W.Frag} {H1 H2 : Hp} {σ : St} {env1 env2 : Env} {Fs1 Fs2 : Nat → List Addr} (rs : RS K R H1 σ env1 Fs1) (s : Stp R P σ env1 Fs1 H1 σ env2 Fs2 H2) : ∀ {xs : List (Nat ⊕ D)} {vs : List V} {G : List Addr}, AVs K H1 σ xs vs G → (∀ b ∈ G, ∀ j, b ∉ Fs1 j) → AVs K H2 σ xs vs G
  | [], _, _, h, _ => h
  | .inl j :: r, _, _, ⟨v, q, e, h, hr⟩, o => ⟨v, q, e, h, AVs.stp rs s hr o⟩
  | .inr d :: r, _, _, ⟨v, q, F1, F2, e, h, hr, eG⟩, o => by
    subst eG
    exact ⟨v, q, F1, F2, e, h.stp (fun b hb => o b (List.mem_append_left _ hb)) rs s, AVs.stp rs s hr fun b hb => o b (List.mem_append_right _ hb), rfl⟩
theorem pxg_var {j : Nat} {x : Str} {p1 : Pos} {a : Arg} (ha : a = .io j ∨ a = .ro j) (hv : PE X (.Name x p1) (tVar j)) (hr : PXG X W R es as) (hs : starEach (.Name x p1 :: es) X.env = (false, eval (.Name x p1) X.env) :: starEach es X.env := by rfl) : PXG X W R (.Name x p1 :: es) (a :: as) := (pa_cons hv hr hs).imp fun σ H Q ⟨env, Fs, rs, o⟩ => by
  have h2 : xArgs (a :: as) env = (eVar j env).bind fun _ => (xArgs as env).bind fun q => .ok (.inl j :: q.1, q.2) := by rcases ha with rfl | rfl <;> rfl
  rw [h2] at o
  obtain ⟨d, e, o⟩ := outc_var o.bnd
  obtain ⟨v, ev, _⟩ := rs.rdl.2 j d e
  exact ⟨v, ev, env, Fs, rs, o.bnd.mono (fun q _ oq vs G H1 Fs1 rs1 s1 av ow => (show ∀ vs G H' Fs', _ from oq) (v :: vs) G H1 Fs1 rs1 s1 ⟨v, vs, rfl, ev, av⟩ ow) fun _ _ z => z⟩
theorem pxg_io {j : Nat} {x : Str} {p1 : Pos} (hv : PE X (.Name x p1) (tVar j)) (hr : PXG X W R es as) (hs : starEach (.Name x p1 :: es) X.env = (false, eval (.Name x p1) X.env) :: starEach es X.env := by rfl) : PXG X W R (.Name x p1 :: es) (.io j :: as) := pxg_var (.inl rfl) hv hr hs
theorem pxg_ro {j : Nat} {x : Str} {p1 : Pos} (hv : PE X (.Name x p1) (tVar j)) (hr : PXG X W R es as) (hs : starEach (.Name x p1 :: es) X.env = (false, eval (.Name x p1) X.env) :: starEach es X.env := by rfl) : PXG X W R (.Name x p1 :: es) (.ro j :: as) := pxg_var (.inr rfl) hv hr hs
theorem pxg_ex (h : PX X W R e mx) (hr : PXG X W R es as) (hs : starEach (e :: es) X.env = (false, eval e X.env) :: starEach es X.env := by rfl) : PXG X W R (e :: es) (.ex mx :: as) := (pa_cons h hr hs).imp fun σ H Q ⟨env, Fs, rs, o⟩ =>
  ⟨env, Fs, rs, o.bnd.mono (fun p _ op v1 G1 H1 Fs1 rs1 s1 r1 o1 => ⟨p.2, Fs1, rs1, op.bnd.mono (fun q _ oq vs G2 H2 Fs2 rs2 s2 r2 o2 => by
    have o1' := o1.stp r1 rs1 s2
    refine (show ∀ vs G H' Fs', _ from oq) (v1 :: vs) (G1 ++ G2) H2 Fs2 rs2 (s1.trans s2) ⟨v1, vs, G1, G2, rfl, r1.stp o1.apart rs1 s2, r2, rfl⟩ ⟨List.nodup_append.mpr ⟨o1.nd, o2.nd, fun x hx y hy e => ?_⟩, fun b hb j => ?_, fun b hb => ?_⟩
    · subst e
      rcases o2.orig x hy with ⟨i, _, hi⟩ | z
      · exact o1.apart x hx i hi
      · obtain ⟨ob, e, _⟩ := r1.mut x hx
        rw [z] at e; cases e
    · rcases List.mem_append.mp hb with hb | hb
      · exact o1'.apart b hb j
      · exact o2.apart b hb j
    · rcases List.mem_append.mp hb with hb | hb
      · exact o1.orig b hb
      · exact (o2.trans s1).orig b hb) fun _ _ z => z.later s1 rfl⟩) fun _ _ z => z⟩
end
end VL
set_option Elab.async false
set_option linter.all false
set_option maxRecDepth 100000
set_option maxHeartbeats 4000000
/-! VLU: statements. -/
namespace VL
open PySem L2
/-- behind a statement -/
def KSt (K : PySem.W.Frag) (R : RL) (P : List Nat) (σ : St) (env : Env) (Fs : Nat → List Addr) (H : Hp) (D : Ends) (p : Fl × Env) : Prop :=
  match p.1 with
  | .nx => ∀ σ' H' Fs', RS K R H' σ' p.2 Fs' → Stp R P σ env Fs H σ' p.2 Fs' H' → σ'.length = σ.length → D.nx σ' H'
  | .bk => ∀ σ' H' Fs', RS K R H' σ' p.2 Fs' → Stp R P σ env Fs H σ' p.2 Fs' H' → σ'.length = σ.length → D.bk σ' H'
  | .ct => ∀ σ' H' Fs', RS K R H' σ' p.2 Fs' → Stp R P σ env Fs H σ' p.2 Fs' H' → σ'.length = σ.length → D.ct σ' H'
  | .rt d => ∀ v σ' G H' Fs', RS K R H' σ' p.2 Fs' → Stp R P σ env Fs H σ' p.2 Fs' H' → σ'.length = σ.length → RD K H' d v G → Own R Fs H Fs' G → D.rt v H'
def rS (K : PySem.W.Frag) (mg : Str → Option Value) (W : WX) (R : RL) (P : List Nat) (m : S) : TS := fun D σ H => ∃ env Fs, RS K R H σ env Fs ∧ Outc (m env) (KSt K R P σ env Fs H D) (EX K mg W R σ Fs H)
abbrev PSV (X : Cx) (W : WX) (R : RL) (P : List Nat) (st : Stmt) (m : S) : Prop := PS X st (rS X.K X.mg W R P m)
abbrev PSB (X : Cx) (W : WX) (R : RL) (P : List Nat) (st : List Stmt) (m : S) : Prop := PSs X st (rS X.K X.mg W R P m)
theorem _root_.L2.PS.imp {X : Cx} {e : Stmt} {t t' : TS} (h : PS X e t) (i : ∀ D σ H, t' D σ H → t D σ H) : PS X e t' := ⟨fun pins s σ H D I q => h.run pins s σ H D I (i D σ H q)⟩
theorem _root_.L2.PSs.imp {X : Cx} {e : List Stmt} {t t' : TS} (h : PSs X e t) (i : ∀ D σ H, t' D σ H → t D σ H) : PSs X e t' := ⟨fun pins s σ H D I q => h.run pins s σ H D I (i D σ H q)⟩
section
variable {K : PySem.W.Frag} {mg : Str → Option Value} {W : WX} {R : RL} {P : List Nat} {H H1 H2 H' : Hp} {σ σ1 σ2 : St} {env env1 env2 : Env} {Fs Fs1 Fs2 : Nat → List Addr} {D : Ends}
theorem KSt.later {p : Fl × Env} (k : KSt K R P σ env Fs H D p) (s : Stp R P σ env Fs H σ1 env1 Fs1 H1) (hl : σ1.length = σ.length) : KSt K R P σ1 env1 Fs1 H1 D p := by
  obtain ⟨f, e⟩ := p
  cases f with
  | nx => exact fun σ' H' Fs' rs s' l => k σ' H' Fs' rs (s.trans s') (l.trans hl)
  | bk => exact fun σ' H' Fs' rs s' l => k σ' H' Fs' rs (s.trans s') (l.trans hl)
  | ct => exact fun σ' H' Fs' rs s' l => k σ' H' Fs' rs (s.trans s') (l.trans hl)
  | rt d => exact fun v σ' G H' Fs' rs s' l rd o => k v σ' G H' Fs' rs (s.trans s') (l.trans hl) rd (o.trans s)
/-- slot i is stored with a value of one's own -/
def slotF (env : Env) (i : Nat) (G : List Addr) : List Addr := if i < env.length then G else []
theorem RS.set (rs : RS K R H1 σ1 env1 Fs1) {i : Nat} {d : VL.D} {v : V} {G : List Addr} (rd : RD K H1 d v G) (nd : G.Nodup) (ap : ∀ b ∈ G, ∀ j, j ≠ i → b ∉ Fs1 j) (hi : i ∉ R) :
    RS K R H1 (σ1.set i (some v)) (setS env1 i d) (fset Fs1 i (slotF env1 i G)) := by
  refine ⟨⟨by show (env1.set i (some d)).length = _; rw [List.length_set, List.length_set, rs.rdl.1], fun j d' e => ?_⟩, fun j hj => ?_, fun j hj => ?_⟩
  · have e' : (env1.set i (some d))[j]? = some (some d') := e
    by_cases c : i = j
    · subst c
      have l : i < env1.length := by
        by_cases l : i < env1.length
        · exact l
        · rw [List.getElem?_eq_none_iff.mpr (by rw [List.length_set]; omega)] at e'; cases e'
      rw [List.getElem?_set_self l] at e'
      cases e'
      exact ⟨v, List.getElem?_set_self (by rw [← rs.rdl.1]; exact l), by unfold fset slotF; rw [if_pos rfl, if_pos l]; exact rd⟩
    · rw [List.getElem?_set_ne c] at e'
      obtain ⟨v', ev, r'⟩ := rs.rdl.2 j d' e'
      exact ⟨v', by rw [List.getElem?_set_ne c]; exact ev, by unfold fset; rw [if_neg (Ne.symm c)]; exact r'⟩
  · unfold fset
    by_cases c : j = i
    · subst c
      rw [if_pos rfl]
      unfold slotF
      by_cases l : j < env1.length
      · exact absurd (show (env1.set j (some d))[j]? = some (some d) from List.getElem?_set_self l) (hj d)
      · rw [if_neg l]
    · rw [if_neg c]
      exact rs.non j fun d' e' => hj d' (by show (env1.set i (some d))[j]? = _; rw [List.getElem?_set_ne (Ne.symm c)]; exact e')
  · unfold fset
    have sG : ∀ b ∈ slotF env1 i G, b ∈ G := fun b hb => by
      unfold slotF at hb
      by_cases l : i < env1.length
      · rw [if_pos l] at hb; exact hb
      · rw [if_neg l] at hb; cases hb
    by_cases c : j = i
    · subst c
      rw [if_pos rfl]
      refine ⟨?_, fun b hb k hk => ?_⟩
      · unfold slotF
        by_cases l : j < env1.length
        · rw [if_pos l]; exact nd
        · rw [if_neg l]; exact List.nodup_nil
      · rw [if_neg hk]
        exact ap b (sG b hb) k hk
    · rw [if_neg c]
      refine ⟨(rs.own j hj).1, fun b hb k hk => ?_⟩
      by_cases c' : k = i
      · rw [if_pos c']
        exact fun z => ap b (sG b z) j c hb
      · rw [if_neg c']
        exact (rs.own j hj).2 b hb k hk
theorem Stp.set (s : Stp R P σ env Fs H σ1 env1 Fs1 H1) {i : Nat} {d : VL.D} {v : V} {G : List Addr} (og : ∀ b ∈ G, inO R Fs b ∨ H b = none) (hi : i ∉ R) (hp : i ∉ P) : Stp R P σ env Fs H (σ1.set i (some v)) (setS env1 i d) (fset Fs1 i (slotF env1 i G)) H1 where
  keep := s.keep
  sub := fun b ⟨j, hj, hb⟩ => by
    unfold fset at hb
    by_cases c : j = i
    · rw [if_pos c] at hb
      unfold slotF at hb
      by_cases l : i < env1.length
      · rw [if_pos l] at hb; exact og b hb
      · rw [if_neg l] at hb; cases hb
    · rw [if_neg c] at hb
      exact s.sub b ⟨j, hj, hb⟩
  pin := fun j hj => by
    have c : i ≠ j := fun e => by
      subst e
      exact hj.elim hp hi
    rw [List.getElem?_set_ne c]
    exact s.pin j hj
  ro := fun j hj => by
    have c : j ≠ i := fun e => hi (e ▸ hj)
    unfold fset
    rw [if_neg c]
    exact ⟨(s.ro j hj).1, by show (env1.set i (some d))[j]? = _; rw [List.getElem?_set_ne (Ne.symm c)]; exact (s.ro j hj).2⟩
theorem Stp.toP (s : Stp R [] σ env Fs H σ env1 Fs1 H1) : Stp R P σ env Fs H σ env1 Fs1 H1 := ⟨s.keep, s.sub, fun _ _ => rfl, s.ro⟩
def wipeF (is : List Nat) (Fs : Nat → List Addr) : Nat → List Addr := fun j => if j ∈ is then [] else Fs j
theorem wipeF_in {is : List Nat} {Fs : Nat → List Addr} {j : Nat} (h : j ∈ is) : wipeF is Fs j = [] := if_pos h
theorem wipeF_out {is : List Nat} {Fs : Nat → List Addr} {j : Nat} (h : j ∉ is) : wipeF is Fs j = Fs j := if_neg h
/-- slots forgotten -/
theorem RS.wipe (rs : RS K R H1 σ1 env1 Fs1) (is : List Nat) : RS K R H1 σ1 (VL.wipe is env1) (wipeF is Fs1) := by
  refine ⟨⟨by rw [wipe_len]; exact rs.rdl.1, fun j d e => ?_⟩, fun j hj => ?_, fun j hj => ?_⟩
  · obtain ⟨e1, n⟩ := wipe_get e
    obtain ⟨v, ev, r⟩ := rs.rdl.2 j d e1
    exact ⟨v, ev, by rw [wipeF_out n]; exact r⟩
  · by_cases c : j ∈ is
    · rw [wipeF_in c]
    · rw [wipeF_out c]
      exact rs.non j fun d e => hj d (by rw [wipe_get_ne c]; exact e)
  · by_cases c : j ∈ is
    · rw [wipeF_in c]; exact ⟨List.nodup_nil, fun _ h => (by cases h)⟩
    · rw [wipeF_out c]
      refine ⟨(rs.own j hj).1, fun b hb k hk => ?_⟩
      by_cases c' : k ∈ is
      · rw [wipeF_in c']; exact List.not_mem_nil
      · rw [wipeF_out c']; exact (rs.own j hj).2 b hb k hk
theorem Stp.wipe (s : Stp R P σ env Fs H σ1 env1 Fs1 H1) (is : List Nat) (hi : ∀ i ∈ is, i ∉ R) : Stp R P σ env Fs H σ1 (VL.wipe is env1) (wipeF is Fs1) H1 where
  keep := s.keep
  sub := fun b ⟨j, hj, hb⟩ => by
    by_cases c : j ∈ is
    · rw [wipeF_in c] at hb; cases hb
    · rw [wipeF_out c] at hb; exact s.sub b ⟨j, hj, hb⟩
  pin := s.pin
  ro := fun j hj => by
    have c : j ∉ is := fun h => hi j h hj
    rw [wipeF_out c]
    exact ⟨(s.ro j hj).1, by rw [wipe_get_ne c]; exact (s.ro j hj).2⟩
end
section
variable {X : Cx} {W : WX} {R : RL} {P : List Nat} {st : Stmt} {sts : List Stmt} {a b c e : Expr} {mx my : MX} {m m1 m2 : S} {ma : E} {pos pos' : Pos}
/-! ### blocks -/
theorem sb_nil : PSB X W R P [] sNx := pss_nil.imp fun D σ H ⟨env, Fs, rs, o⟩ => (show ∀ σ' H' Fs', _ from o) σ H Fs rs .refl rfl
theorem seq_imp : ∀ D σ H, rS X.K X.mg W R P (sSeq m1 m2) D σ H → tSeq (rS X.K X.mg W R P m1) (rS X.K X.mg W R P m2) D σ H := fun D σ H ⟨env, Fs, rs, o⟩ =>
  ⟨env, Fs, rs, o.bnd.mono (fun p _ k => by
    obtain ⟨f, env1⟩ := p
    cases f with
    | nx => exact fun σ1 H1 Fs1 rs1 s1 l1 => ⟨env1, Fs1, rs1, Outc.mono k (fun _ _ k => k.later s1 l1) fun _ _ z => z.later s1 l1⟩
    | bk => exact k
    | ct => exact k
    | rt d => exact k) fun _ _ z => z⟩
theorem sb_cons (h1 : PSV X W R P st m1) (h2 : PSB X W R P sts m2) : PSB X W R P (st :: sts) (sSeq m1 m2) := (pss_cons h1 h2).imp seq_imp
theorem sb_one (h : PSV X W R P st m) : PSB X W R P [st] m := pss_one h
theorem sv_pass : PSV X W R P (.Pass pos) sNx := ps_pass.imp fun D σ H ⟨env, Fs, rs, o⟩ => (show ∀ σ' H' Fs', _ from o) σ H Fs rs .refl rfl
theorem sv_doc {x : Str} {j : Nat} : PSV X W R P (.Expr (.Constant (.str x) j pos) pos') sNx := ps_doc.imp fun D σ H ⟨env, Fs, rs, o⟩ => (show ∀ σ' H' Fs', _ from o) σ H Fs rs .refl rfl
theorem sv_brk : PSV X W R P (.Break pos) sBrk := ps_break.imp fun D σ H ⟨env, Fs, rs, o⟩ => (show ∀ σ' H' Fs', _ from o) σ H Fs rs .refl rfl
theorem sv_cnt : PSV X W R P (.Continue pos) sCnt := ps_continue.imp fun D σ H ⟨env, Fs, rs, o⟩ => (show ∀ σ' H' Fs', _ from o) σ H Fs rs .refl rfl
theorem sv_never : PSV X W R P st sNever := ps_never.imp fun D σ H ⟨env, Fs, rs, o⟩ => o
/-! ### stores to names -/
theorem sv_set {i : Nat} {x : Str} (hN : X.N.Nodup) (hi : X.N[i]? = some x) (hx : Loc X.env.scope x) (hR : i ∉ R) (hP : i ∉ P) (he : PX X W R e mx) (hs : swapsWith e (some (.Name x pos')) pos.line X.env = pure false := by rfl) (hf : X.fn x = true ∨ X.env.scope.names.lookup x = some .local := by first | exact .inl rfl | exact .inr rfl | assumption) :
    PSV X W R P (.Assign [.Name x pos'] e pos) (sSet i mx) := (ps_set hN hi hx he hs hf).imp fun D σ H ⟨env, Fs, rs, o⟩ =>
  ⟨env, Fs, rs, o.bnd.mono (fun p _ k v G H1 Fs1 rs1 s1 rd ow => (show ∀ σ' H' Fs', _ from k) _ H1 _ (rs1.set rd ow.nd (fun b hb j _ => ow.apart b hb j) hR) (s1.toP.set ow.orig hR hP) (List.length_set ..)) fun _ _ z => z⟩
/-- name = [..] on one line -/
theorem set_comp {t : TE} {i : Nat} (hR : i ∉ R) (hP : i ∉ P) {m : E} (ht : ∀ σ H Q, rN X.K X.mg W m σ H Q → t σ H Q) : ∀ D σ H, rS X.K X.mg W R P (sSet i (xF m)) D σ H → tAsg t (gName i) D σ H := fun D σ H ⟨env, Fs, rs, o⟩ =>
  ht σ H _ ⟨env, Fs, rs.rdl, (Outc.bnd (Outc.bnd o)).mono (fun d _ k v F H1 s1 rd nd f => (show ∀ σ' H' Fs', _ from k) _ H1 _ ((rs.same s1).set rd nd (fun b hb j _ => rs.freeAt (f b hb) j) hR) ((Stp.same s1).set (fun b hb => .inr (f b hb)) hR hP) (List.length_set ..)) fun _ _ z => z.er⟩
section
variable {target iter elt0 : Expr} {src : Env → Res (List D)} {tg : Tg} {test elt : E} {scope : Scope} {ownN : List (Str × Nat)} {py spos : Pos}
theorem sv_comp {i : Nat} {y : Str} (hc : X.calm = true) (hN : X.N.Nodup) (hy : X.N[i]? = some y) (hyl : X.env.scope.names.lookup y = some .local) (hR : i ∉ R) (hP : i ∉ P)
    (hsw : swapsWith (.ListComp elt0 [⟨target, iter, [], 0⟩] scope pos) (some (.Name y py)) spos.line X.env = pure true) (hi : PII X W target iter src) (ok : BlkOk X.N X.env.scope scope ownN) (hsub : ∀ i ∈ tgs tg, i ∈ ownN.map (·.2))
    (hg : ∀ (s : Shared) (H : Hp) (C : Addr) (cl : List (Str × Addr)) (fp : List Addr), PG (X.blk s H scope (compEnvC scope cl C X.env) fp) target (rG X.K tg))
    (he : ∀ (s : Shared) (H : Hp) (C : Addr) (cl : List (Str × Addr)) (fp : List Addr), PE (X.blk s H scope (compEnvC scope cl C X.env) fp) elt0 (rN X.K X.mg W0 elt)) (hs : ∀ x, foldedSetIterable iter X.env x = pure x := by intro _; rfl) :
    PSV X W R P (.Assign [.Name y py] (.ListComp elt0 [⟨target, iter, [], 0⟩] scope pos) spos) (sSet i (xF (eComp (ownN.map (·.2)) src tg eYes elt))) :=
  (ps_setLc hc hN hy hyl hsw hi ok hg (fun _ _ _ _ _ => pts_nil) he hs).imp (set_comp hR hP (comp_imp test_yes hsub))
theorem sv_compIf {i : Nat} {y : Str} (hc : X.calm = true) (hN : X.N.Nodup) (hy : X.N[i]? = some y) (hyl : X.env.scope.names.lookup y = some .local) (hR : i ∉ R) (hP : i ∉ P)
    (hsw : swapsWith (.ListComp elt0 [⟨target, iter, [c], 0⟩] scope pos) (some (.Name y py)) spos.line X.env = pure true) (hi : PII X W target iter src) (ok : BlkOk X.N X.env.scope scope ownN) (hsub : ∀ i ∈ tgs tg, i ∈ ownN.map (·.2))
    (hg : ∀ (s : Shared) (H : Hp) (C : Addr) (cl : List (Str × Addr)) (fp : List Addr), PG (X.blk s H scope (compEnvC scope cl C X.env) fp) target (rG X.K tg))
    (ht : ∀ (s : Shared) (H : Hp) (C : Addr) (cl : List (Str × Addr)) (fp : List Addr), PT (X.blk s H scope (compEnvC scope cl C X.env) fp) c (rT X.K X.mg W0 test))
    (he : ∀ (s : Shared) (H : Hp) (C : Addr) (cl : List (Str × Addr)) (fp : List Addr), PE (X.blk s H scope (compEnvC scope cl C X.env) fp) elt0 (rN X.K X.mg W0 elt)) (hs : ∀ x, foldedSetIterable iter X.env x = pure x := by intro _; rfl) :
    PSV X W R P (.Assign [.Name y py] (.ListComp elt0 [⟨target, iter, [c], 0⟩] scope pos) spos) (sSet i (xF (eComp (ownN.map (·.2)) src tg test elt))) :=
  (ps_setLc hc hN hy hyl hsw hi ok hg (fun s H C cl fp => pts_one (ht s H C cl fp)) he hs).imp (set_comp hR hP (comp_imp test_if hsub))
end
/-- a, b = e -/
def rGsS (K : PySem.W.Frag) (R : RL) (P : List Nat) (is : List Nat) : TGs := fun vs σ H Q => ∃ env Fs fs, RS K R H σ env Fs ∧ RFs K H fs vs ∧ Outc (setMany is fs env) (fun env' => ∀ σ' Fs', RS K R H σ' env' Fs' → Stp R P σ env Fs H σ' env' Fs' H → σ'.length = σ.length → Q σ' H) (fun _ _ => False)
theorem pgt_nil : PGs X [] (rGsS X.K R P []) := ⟨fun pins s σ H vs us Q I r ⟨env, Fs, fs, rs, rf, o⟩ => by
  cases fs with
  | nil =>
    cases rf
    exact pgs_nil.run pins s σ H [] us Q I r ⟨rfl, (show ∀ σ' Fs', _ from o) σ Fs rs .refl rfl⟩
  | cons f fs => exact o.elim⟩
theorem pgt_cons {i : Nat} {is : List Nat} {x : Str} {es : List Expr} (hR : i ∉ R) (hP : i ∉ P) (h : PG X (.Name x pos) (gName i)) (hr : PGs X es (rGsS X.K R P is)) (hs : (assignEach (.Name x pos :: es) X.env).map (·.2) = assign (.Name x pos) X.env :: (assignEach es X.env).map (·.2) := by rfl) : PGs X (.Name x pos :: es) (rGsS X.K R P (i :: is)) := ⟨fun pins s σ H vs us Q I r ⟨env, Fs, fs, rs, rf, o⟩ => by
  cases fs with
  | nil => exact o.elim
  | cons f fs =>
    obtain ⟨v, q, rfl, h1, h2⟩ := rf
    have rs1 : RS X.K R H (σ.set i (some v)) (setS env i (.fz f)) (fset Fs i (slotF env i [])) := RS.set (d := .fz f) (v := v) (G := []) rs ⟨h1, rfl⟩ List.nodup_nil (fun _ h => (by cases h)) hR
    have s1 : Stp R P σ env Fs H (σ.set i (some v)) (setS env i (.fz f)) (fset Fs i (slotF env i [])) H := Stp.refl.set (fun _ h => (by cases h)) hR hP
    exact (pgs_cons h hr hs).run pins s σ H (v :: q) us Q I r ⟨v, q, rfl, setS env i (.fz f), _, fs, rs1, h2, Outc.mono (show Outc (setMany is fs (setS env i (.fz f))) _ _ from o) (fun env' _ k σ' Fs' R' s' l => k σ' Fs' R' (s1.trans s') (l.trans (List.length_set ..))) fun _ _ z => z⟩⟩
theorem setMany_len : ∀ {is : List Nat} {fs : List FD} {env env' : Env}, setMany is fs env = .ok env' → fs.length = is.length
  | [], [], _, _, _ => rfl
  | [], _ :: _, _, _, h => by cases h
  | _ :: _, [], _, _, h => by cases h
  | i :: is, f :: fs, env, env', h => congrArg (· + 1) (setMany_len (is := is) (fs := fs) (env := setS env i (.fz f)) h)
theorem sv_setT {es : List Expr} {k : Nat} {is : List Nat} {tpos : Pos} (hc : X.calm = true) (h : PGs X es (rGsS X.K R P is)) (hl : is.length = es.length) (he : PX X W R e mx)
    (hs : swapsWithSole [.Tuple es k tpos] e pos.line X.env = pure false := by rfl) (hw : swappedStores [.Tuple es k tpos] e X.env = pure none := by rfl) (h1 : (assignEach [.Tuple es k tpos] X.env).map (·.2) = [assign (.Tuple es k tpos) X.env] := by rfl)
    (hn : (assignEach es X.env).length = es.length := by rfl) (hst : (assignEach es X.env).findIdx? (·.1) = none := by rfl) : PSV X W R P (.Assign [.Tuple es k tpos] e pos) (sSetT is mx) :=
  (ps_asg he (pg_tup (n := es.length) hc h hn hst) hs hw h1).imp fun D σ H ⟨env, Fs, rs, o⟩ => ⟨env, Fs, rs, o.bnd.mono (fun p _ k v G H1 Fs1 rs1 s1 rd ow => by
    have go : ∀ {fs : List FD}, (∃ a vs, v = .ref a ∧ SqT X.K H1 a vs ∧ RFs X.K H1 fs vs) → Outc ((setMany is fs p.2).bind fun env' => Res.ok (Fl.nx, env')) (KSt X.K R P σ env Fs H D) (EX X.K X.mg W R σ Fs H) → gTup X.K es.length (rGsS X.K R P is) v σ H1 D.nx := fun {fs} ⟨a, vs, e, ha, rf⟩ o => by
      obtain ⟨env', eenv, o'⟩ := Outc.okOf o.bnd (setMany_ne _ _ _)
      refine ⟨a, vs, e, ha, by rw [rf.length, setMany_len eenv, hl], p.2, Fs1, fs, rs1, rf, ?_⟩
      rw [eenv]
      exact fun σ' Fs' rs' s' l => (show ∀ σ' H' Fs', _ from o') σ' H1 Fs' rs' (s1.toP.trans s') l
    obtain ⟨d, env1⟩ := p
    cases d with
    | fz f =>
      cases f with
      | tup fs => exact go rd.1.sqt k
      | cup fs => exact go rd.1 k
      | _ => exact k.elim
    | _ => exact k.elim) fun _ _ z => z⟩
/-! ### x op= e -/
theorem sv_aug {op : Operator} {f : D → D → Res D} {r : R2} {i : Nat} {x : Str} (ho : OpR X (inplaceOp op) r) (hsn : Snd X.K f r) (hN : X.N.Nodup) (hi : X.N[i]? = some x) (hx : Loc X.env.scope x) (hR : i ∉ R) (hP : i ∉ P) (he : PX X W R e mx)
    (hf : X.fn x = true ∨ X.env.scope.names.lookup x = some .local := by first | exact .inl rfl | exact .inr rfl | assumption) : PSV X W R P (.AugAssign (.Name x pos') op e pos) (sAug f i mx) :=
  (ps_aug (ti := fun x y H Q => r x y H Q) hN hi hx he ho hf).imp fun D σ H ⟨env, Fs, rs, o⟩ => by
    obtain ⟨d, ed, o1⟩ := outc_var o.bnd
    obtain ⟨g, eg, o2⟩ := Outc.fz o1.bnd
    subst eg
    obtain ⟨v, ev, rd⟩ := rs.rdl.2 i _ ed
    refine ⟨v, ev, env, Fs, rs, (Outc.bnd o2).mono (fun p _ k y G H1 Fs1 rs1 s1 r1 ow => ?_) fun _ _ z => z⟩
    refine hsn (.fz g) p.1 v y [] G H1 _ _ ⟨rd.1.keep s1.keep rs.mutO, rfl⟩ r1 (k.bnd.mono (fun d2 _ k2 z F H2 s2 rz nd f2 => ?_) fun _ _ z => z)
    exact (show ∀ σ' H' Fs', _ from k2) _ H2 _ ((rs1.same s2).set rz nd (fun b hb j _ => rs1.freeAt (f2 b hb) j) hR) ((s1.toP.trans (.same s2)).set (fun b hb => s1.back (f2 b hb)) hR hP) (List.length_set ..)
/-! ### expressions, return -/
theorem sv_expr (he : PX X W R e mx) (hs : swapsWith e none pos.line X.env = pure false := by rfl) : PSV X W R P (.Expr e pos) (sExpr mx) := (ps_expr he hs).imp fun D σ H ⟨env, Fs, rs, o⟩ =>
  ⟨env, Fs, rs, o.bnd.mono (fun p _ k v G H1 Fs1 rs1 s1 _ _ => (show ∀ σ' H' Fs', _ from k) σ H1 Fs1 rs1 s1.toP rfl) fun _ _ z => z⟩
theorem sv_ret (he : PX X W R e mx) : PSV X W R P (.Return (some e) pos) (sRet mx) := (ps_ret he).imp fun D σ H ⟨env, Fs, rs, o⟩ =>
  ⟨env, Fs, rs, o.bnd.mono (fun p _ k v G H1 Fs1 rs1 s1 rd ow => (show ∀ v σ' G H' Fs', _ from k) v σ G H1 Fs1 rs1 s1.toP rfl rd ow) fun _ _ z => z⟩
theorem sv_retN : PSV X W R P (.Return none pos) (sRet (xF (eC .non))) := ps_retN.imp fun D σ H ⟨env, Fs, rs, o⟩ =>
  (show ∀ v σ' G H' Fs', _ from o) .non σ [] H Fs rs .refl rfl ⟨rfl, rfl⟩ .nil
/-! ### if -/
theorem sv_if {as bs : List Stmt} (hc : PXT X W R c mx) (ha : PSB X W R P as m1) (hb : PSB X W R P bs m2) : PSV X W R P (.If c as bs pos) (sIf mx m1 m2) := (ps_if hc ha hb).imp fun D σ H ⟨env, Fs, rs, o⟩ =>
  ⟨env, Fs, rs, o.bnd.mono (fun p _ k => by
    obtain ⟨kk, e, q⟩ := Outc.bool k.bnd
    refine ⟨kk, e, fun H1 Fs1 rs1 s1 => ?_⟩
    cases kk with
    | true => exact iteT ⟨p.2, Fs1, rs1, Outc.mono q (fun _ _ k => k.later s1.toP rfl) fun _ _ z => z.later s1 rfl⟩
    | false => exact iteF ⟨p.2, Fs1, rs1, Outc.mono q (fun _ _ k => k.later s1.toP rfl) fun _ _ z => z.later s1 rfl⟩) fun _ _ z => z⟩
end
end VL
set_option Elab.async false
set_option linter.all false
set_option maxRecDepth 100000
set_option maxHeartbeats 4000000
/-! VLL: loops; a def's body. -/
namespace VL
open PySem L2
section
variable {K : PySem.W.Frag} {mg : Str → Option Value} {W : WX} {own mods P : List Nat} {H H1 H2 H' : Hp} {σ σ1 σ2 : St} {env env1 env2 : Env} {Fs Fs1 Fs2 : Nat → List Addr} {D : Ends}
/-! ### fewer owned slots within a loop -/
theorem RS.narrow (rs : RS K ⟨own⟩ H σ env Fs) (hm : ∀ i ∈ mods, i ∈ own) : RS K ⟨mods⟩ H σ env Fs := ⟨rs.rdl, rs.non, fun i hi => rs.own i (RL.ni (hm i (RL.of_ni hi)))⟩
theorem Stp.widen (rs : RS K ⟨own⟩ H σ env Fs) (s : Stp ⟨mods⟩ P σ env Fs H σ1 env1 Fs1 H1) (hm : ∀ i ∈ mods, i ∈ own) : Stp ⟨own⟩ P σ env Fs H σ1 env1 Fs1 H1 where
  keep := fun b o e n => s.keep b o e fun ⟨i, hi, hb⟩ => n ⟨i, RL.ni (hm i (RL.of_ni hi)), hb⟩
  sub := fun b ⟨i, hi, hb⟩ => by
    by_cases c : i ∈ mods
    · rcases s.sub b ⟨i, RL.ni c, hb⟩ with ⟨k, hk, hk2⟩ | z
      · exact .inl ⟨k, RL.ni (hm k (RL.of_ni hk)), hk2⟩
      · exact .inr z
    · rw [(s.ro i c).1] at hb
      exact .inl ⟨i, hi, hb⟩
  pin := fun i h => s.pin i (h.imp id fun z q => z (hm i q))
  ro := fun i h => s.ro i fun q => h (hm i q)
theorem RS.widen (rs : RS K ⟨own⟩ H σ env Fs) (rs1 : RS K ⟨mods⟩ H1 σ1 env1 Fs1) (s : Stp ⟨mods⟩ P σ env Fs H2 σ1 env1 Fs1 H1) : RS K ⟨own⟩ H1 σ1 env1 Fs1 := by
  refine ⟨rs1.rdl, rs1.non, fun i hi => ?_⟩
  by_cases c : i ∈ mods
  · exact rs1.own i (RL.ni c)
  · rw [(s.ro i c).1]
    refine ⟨(rs.own i hi).1, fun b hb j hj => ?_⟩
    by_cases c' : j ∈ mods
    · intro hb'
      exact (rs1.own j (RL.ni c')).2 b hb' i (Ne.symm hj) (by rw [(s.ro i c).1]; exact hb)
    · rw [(s.ro j c').1]
      exact (rs.own i hi).2 b hb j hj
theorem inO.widen {b : Addr} (hm : ∀ i ∈ mods, i ∈ own) (h : inO ⟨mods⟩ Fs b) : inO ⟨own⟩ Fs b := by
  obtain ⟨i, hi, hb⟩ := h
  exact ⟨i, RL.ni (hm i (RL.of_ni hi)), hb⟩
end
/-! ### targets of a loop -/
def rGS (K : PySem.W.Frag) (R : RL) (P : List Nat) (t : Tg) : TG := fun v σ H Q => ∃ env Fs f, RS K R H σ env Fs ∧ RF K H f v ∧ Outc (tgSet t (.fz f) env) (fun env' => ∀ σ' Fs', RS K R H σ' env' Fs' → Stp R P σ env Fs H σ' env' Fs' H → σ'.length = σ.length → Q σ' H) (fun _ _ => False)
section
variable {X : Cx} {W : WX} {R : RL} {own mods P : List Nat} {pos pos' : Pos} {e c target iter : Expr} {m : S} {mx : MX} {tg : Tg} {body : List Stmt} {kill : List Nat}
theorem pgs_nm {i : Nat} {x : Str} (hR : i ∉ R) (hP : i ∉ P) (h : PG X (.Name x pos) (gName i)) : PG X (.Name x pos) (rGS X.K R P (.nm i)) := ⟨fun pins s σ H v u Q I r ⟨env, Fs, f, rs, rf, o⟩ => h.run pins s σ H v u Q I r
  ((show ∀ σ' Fs', _ from o) _ _ (RS.set (d := .fz f) (v := v) (G := []) rs ⟨rf, rfl⟩ List.nodup_nil (fun _ h => (by cases h)) hR) (Stp.refl.set (fun _ h => (by cases h)) hR hP) (List.length_set ..))⟩
theorem pgs_tp {es : List Expr} {k : Nat} {is : List Nat} (hc : X.calm = true) (h : PGs X es (rGsS X.K R P is)) (hl : is.length = es.length)
    (hn : (assignEach es X.env).length = es.length := by rfl) (hst : (assignEach es X.env).findIdx? (·.1) = none := by rfl) : PG X (.Tuple es k pos) (rGS X.K R P (.tp is)) := ⟨fun pins s σ H v u Q I r ⟨env, Fs, f, rs, rf, o⟩ => by
  refine (pg_tup (n := es.length) hc h hn hst).run pins s σ H v u Q I r ?_
  have go : ∀ {fs : List FD}, (∃ a vs, v = .ref a ∧ SqT X.K H a vs ∧ RFs X.K H fs vs) → Outc (setMany is fs env) (fun env' => ∀ σ' Fs', RS X.K R H σ' env' Fs' → Stp R P σ env Fs H σ' env' Fs' H → σ'.length = σ.length → Q σ' H) (fun _ _ => False) → gTup X.K es.length (rGsS X.K R P is) v σ H Q := fun {fs} ⟨a, vs, e, ha, rf⟩ o => by
    obtain ⟨env', eenv, _⟩ := Outc.okOf o (setMany_ne _ _ _)
    exact ⟨a, vs, e, ha, by rw [rf.length, setMany_len eenv, hl], env, Fs, fs, rs, rf, o⟩
  cases f with
  | tup fs => exact go rf.sqt o
  | cup fs => exact go rf o
  | _ => exact o.elim⟩
/-! ### for -/
/-- one loop over frozen items, from a state in which only mods are owned -/
theorem for_core {K : PySem.W.Frag} {mg : Str → Option Value} {σ : St} {H1 : Hp} {env : Env} {Fs : Nat → List Addr} {D : Ends} {J : It} {fs : List FD} {vs : List V} {G F : List Addr} {Pp : Hp → Prop}
    (hm : ∀ i ∈ mods, i ∈ own) (hk : ∀ i ∈ kill, i ∈ mods) (rs : RS K ⟨own⟩ H1 σ env Fs) (S : Src K J (fs.map VL.D.fz) H1 Pp vs G F) (pv : ∀ b ∈ F, ∀ i ∈ mods, b ∉ Fs i)
    (o : Outc (forL tg kill m (fs.map VL.D.fz) env) (KSt K ⟨own⟩ P σ env Fs H1 D) (EX K mg W ⟨own⟩ σ Fs H1)) :
    ∃ W' : Nat → Nat → St → Hp → Prop, (∃ m, W' 0 m σ H1) ∧ ∀ i k σ H, W' i k σ H →
      (J.stop i H ∧ D.nx σ H) ∨ (J.go i H ∧ ∃ N : St → Hp → Prop, (∀ σ' H', N σ' H' → ∃ m', m' < k ∧ W' (i + 1) m' σ' H') ∧ ∀ x H', J.yld i H x H' → rGS K ⟨mods⟩ P tg x σ H' fun σ2 H2 => rS K mg W ⟨mods⟩ P m { D with nx := N, ct := N, bk := D.nx } σ2 H2) := by
  have rs0 := rs.narrow hm
  have len : vs.length = fs.length := by
    have := (S.rds H1 S.now).2.length
    rw [List.length_map] at this
    exact this
  have pvF : ∀ {σ' : St} {H' : Hp} {env' : Env} {Fs' : Nat → List Addr}, Stp ⟨mods⟩ P σ env Fs H1 σ' env' Fs' H' → ∀ b ∈ F, ¬ inO ⟨mods⟩ Fs' b := fun s b hb hi => by
    rcases s.sub b hi with ⟨k, hk, hb'⟩ | z
    · exact pv b hb k (RL.of_ni hk) hb'
    · obtain ⟨ob, e, _⟩ := (S.rds H1 S.now).1 b hb
      rw [z] at e; cases e
  refine ⟨fun i k σ' H' => k = vs.length - i ∧ i ≤ vs.length ∧ σ'.length = σ.length ∧ ∃ env' Fs', RS K ⟨mods⟩ H' σ' env' Fs' ∧ Stp ⟨mods⟩ P σ env Fs H1 σ' env' Fs' H' ∧ Pp H' ∧
    Outc (forL tg kill m ((fs.drop i).map VL.D.fz) env') (KSt K ⟨own⟩ P σ env Fs H1 D) (EX K mg W ⟨own⟩ σ Fs H1), ⟨vs.length, by simp, Nat.zero_le _, rfl, env, Fs, rs0, .refl, S.now, o⟩, ?_⟩
  rintro i k σ' H' ⟨rfl, hi, hl, env', Fs', rs', s', p', o'⟩
  have rsW := rs'.wipe kill
  have sW := s'.wipe kill (fun i h => RL.ni (hk i h))
  by_cases hlt : i < vs.length
  · refine .inr ⟨S.walk.go i H' p' hlt, fun σ'' H'' => i + 1 ≤ vs.length ∧ σ''.length = σ.length ∧ ∃ env' Fs', RS K ⟨mods⟩ H'' σ'' env' Fs' ∧ Stp ⟨mods⟩ P σ env Fs H1 σ'' env' Fs' H'' ∧ Pp H'' ∧
      Outc (forL tg kill m ((fs.drop (i + 1)).map VL.D.fz) env') (KSt K ⟨own⟩ P σ env Fs H1 D) (EX K mg W ⟨own⟩ σ Fs H1), fun σ'' H'' h => ⟨vs.length - (i + 1), by omega, rfl, h⟩, fun x H2 y => ?_⟩
    obtain ⟨rfl, hx⟩ := S.walk.yld i H' x H2 p' hlt y
    have hd : i < fs.length := by omega
    obtain ⟨v, F', hv, rd, _, _⟩ := (S.rds H2 p').2.get (i := i) (f := .fz fs[i]) (by simp [hd])
    have ev : v = x := Option.some.inj (hv.symm.trans hx)
    subst ev
    have ed : fs.drop i = fs[i] :: fs.drop (i + 1) := List.drop_eq_getElem_cons hd
    rw [ed, List.map_cons] at o'
    have o2 : Outc ((tgSet tg (.fz fs[i]) (VL.wipe kill env')).bind fun env1 => (m env1).bind fun p => match p.1 with
      | .nx => forL tg kill m ((fs.drop (i + 1)).map VL.D.fz) p.2
      | .ct => forL tg kill m ((fs.drop (i + 1)).map VL.D.fz) p.2
      | .bk => .ok (.nx, VL.wipe kill p.2)
      | .rt d => .ok (.rt d, p.2)) (KSt K ⟨own⟩ P σ env Fs H1 D) (EX K mg W ⟨own⟩ σ Fs H1) := o'
    obtain ⟨env1, eenv, o3⟩ := Outc.okOf o2.bnd (tgSet_ne _ _ _)
    refine ⟨VL.wipe kill env', wipeF kill Fs', fs[i], rsW, rd.1, ?_⟩
    rw [eenv]
    intro σ2 Fs2 rs2 s2 l2
    have s02 := sW.trans s2
    refine ⟨env1, Fs2, rs2, o3.bnd.mono (fun p ep kk => ?_) fun n gs z => ?_⟩
    · obtain ⟨fl, env3⟩ := p
      have next : Outc (forL tg kill m ((fs.drop (i + 1)).map VL.D.fz) env3) (KSt K ⟨own⟩ P σ env Fs H1 D) (EX K mg W ⟨own⟩ σ Fs H1) → ∀ σ3 H3 Fs3, RS K ⟨mods⟩ H3 σ3 env3 Fs3 → Stp ⟨mods⟩ P σ2 env1 Fs2 H2 σ3 env3 Fs3 H3 → σ3.length = σ2.length → _ := fun q σ3 H3 Fs3 rs3 s3 l3 =>
        (⟨hlt, (l3.trans l2).trans hl, env3, Fs3, rs3, s02.trans s3, S.keep H2 H3 (inO ⟨mods⟩ Fs2) s3.keep rs2.mutO (pvF s02) p', q⟩ : i + 1 ≤ vs.length ∧ σ3.length = σ.length ∧ ∃ env' Fs', RS K ⟨mods⟩ H3 σ3 env' Fs' ∧ Stp ⟨mods⟩ P σ env Fs H1 σ3 env' Fs' H3 ∧ Pp H3 ∧
          Outc (forL tg kill m ((fs.drop (i + 1)).map VL.D.fz) env') (KSt K ⟨own⟩ P σ env Fs H1 D) (EX K mg W ⟨own⟩ σ Fs H1))
      cases fl with
      | nx => exact next kk
      | ct => exact next kk
      | bk =>
        intro σ3 H3 Fs3 rs3 s3 l3
        have s03 := s02.trans s3
        exact (show ∀ σ' H' Fs', _ from kk) σ3 H3 _ (RS.widen rs (rs3.wipe kill) (s03.wipe kill fun i h => RL.ni (hk i h))) ((s03.wipe kill fun i h => RL.ni (hk i h)).widen rs hm) ((l3.trans l2).trans hl)
      | rt d =>
        intro v3 σ3 G3 H3 Fs3 rs3 s3 l3 rd3 ow3
        have s03 := s02.trans s3
        refine (show ∀ v σ' G H' Fs', _ from kk) v3 σ3 G3 H3 Fs3 (RS.widen rs rs3 s03) (s03.widen rs hm) ((l3.trans l2).trans hl) rd3 ⟨ow3.nd, ow3.apart, fun b hb => ?_⟩
        rcases ow3.orig b hb with z | z
        · rcases s02.sub b z with z | z
          · exact .inl (inO.widen hm z)
          · exact .inr z
        · rcases s02.back z with z | z
          · exact .inl (inO.widen hm z)
          · exact .inr z
    · intro cls dd H3 σ3 k3 r3 l3 e3
      have s02w := s02.widen rs hm
      refine z cls dd H3 σ3 (fun b ob eb nb => ?_) (fun j hj => ?_) ((l3.trans l2).trans hl) e3
      · refine k3 b ob (s02w.keep b ob eb nb) fun hi => ?_
        rcases s02.sub b hi with q | q
        · exact nb (inO.widen hm q)
        · rw [eb] at q; cases q
      · have hj' : j ∈ (RL.mk mods) := fun q => hj (hm j q)
        exact (r3 j hj').trans (s02.pin j (.inr hj'))
  · refine .inl ⟨S.walk.stop i H' p' (by omega), ?_⟩
    have ed : fs.drop i = [] := List.drop_eq_nil_iff.mpr (by omega)
    rw [ed] at o'
    exact (show ∀ σ' H' Fs', _ from o') σ' H' _ (RS.widen rs rsW sW) (sW.widen rs hm) hl
theorem sv_for {src : Env → Res (List D)} (hp : PassesOwn (model X.prog X.w) X.A X.env X.xe) (hc : X.calm = true) (hm : ∀ i ∈ mods, i ∈ own) (hk : ∀ i ∈ kill, i ∈ mods) (hi : PII X W target iter src) (hg : PG X target (rGS X.K ⟨mods⟩ P tg)) (hb : PSB X W ⟨mods⟩ P body m)
    (hs : ∀ x, foldedSetIterable iter X.env x = pure x := by intro _; rfl) : PSV X W ⟨own⟩ P (.For target iter body [] pos) (sFor src tg mods kill m) := (ps_for hp hc hi hg hb hs).imp fun D σ H ⟨env, Fs, rs, o⟩ => by
  refine ⟨VL.wipe mods env, wipeF mods Fs, (rs.wipe mods).rdl, o.bnd.mono (fun ds _ k J vs G F Pp H1 s1 S pv => ?_) fun _ _ z => z.er⟩
  obtain ⟨fs, ef, k⟩ := Outc.okOf k.bnd (allF_ne ds)
  rw [allF_ok ef] at S
  refine for_core hm hk (rs.same s1) S (fun b hb i hi hbi => ?_) (k.mono (fun _ _ k => k.later (.same s1) rfl) fun _ _ z => z.later (P := P) (.same (env := env) s1) rfl)
  rcases pv b hb with ⟨j, hj⟩ | z
  · by_cases c : j ∈ mods
    · rw [wipeF_in c] at hj; cases hj
    · rw [wipeF_out c] at hj
      exact (rs.own i (RL.ni (hm i hi))).2 b hbi j (fun e => c (e ▸ hi)) hj
  · exact rs.freeAt z i hbi
/-! ### sources with effects -/
def rXI (K : PySem.W.Frag) (mg : Str → Option Value) (W : WX) (R : RL) (m : Env → Res (List D × Env)) : TI := fun σ H Rr => ∃ env Fs, RS K R H σ env Fs ∧
  Outc (m env) (fun p => ∀ J vs G F P H' Fs', RS K R H' σ p.2 Fs' → Stp R [] σ env Fs H σ p.2 Fs' H' → Src K J p.1 H' P vs G F → (∀ b ∈ F, ∀ i, b ∉ Fs' i) → Rr J H') (EX K mg W R σ Fs H)
abbrev PXI (X : Cx) (W : WX) (R : RL) (tg e : Expr) (m : Env → Res (List D × Env)) : Prop := PI X tg e (rXI X.K X.mg W R m)
theorem xwalk_imp {mx : MX} : ∀ σ H Rr, rXI X.K X.mg W R (xsE mx) σ H Rr → iList X.K (rX X.K X.mg W R mx) σ H Rr ∨ iTup X.K (rX X.K X.mg W R mx) σ H Rr := fun σ H Rr ⟨env, Fs, rs, o⟩ => by
  have o' := o.bnd
  cases e : mx env with
  | err n fs =>
    rw [e] at o'
    refine .inl ⟨env, Fs, rs, ?_⟩
    rw [e]
    exact o'
  | bad => rw [e] at o'; exact o'.elim
  | ok p =>
    rw [e] at o'
    obtain ⟨d, env1⟩ := p
    have tt : ∀ {fs : List FD} {g : FD}, d = .fz g → (∀ H1 v, RF X.K H1 g v → ∃ a vs, v = .ref a ∧ SqT X.K H1 a vs ∧ RFs X.K H1 fs vs) → items d = .ok (fs.map VL.D.fz) → iTup X.K (rX X.K X.mg W R mx) σ H Rr := fun {fs g} ed hv ei => by
      refine ⟨env, Fs, rs, ?_⟩
      rw [e]
      intro v G H1 Fs1 rs1 s1 rd ow
      subst ed
      obtain ⟨a, vs, rfl, ha, rf⟩ := hv H1 v rd.1
      refine ⟨a, rfl, ⟨vs, ha⟩, ?_⟩
      have o2 : Outc ((items (.fz g)).bind fun ds => Res.ok (ds, env1)) _ _ := o'
      rw [ei] at o2
      exact o2 _ _ _ _ _ H1 Fs1 rs1 s1 (src_tup ha rf.rds) fun b hb => by cases hb
    cases d with
    | lst ds =>
      refine .inl ⟨env, Fs, rs, ?_⟩
      rw [e]
      intro v G H1 Fs1 rs1 s1 rd ow
      obtain ⟨a, vs, G', rfl, ha, r, eG⟩ := rd
      subst eG
      exact ⟨a, rfl, ⟨vs, .inl (.inl ha)⟩, o' _ _ _ _ _ H1 Fs1 rs1 s1 (src_list ha r) ow.apart⟩
    | mtup ds =>
      refine .inr ⟨env, Fs, rs, ?_⟩
      rw [e]
      intro v G H1 Fs1 rs1 s1 rd ow
      obtain ⟨a, vs, rfl, ha, r⟩ := rd
      exact ⟨a, rfl, ⟨vs, .inl (.inl ha)⟩, o' _ _ _ _ _ H1 Fs1 rs1 s1 (src_tup (.inl (.inl ha)) r) ow.apart⟩
    | fz g =>
      cases g with
      | tup fs => exact .inr (tt rfl (fun H1 v h => h.sqt) rfl)
      | cup fs => exact .inr (tt rfl (fun H1 v h => h) rfl)
      | scr ns =>
        refine .inl ⟨env, Fs, rs, ?_⟩
        rw [e]
        intro v G H1 Fs1 rs1 s1 rd ow
        obtain ⟨a, rfl, ha⟩ := rd.1
        exact ⟨a, rfl, ⟨_, ha.sql⟩, o' _ _ _ _ _ H1 Fs1 rs1 s1 (src_scr ha) fun b hb => by cases hb⟩
      | _ => exact o'.elim
    | _ => exact o'.elim
theorem pxi_src (h : PX X W R e mx) : PXI X W R target e (xsE mx) := PI.imp' ((pi_list h).or (pi_tup h)) xwalk_imp
theorem pxi_r1 {a : Expr} {p : Pos} (hm : X.mg "range" = none) (ha : PX X W R a mx) (hg : Gl X "range" := by rfl) (hs : starEach [a] X.env = [(false, eval a X.env)] := by rfl) : PXI X W R target (.Call (.Name "range" p) [a] [] pos) (xsR1 mx) :=
  PI.imp' (pi_range1 hg hm (pxa_cons ha pxa_nil (by rw [hs]; rfl)) hs) fun σ H Rr ⟨env, Fs, rs, o⟩ => ⟨env, Fs, rs, by
    have o1 := o.bnd
    show Outc ((mx env).bind fun p => (Res.ok ([], p.2)).bind fun q => Res.ok (p.1 :: q.1, q.2)) _ _
    cases e : mx env with
    | err n fs => rw [e] at o1; exact o1
    | bad => rw [e] at o1; exact o1.elim
    | ok p =>
      rw [e] at o1
      obtain ⟨d, env1⟩ := p
      obtain ⟨n, ed, o2⟩ := Outc.int (Outc.bnd o1)
      have ed' : d = .fz (.int n) := ed
      subst ed'
      obtain ⟨⟨z1, z2⟩, o3⟩ := Outc.need o2
      rintro vs G H1 Fs1 rs1 s1 ⟨v, q, F1, F2, rfl, ⟨hv, _⟩, ⟨rfl, _⟩, _⟩ _
      have ev : v = .int n := hv
      subst ev
      exact ⟨n, rfl, z1, z2, o3 _ _ _ _ _ H1 Fs1 rs1 s1 src_rng fun b hb => by cases hb⟩⟩
theorem sv_forX {src : Env → Res (List D × Env)} (hp : PassesOwn (model X.prog X.w) X.A X.env X.xe) (hc : X.calm = true) (hm : ∀ i ∈ mods, i ∈ own) (hk : ∀ i ∈ kill, i ∈ mods) (hi : PXI X W ⟨own⟩ target iter src) (hg : PG X target (rGS X.K ⟨mods⟩ P tg)) (hb : PSB X W ⟨mods⟩ P body m)
    (hs : ∀ x, foldedSetIterable iter X.env x = pure x := by intro _; rfl) : PSV X W ⟨own⟩ P (.For target iter body [] pos) (sForX src tg kill m) := (ps_for hp hc hi hg hb hs).imp fun D σ H ⟨env, Fs, rs, o⟩ => by
  refine ⟨env, Fs, rs, o.bnd.mono (fun p _ k J vs G F Pp H1 Fs1 rs1 s1 S pv => ?_) fun _ _ z => z⟩
  obtain ⟨fs, ef, k⟩ := Outc.okOf k.bnd (allF_ne p.1)
  rw [allF_ok ef] at S
  exact for_core hm hk rs1 S (fun b hb i _ => pv b hb i) (k.mono (fun _ _ k => k.later s1.toP rfl) fun _ _ z => z.later s1 rfl)
/-! ### while -/
theorem sv_while (hp : PassesOwn (model X.prog X.w) X.A X.env X.xe) (hk : ∀ i ∈ kill, i ∉ R) (hc : PXT X W R c mx) (hb : PSB X W R P body m) : PSV X W R P (.While c body [] pos) (sWhile mx kill m) := (ps_while hp hc hb).imp fun D σ H ⟨env, Fs, rs, o⟩ => by
  have ex : ∃ n, Outc (whileL mx kill m n env) (KSt X.K R P σ env Fs H D) (EX X.K X.mg W R σ Fs H) := by
    unfold sWhile at o
    split at o
    · exact ⟨_, o⟩
    · exact o.elim
  obtain ⟨n, o⟩ := ex
  refine ⟨fun k σ' H' => σ'.length = σ.length ∧ ∃ env' Fs', RS X.K R H' σ' env' Fs' ∧ Stp R P σ env Fs H σ' env' Fs' H' ∧ Outc (whileL mx kill m k env') (KSt X.K R P σ env Fs H D) (EX X.K X.mg W R σ Fs H), ⟨n, rfl, env, Fs, rs, .refl, o⟩, ?_⟩
  rintro k σ' H' ⟨hl, env', Fs', rs', s', o'⟩
  cases k with
  | zero => exact o'.elim
  | succ k =>
    have rsW := rs'.wipe kill
    have sW := s'.wipe kill hk
    unfold whileL at o'
    refine ⟨VL.wipe kill env', _, rsW, o'.bnd.mono (fun p _ kk => ?_) fun _ _ z => z.later sW hl⟩
    obtain ⟨b, eb, q⟩ := Outc.bool kk.bnd
    refine ⟨b, eb, fun H1 Fs1 rs1 s1 => ?_⟩
    have s01 := sW.trans s1.toP
    cases b with
    | false => exact iteF ((show ∀ σ' H' Fs', _ from q) σ' H1 _ (rs1.wipe kill) (s01.wipe kill hk) hl)
    | true =>
      refine iteT ⟨fun σ'' H'' => σ''.length = σ.length ∧ ∃ env' Fs', RS X.K R H'' σ'' env' Fs' ∧ Stp R P σ env Fs H σ'' env' Fs' H'' ∧ Outc (whileL mx kill m k env') (KSt X.K R P σ env Fs H D) (EX X.K X.mg W R σ Fs H), fun σ'' H'' h => ⟨k, Nat.lt_succ_self k, h⟩, p.2, Fs1, rs1, (Outc.bnd q).mono (fun z _ kz => ?_) fun _ _ z => z.later s01 hl⟩
      obtain ⟨fl, env3⟩ := z
      cases fl with
      | nx => exact fun σ3 H3 Fs3 rs3 s3 l3 => ⟨l3.trans hl, env3, Fs3, rs3, s01.trans s3, kz⟩
      | ct => exact fun σ3 H3 Fs3 rs3 s3 l3 => ⟨l3.trans hl, env3, Fs3, rs3, s01.trans s3, kz⟩
      | bk => exact fun σ3 H3 Fs3 rs3 s3 l3 => (show ∀ σ' H' Fs', _ from kz) σ3 H3 _ (rs3.wipe kill) ((s01.trans s3).wipe kill hk) (l3.trans hl)
      | rt d => exact fun v3 σ3 G3 H3 Fs3 rs3 s3 l3 rd3 ow3 => (show ∀ v σ' G H' Fs', _ from kz) v3 σ3 G3 H3 Fs3 rs3 (s01.trans s3) (l3.trans hl) rd3 (ow3.trans s01)
end
end VL
set_option Elab.async false
set_option linter.all false
set_option maxRecDepth 100000
set_option maxHeartbeats 4000000
/-! VLP: stores at paths. -/
namespace VL
open PySem L2
section
variable {K : PySem.W.Frag} {H : Hp}
theorem ofO_ok {α : Type} {o : Option α} {a : α} (h : ofO o = .ok a) : o = some a := by
  cases o with
  | none => cases h
  | some b => cases h; rfl
theorem need_ok {α : Type} {c : Prop} [Decidable c] {x : Res α} {a : α} (h : need c x = .ok a) : c ∧ x = .ok a := by
  by_cases e : c
  · unfold need at h; rw [if_pos e] at h; exact ⟨e, h⟩
  · unfold need at h; rw [if_neg e] at h; cases h
/-- a part and what lies around it -/
theorem RDs.at : ∀ {ds : List D} {vs : List V} {G : List Addr} {j : Nat} {e : D}, RDs K H ds vs G → G.Nodup → ds[j]? = some e →
    ∃ ve Fe A B, vs[j]? = some ve ∧ G = A ++ Fe ++ B ∧ RD K H e ve Fe ∧ ∀ e' u H' F' (Z : Addr → Prop), KeepX Z H H' → (∀ b, Z b → MutAt H b) → (∀ b ∈ G, Z b → b ∈ Fe) → RD K H' e' u F' → RDs K H' (ds.set j e') (vs.set j u) (A ++ F' ++ B)
  | [], _, _, _, _, _, _, e => by simp at e
  | d :: r, _, _, 0, e, ⟨v, q, F1, F2, ev, h, hr, eG⟩, nd, e2 => by
    subst ev eG
    simp at e2
    subst e2
    refine ⟨v, F1, [], F2, by simp, by simp, h, fun e' u H' F' Z k mz gz re => ⟨u, q, F', F2, by simp, re, hr.keep k mz fun b hb hb' => ?_, by simp⟩⟩
    exact (List.nodup_append.mp nd).2.2 b (gz b (List.mem_append_right _ hb) hb') b hb rfl
  | d :: r, _, _, j + 1, e, ⟨v, q, F1, F2, ev, h, hr, eG⟩, nd, e2 => by
    subst ev eG
    obtain ⟨n1, n2, n3⟩ := List.nodup_append.mp nd
    obtain ⟨ve, Fe, A, B, h1, h2, h3, h4⟩ := RDs.at (j := j) hr n2 (by simpa using e2)
    refine ⟨ve, Fe, F1 ++ A, B, by simpa using h1, by rw [h2]; simp, h3, fun e' u H' F' Z k mz gz re => ⟨v, q.set j u, F1, A ++ F' ++ B, by simp, h.keep k mz fun b hb hb' => ?_, h4 e' u H' F' Z k mz (fun b hb hz => gz b (List.mem_append_right _ hb) hz) re, by simp⟩⟩
    exact n3 b hb b (by rw [h2]; simp [gz b (List.mem_append_left _ hb) hb']) rfl
theorem RDk.at : ∀ {kvs : List (VL.Key × D)} {ws : List (VL.Key × V)} {G : List Addr} {k : VL.Key} {e : D}, RDk K H kvs ws G → G.Nodup → VL.valV kvs k = some e →
    ∃ ve Fe A B, L2.valV ws k = some ve ∧ G = A ++ Fe ++ B ∧ RD K H e ve Fe ∧ ∀ e' u H' F' (Z : Addr → Prop), KeepX Z H H' → (∀ b, Z b → MutAt H b) → (∀ b ∈ G, Z b → b ∈ Fe) → RD K H' e' u F' → RDk K H' (kvs.map fun kv => if kv.1 = k then (kv.1, e') else kv) (ws.map fun kv => if kv.1 = k then (kv.1, u) else kv) (A ++ F' ++ B)
  | [], _, _, _, _, _, _, e => by cases e
  | (j, d) :: r, _, _, k, e, ⟨v, q, F1, F2, ev, h, hr, eG, nk⟩, nd, e2 => by
    subst ev eG
    obtain ⟨n1, n2, n3⟩ := List.nodup_append.mp nd
    by_cases c : j = k
    · subst c
      have e3 : d = e := by simpa [VL.valV, List.find?_cons] using e2
      subst e3
      have off : ∀ (x : D) (r' : List (VL.Key × D)), j ∉ r'.map (·.1) → (r'.map fun kv => if kv.1 = j then (kv.1, x) else kv) = r' := by
        intro x r'
        induction r' with
        | nil => intro _; rfl
        | cons p t ih =>
          intro hn
          have h1 : p.1 ≠ j := fun e => hn (by simp [e])
          simp only [List.map_cons, if_neg h1]
          rw [ih fun m => hn (by simp at m ⊢; exact .inr m)]
      have offV : ∀ (x : V) {r' : List (VL.Key × D)} {q' : List (VL.Key × V)} {G' : List Addr}, RDk K H r' q' G' → j ∉ r'.map (·.1) → (q'.map fun kv => if kv.1 = j then (kv.1, x) else kv) = q' := by
        intro x r'
        induction r' with
        | nil => rintro q' G' ⟨rfl, _⟩ _; rfl
        | cons p t ih =>
          rintro q' G' ⟨v', q'', G1, G2, rfl, _, hr', _, _⟩ hn
          have h1 : p.1 ≠ j := fun e => hn (by simp [e])
          simp only [List.map_cons, if_neg h1]
          rw [ih hr' fun m => hn (by simp at m ⊢; exact .inr m)]
      refine ⟨v, F1, [], F2, by simp [L2.valV, List.find?_cons], by simp, h, fun e' u H' F' Z kp mz gz re => ?_⟩
      simp only [List.map_cons, if_true]
      rw [off e' r nk, offV u hr nk]
      exact ⟨u, q, F', F2, rfl, re, hr.keep kp mz (fun b hb hb' => n3 b (gz b (List.mem_append_right _ hb) hb') b hb rfl), by simp, nk⟩
    · obtain ⟨ve, Fe, A, B, h1, h2, h3, h4⟩ := RDk.at (k := k) (e := e) hr n2 (by simpa [VL.valV, List.find?_cons, c] using e2)
      refine ⟨ve, Fe, F1 ++ A, B, by simpa [L2.valV, List.find?_cons, c] using h1, by rw [h2]; simp, h3, fun e' u H' F' Z kp mz gz re => ?_⟩
      simp only [List.map_cons, if_neg c]
      refine ⟨v, _, F1, A ++ F' ++ B, rfl, h.keep kp mz (fun b hb hb' => n3 b hb b (by rw [h2]; simp [gz b (List.mem_append_left _ hb) hb']) rfl), h4 e' u H' F' Z kp mz (fun b hb hz => gz b (List.mem_append_right _ hb) hz) re, by simp, fun m => nk ?_⟩
      obtain ⟨p, hp, ep⟩ := List.mem_map.mp m
      obtain ⟨p', hp', ep'⟩ := List.mem_map.mp hp
      by_cases c' : p'.1 = k
      · rw [if_pos c'] at ep'
        rw [← ep'] at ep
        exact List.mem_map.mpr ⟨p', hp', ep⟩
      · rw [if_neg c'] at ep'
        rw [← ep'] at ep
        exact List.mem_map.mpr ⟨p', hp', ep⟩
theorem RDt.at : ∀ {kvs : List (List VL.Key × D)} {ws : List (List VL.Key × V)} {G : List Addr} {k : List VL.Key} {e : D}, RDt K H kvs ws G → G.Nodup → VL.valV kvs k = some e →
    ∃ ve Fe A B, L2.valV ws k = some ve ∧ G = A ++ Fe ++ B ∧ RD K H e ve Fe ∧ ∀ e' u H' F' (Z : Addr → Prop), KeepX Z H H' → (∀ b, Z b → MutAt H b) → (∀ b ∈ G, Z b → b ∈ Fe) → RD K H' e' u F' → RDt K H' (kvs.map fun kv => if kv.1 = k then (kv.1, e') else kv) (ws.map fun kv => if kv.1 = k then (kv.1, u) else kv) (A ++ F' ++ B)
  | [], _, _, _, _, _, _, e => by cases e
  | (j, d) :: r, _, _, k, e, ⟨v, q, F1, F2, ev, h, hr, eG, nk⟩, nd, e2 => by
    subst ev eG
    obtain ⟨n1, n2, n3⟩ := List.nodup_append.mp nd
    by_cases c : j = k
    · subst c
      have e3 : d = e := by simpa [VL.valV, List.find?_cons] using e2
      subst e3
      have off : ∀ (x : D) (r' : List (List VL.Key × D)), j ∉ r'.map (·.1) → (r'.map fun kv => if kv.1 = j then (kv.1, x) else kv) = r' := by
        intro x r'
        induction r' with
        | nil => intro _; rfl
        | cons p t ih =>
          intro hn
          have h1 : p.1 ≠ j := fun e => hn (by simp [e])
          simp only [List.map_cons, if_neg h1]
          rw [ih fun m => hn (by simp at m ⊢; exact .inr m)]
      have offV : ∀ (x : V) {r' : List (List VL.Key × D)} {q' : List (List VL.Key × V)} {G' : List Addr}, RDt K H r' q' G' → j ∉ r'.map (·.1) → (q'.map fun kv => if kv.1 = j then (kv.1, x) else kv) = q' := by
        intro x r'
        induction r' with
        | nil => rintro q' G' ⟨rfl, _⟩ _; rfl
        | cons p t ih =>
          rintro q' G' ⟨v', q'', G1, G2, rfl, _, hr', _, _⟩ hn
          have h1 : p.1 ≠ j := fun e => hn (by simp [e])
          simp only [List.map_cons, if_neg h1]
          rw [ih hr' fun m => hn (by simp at m ⊢; exact .inr m)]
      refine ⟨v, F1, [], F2, by simp [L2.valV, List.find?_cons], by simp, h, fun e' u H' F' Z kp mz gz re => ?_⟩
      simp only [List.map_cons, if_true]
      rw [off e' r nk, offV u hr nk]
      exact ⟨u, q, F', F2, rfl, re, hr.keep kp mz (fun b hb hb' => n3 b (gz b (List.mem_append_right _ hb) hb') b hb rfl), by simp, nk⟩
    · obtain ⟨ve, Fe, A, B, h1, h2, h3, h4⟩ := RDt.at (k := k) (e := e) hr n2 (by simpa [VL.valV, List.find?_cons, c] using e2)
      refine ⟨ve, Fe, F1 ++ A, B, by simpa [L2.valV, List.find?_cons, c] using h1, by rw [h2]; simp, h3, fun e' u H' F' Z kp mz gz re => ?_⟩
      simp only [List.map_cons, if_neg c]
      refine ⟨v, _, F1, A ++ F' ++ B, rfl, h.keep kp mz (fun b hb hb' => n3 b hb b (by rw [h2]; simp [gz b (List.mem_append_left _ hb) hb']) rfl), h4 e' u H' F' Z kp mz (fun b hb hz => gz b (List.mem_append_right _ hb) hz) re, by simp, fun m => nk ?_⟩
      obtain ⟨p, hp, ep⟩ := List.mem_map.mp m
      obtain ⟨p', hp', ep'⟩ := List.mem_map.mp hp
      by_cases c' : p'.1 = k
      · rw [if_pos c'] at ep'
        rw [← ep'] at ep
        exact List.mem_map.mpr ⟨p', hp', ep⟩
      · rw [if_neg c'] at ep'
        rw [← ep'] at ep
        exact List.mem_map.mpr ⟨p', hp', ep⟩
theorem set_self {α : Type} {xs : List α} {j : Nat} {x : α} (h : xs[j]? = some x) : xs.set j x = xs := by
  apply List.ext_getElem?
  intro i
  by_cases e : j = i
  · subst e
    have l : j < xs.length := (List.getElem?_eq_some_iff.mp h).1
    rw [List.getElem?_set_self l, h]
  · rw [List.getElem?_set_ne e]
theorem map_self {κ : Type} [DecidableEq κ] {k : κ} {u : V} : ∀ {ws : List (κ × V)}, (∀ p ∈ ws, p.1 = k → p.2 = u) → (ws.map fun kv => if kv.1 = k then (kv.1, u) else kv) = ws
  | [], _ => rfl
  | p :: r, h => by
    have ih := map_self (k := k) (u := u) (ws := r) fun q hq => h q (List.mem_cons_of_mem _ hq)
    simp only [List.map_cons]
    rw [ih]
    by_cases c : p.1 = k
    · rw [if_pos c]
      have := h p List.mem_cons_self c
      rw [← this]
    · rw [if_neg c]
theorem val_any {κ : Type} [DecidableEq κ] {kvs : List (κ × D)} {k : κ} {e : D} (h : VL.valV kvs k = some e) : (kvs.any fun kv => decide (kv.1 = k)) = true := by
  unfold VL.valV at h
  obtain ⟨p, hp, _⟩ := Option.map_eq_some_iff.mp h
  exact List.any_eq_true.mpr ⟨p, List.mem_of_find?_eq_some hp, by simpa using List.find?_some hp⟩
theorem keys_k : ∀ {kvs : List (VL.Key × D)} {ws : List (VL.Key × V)} {G : List Addr}, RDk K H kvs ws G → ws.map (·.1) = kvs.map (·.1)
  | [], _, _, ⟨e, _⟩ => by subst e; rfl
  | (k, d) :: r, _, _, ⟨v, q, F1, F2, e, h, hr, eG, nk⟩ => by subst e; simp [keys_k hr]
theorem keys_t : ∀ {kvs : List (List VL.Key × D)} {ws : List (List VL.Key × V)} {G : List Addr}, RDt K H kvs ws G → ws.map (·.1) = kvs.map (·.1)
  | [], _, _, ⟨e, _⟩ => by subst e; rfl
  | (k, d) :: r, _, _, ⟨v, q, F1, F2, e, h, hr, eG, nk⟩ => by subst e; simp [keys_t hr]
theorem any_k {κ α β : Type} [DecidableEq κ] {a : List (κ × α)} {b : List (κ × β)} (h : a.map (·.1) = b.map (·.1)) (k : κ) : (a.any fun kv => decide (kv.1 = k)) = (b.any fun kv => decide (kv.1 = k)) := by
  have e1 : (a.any fun kv => decide (kv.1 = k)) = (a.map (·.1)).any fun x => decide (x = k) := by rw [List.any_map]; rfl
  have e2 : (b.any fun kv => decide (kv.1 = k)) = (b.map (·.1)).any fun x => decide (x = k) := by rw [List.any_map]; rfl
  rw [e1, e2, h]
theorem uniq_k : ∀ {kvs : List (VL.Key × D)} {ws : List (VL.Key × V)} {G : List Addr} {k : VL.Key} {u : V}, RDk K H kvs ws G → L2.valV ws k = some u → ∀ p ∈ ws, p.1 = k → p.2 = u
  | [], _, _, _, _, ⟨e, _⟩, _ => by subst e; intro p hp; cases hp
  | (j, d) :: r, _, _, k, u, ⟨v, q, F1, F2, e, h, hr, eG, nk⟩, hv => by
    subst e
    intro p hp ep
    by_cases c : j = k
    · subst c
      have e3 : v = u := by simpa [L2.valV, List.find?_cons] using hv
      rcases List.mem_cons.mp hp with rfl | hp
      · exact e3
      · exact absurd (by rw [← keys_k hr]; exact List.mem_map.mpr ⟨p, hp, ep⟩) nk
    · have hv' : L2.valV q k = some u := by simpa [L2.valV, List.find?_cons, c] using hv
      rcases List.mem_cons.mp hp with rfl | hp
      · exact absurd ep c
      · exact uniq_k hr hv' p hp ep
theorem uniq_t : ∀ {kvs : List (List VL.Key × D)} {ws : List (List VL.Key × V)} {G : List Addr} {k : List VL.Key} {u : V}, RDt K H kvs ws G → L2.valV ws k = some u → ∀ p ∈ ws, p.1 = k → p.2 = u
  | [], _, _, _, _, ⟨e, _⟩, _ => by subst e; intro p hp; cases hp
  | (j, d) :: r, _, _, k, u, ⟨v, q, F1, F2, e, h, hr, eG, nk⟩, hv => by
    subst e
    intro p hp ep
    by_cases c : j = k
    · subst c
      have e3 : v = u := by simpa [L2.valV, List.find?_cons] using hv
      rcases List.mem_cons.mp hp with rfl | hp
      · exact e3
      · exact absurd (by rw [← keys_t hr]; exact List.mem_map.mpr ⟨p, hp, ep⟩) nk
    · have hv' : L2.valV q k = some u := by simpa [L2.valV, List.find?_cons, c] using hv
      rcases List.mem_cons.mp hp with rfl | hp
      · exact absurd ep c
      · exact uniq_t hr hv' p hp ep
/-- a part e of d at k: where it stands, and d behind a change of it -/
theorem part_at {d k e : D} {v vk : V} {F Gk : List Addr} (rd : RD K H d v F) (nd : F.Nodup) (rk : RD K H k vk Gk) (he : oIx d k = .ok e) :
    ∃ ve Fe A B, F = A ++ Fe ++ B ∧ RD K H e ve Fe ∧ (∀ Q : VK, Q ve H → rIxA K v vk H Q) ∧
      ∀ e' d', oPut d k e' = .ok d' → ∀ H' F', KeepX (· ∈ Fe) H H' → RD K H' e' ve F' → RD K H' d' v (A ++ F' ++ B) := by
  have frozen : ∀ {g : FD} {e'' d' : D}, oPut (.fz g) k e'' = .ok d' → False := fun {g e'' d'} h => by cases g <;> cases k <;> cases h
  have keepA : ∀ {a : Addr} {o : HO} {Fe : List Addr} {H' : Hp}, H a = some o → KeepX (· ∈ Fe) H H' → a ∉ Fe → H' a = some o := fun h k n => k _ _ h n
  cases d with
  | fz f =>
    have hQ : ∃ ve, RD K H e ve [] ∧ ∀ Q : VK, Q ve H → rIxA K v vk H Q := by
      have tt : ∀ {fs : List FD} {i : Int}, (∃ a vs, v = .ref a ∧ SqT K H a vs ∧ RFs K H fs vs) → vk = .int i → ((ofO (VL.atI fs i)).bind fun f => Res.ok (D.fz f)) = .ok e → ∃ ve, RD K H e ve [] ∧ ∀ Q : VK, Q ve H → rIxA K v vk H Q := fun {fs i} hx hy h => by
        obtain ⟨f, ef, h⟩ := bind_eq_ok h
        cases h
        obtain ⟨a, vs, rfl, ha, r⟩ := hx
        obtain ⟨u, h1, h2⟩ := atI_rfs r (ofO_ok ef)
        exact ⟨u, ⟨h2, rfl⟩, fun Q q => .inl (.inr (.inl ⟨a, vs, i, u, rfl, hy, ha, h1, q⟩))⟩
      cases k with
      | fz g =>
        obtain ⟨hf, _⟩ := rd
        obtain ⟨hg, _⟩ := rk
        cases f with
        | tup fs =>
          cases g with
          | int i => exact tt hf.sqt hg he
          | _ => cases he
        | cup fs =>
          cases g with
          | int i => exact tt hf hg he
          | _ => cases he
        | str z =>
          cases g with
          | int i =>
            obtain ⟨zl, he⟩ := need_ok (show need (z.length ≤ 16777216) ((ofO (VL.atI z.cps.toList i)).bind fun c => Res.ok (D.fz (.str ⟨#[c]⟩))) = .ok e from he)
            obtain ⟨c, ec, h⟩ := bind_eq_ok he
            cases h
            exact ⟨.str ⟨#[c]⟩, ⟨rfl, rfl⟩, fun Q q => .inl (.inr (.inr ⟨z, i, c, hf, hg, by rw [sizeLine_eq]; exact zl, ofO_ok ec, q⟩))⟩
          | _ => cases he
        | _ => cases g <;> cases he
      | _ => cases f <;> cases he
    obtain ⟨ve, h1, h2⟩ := hQ
    obtain ⟨_, eF⟩ := rd
    exact ⟨ve, [], [], [], by rw [eF]; rfl, h1, h2, fun e' d' h => (frozen h).elim⟩
  | lst ds =>
    cases k with
    | fz g =>
      cases g with
      | int i =>
        have e2 : vk = .int i := rk.1
        obtain ⟨a, vs, G, rfl, ha, r, eF⟩ := rd
        subst eF
        have nda := List.nodup_cons.mp nd
        have ee := ofO_ok (show ofO (VL.atI ds i) = .ok e from he)
        unfold VL.atI at ee
        cases ej : VL.ixN ds.length i with
        | none => rw [ej] at ee; cases ee
        | some j =>
          rw [ej] at ee
          have ee' : ds[j]? = some e := ee
          obtain ⟨ve, Fe, A, B, h1, h2, h3, h4⟩ := RDs.at r nda.2 ee'
          refine ⟨ve, Fe, a :: A, B, by rw [h2]; rfl, h3, fun Q q => .inl (.inl ⟨a, vs, i, ve, rfl, e2, .inl (.inl ha), ?_, q⟩), fun e' d' h H' F' kp re => ?_⟩
          · unfold L2.atI
            rw [r.length, ← ixN_eq, ej]
            exact h1
          · have h' : ((ofO (VL.ixN ds.length i)).bind fun j => Res.ok (D.lst (ds.set j e'))) = .ok d' := h
            rw [ej] at h'
            cases h'
            have z := h4 e' ve H' F' _ kp (fun b hb => h3.mut b hb) (fun b _ hb => hb) re
            rw [set_self h1] at z
            exact ⟨a, vs, A ++ F' ++ B, rfl, keepA ha kp fun hm => nda.1 (by rw [h2]; simp [hm]), z, rfl⟩
      | _ => cases he
    | _ => cases he
  | mtup ds =>
    cases k with
    | fz g =>
      cases g with
      | int i =>
        have e2 : vk = .int i := rk.1
        obtain ⟨a, vs, rfl, ha, r⟩ := rd
        have ee := ofO_ok (show ofO (VL.atI ds i) = .ok e from he)
        unfold VL.atI at ee
        cases ej : VL.ixN ds.length i with
        | none => rw [ej] at ee; cases ee
        | some j =>
          rw [ej] at ee
          have ee' : ds[j]? = some e := ee
          obtain ⟨ve, Fe, A, B, h1, h2, h3, h4⟩ := RDs.at r nd ee'
          refine ⟨ve, Fe, A, B, h2, h3, fun Q q => .inl (.inr (.inl ⟨a, vs, i, ve, rfl, e2, .inl (.inl ha), ?_, q⟩)), fun e' d' h => (by cases h)⟩
          unfold L2.atI
          rw [r.length, ← ixN_eq, ej]
          exact h1
      | _ => cases he
    | _ => cases he
  | dic kvs =>
    cases k with
    | fz f =>
      obtain ⟨k, ek, h⟩ := bind_eq_ok (show (f.key?.bind fun k => ofO (VL.valV kvs k)) = .ok e from by cases f <;> exact he)
      have ee := ofO_ok h
      obtain ⟨a, ws, G, rfl, ha, r, eF⟩ := rd
      subst eF
      have nda := List.nodup_cons.mp nd
      obtain ⟨ve, Fe, A, B, h1, h2, h3, h4⟩ := RDk.at r nda.2 ee
      have ekey := key_rf rk.1 ek
      refine ⟨ve, Fe, a :: A, B, by rw [h2]; rfl, h3, fun Q q => .inr ⟨a, ve, rfl, by rw [ekey, ← h1]; exact DGet.k ha, q⟩, fun e' d' h H' F' kp re => ?_⟩
      have h' : (f.key?.bind fun k => need (kvs.length < 16777216) (.ok (.dic (VL.putK kvs k e')))) = .ok d' := by cases f <;> exact h
      rw [ek] at h'
      obtain ⟨_, h'⟩ := need_ok h'
      cases h'
      have z := h4 e' ve H' F' _ kp (fun b hb => h3.mut b hb) (fun b _ hb => hb) re
      rw [map_self (uniq_k r h1)] at z
      refine ⟨a, ws, A ++ F' ++ B, rfl, keepA ha kp (fun hm => nda.1 (by rw [h2]; simp [hm])), ?_, rfl⟩
      unfold VL.putK
      rw [if_pos (val_any ee)]
      have e5 : (kvs.map fun kv => if kv.1 = k then (kv.1, e') else kv) = (kvs.map fun kv => if kv.1 = k then (kv.1, e') else kv) := rfl
      exact z
    | _ => cases he
  | dit kvs =>
    cases k with
    | fz f =>
      obtain ⟨k, ek, h⟩ := bind_eq_ok (show (f.tkey?.bind fun k => ofO (VL.valV kvs k)) = .ok e from by cases f <;> exact he)
      have ee := ofO_ok h
      obtain ⟨a, ws, G, rfl, ha, r, eF⟩ := rd
      subst eF
      have nda := List.nodup_cons.mp nd
      obtain ⟨ve, Fe, A, B, h1, h2, h3, h4⟩ := RDt.at r nda.2 ee
      obtain ⟨b, rfl, hb⟩ := tkey_rf rk.1 ek
      refine ⟨ve, Fe, a :: A, B, by rw [h2]; rfl, h3, fun Q q => .inr ⟨a, ve, rfl, by rw [← h1]; exact DGet.t ha hb, q⟩, fun e' d' h H' F' kp re => ?_⟩
      have h' : (f.tkey?.bind fun k => need (kvs.length < 16777216) (.ok (.dit (VL.putK kvs k e')))) = .ok d' := by cases f <;> exact h
      rw [ek] at h'
      obtain ⟨_, h'⟩ := need_ok h'
      cases h'
      have z := h4 e' ve H' F' _ kp (fun b hb => h3.mut b hb) (fun b _ hb => hb) re
      rw [map_self (uniq_t r h1)] at z
      refine ⟨a, ws, A ++ F' ++ B, rfl, keepA ha kp (fun hm => nda.1 (by rw [h2]; simp [hm])), ?_, rfl⟩
      unfold VL.putK
      rw [if_pos (val_any ee)]
      exact z
    | _ => cases he
/-! ### paths -/
/-- d stands at v, at the path ds of o, which stands at v0 -/
def PathAt (K : PySem.W.Frag) (H : Hp) (o : D) (v0 : V) (F0 : List Addr) (ds : List D) (d : D) (v : V) : Prop :=
  ∃ F A B, F0 = A ++ F ++ B ∧ RD K H d v F ∧ (∀ (f : D → Res D) (o' : D), atPath f ds o = .ok o' → ∃ d', f d = .ok d') ∧
    ∀ (f : D → Res D) (d' o' : D), f d = .ok d' → atPath f ds o = .ok o' → ∀ H' F', KeepX (· ∈ F) H H' → RD K H' d' v F' → RD K H' o' v0 (A ++ F' ++ B)
theorem PathAt.nil {o : D} {v0 : V} {F0 : List Addr} (r : RD K H o v0 F0) : PathAt K H o v0 F0 [] o v0 := ⟨F0, [], [], by simp, r, fun f o' h => ⟨o', h⟩, fun f d' o' h1 h2 H' F' _ r' => by
  have e : d' = o' := Res.ok.inj (h1.symm.trans h2)
  subst e
  simpa using r'⟩
theorem atPath_snoc {f : D → Res D} {k : D} : ∀ (ds : List D) (o : D), atPath f (ds ++ [k]) o = atPath (fun d => (oIx d k).bind fun e => (f e).bind fun e' => oPut d k e') ds o
  | [], _ => rfl
  | i :: r, o => by
    show ((oIx o i).bind fun e => (atPath f (r ++ [k]) e).bind fun e' => oPut o i e') = ((oIx o i).bind fun e => (atPath _ r e).bind fun e' => oPut o i e')
    congr 1
    funext e
    rw [atPath_snoc r e]
theorem PathAt.snoc {o : D} {v0 : V} {F0 : List Addr} {ds : List D} {d k e : D} {v vk : V} {Gk : List Addr} (p : PathAt K H o v0 F0 ds d v) (nd : F0.Nodup) (rk : RD K H k vk Gk) (he : oIx d k = .ok e) :
    ∃ ve, (∀ Q : VK, Q ve H → rIxA K v vk H Q) ∧ PathAt K H o v0 F0 (ds ++ [k]) e ve := by
  obtain ⟨F, A, B, eF, rd, ex, up⟩ := p
  have ndF : F.Nodup := by
    rw [eF] at nd
    exact (List.nodup_append.mp (List.nodup_append.mp nd).1).2.1
  obtain ⟨ve, Fe, A2, B2, e2, re, hQ, up2⟩ := part_at rd ndF rk he
  have inner : ∀ (f : D → Res D) (o' : D), atPath f (ds ++ [k]) o = .ok o' → ∃ e' d2, f e = .ok e' ∧ oPut d k e' = .ok d2 ∧ (fun d => (oIx d k).bind fun e => (f e).bind fun e' => oPut d k e') d = .ok d2 := fun f o' h => by
    rw [atPath_snoc] at h
    obtain ⟨d2, h2⟩ := ex _ o' h
    have h3 : ((oIx d k).bind fun e => (f e).bind fun e' => oPut d k e') = .ok d2 := h2
    have h4 := h3
    rw [he] at h4
    obtain ⟨e', h5, h6⟩ := bind_eq_ok (show ((f e).bind fun e' => oPut d k e') = .ok d2 from h4)
    exact ⟨e', d2, h5, h6, h3⟩
  refine ⟨ve, hQ, Fe, A ++ A2, B2 ++ B, by rw [eF, e2]; simp, re, fun f o' h => ?_, fun f e' o' h1 h2 H' F' kp r' => ?_⟩
  · obtain ⟨e', d2, h5, _⟩ := inner f o' h
    exact ⟨e', h5⟩
  · obtain ⟨e'', d2, h5, h6, h7⟩ := inner f o' h2
    have ee : e'' = e' := Res.ok.inj (h5.symm.trans h1)
    subst ee
    rw [atPath_snoc] at h2
    have z := up _ d2 o' h7 h2 H' (A2 ++ F' ++ B2) (fun b ob eb nb => kp b ob eb fun hm => nb (by rw [e2]; simp [hm])) (up2 e'' d2 h6 H' F' kp r')
    have e5 : A ++ (A2 ++ F' ++ B2) ++ B = A ++ A2 ++ F' ++ (B2 ++ B) := by simp
    rw [← e5]
    exact z
theorem KeepX.none {H H' : Hp} {Z : Addr → Prop} (k : KeepX Z H H') {o : HO} {a : Addr} (e : H a = some o) (n : ¬ Z a) : H' a = some o := k a o e n
theorem PathAt.same {H' : Hp} {o : D} {v0 : V} {F0 : List Addr} {ds : List D} {d : D} {v : V} (p : PathAt K H o v0 F0 ds d v) (s : Same H H') : PathAt K H' o v0 F0 ds d v := by
  obtain ⟨F, A, B, eF, rd, ex, up⟩ := p
  exact ⟨F, A, B, eF, rd.same s, ex, fun f d' o' h1 h2 H2 F' kp r => up f d' o' h1 h2 H2 F' (fun b ob e n => kp b ob (s b ob e) n) r⟩
/-! ### stores by values -/
theorem RDk.put {kvs : List (VL.Key × D)} {ws : List (VL.Key × V)} {G : List Addr} {k : VL.Key} {x : D} {vx : V} {Gx : List Addr} {H' : Hp} {Z : Addr → Prop} (r : RDk K H kvs ws G) (nd : G.Nodup) (kp : KeepX Z H H') (mz : ∀ b, Z b → MutAt H b) (gz : ∀ b ∈ G, ¬ Z b) (rx : RD K H' x vx Gx) (ndx : Gx.Nodup) (ap : ∀ b ∈ Gx, b ∉ G) :
    ∃ G', RDk K H' (VL.putK kvs k x) (L2.putK ws k vx) G' ∧ G'.Nodup ∧ ∀ b ∈ G', b ∈ G ∨ b ∈ Gx := by
  unfold VL.putK L2.putK
  have ea := any_k (keys_k r) k
  cases e : VL.valV kvs k with
  | some d =>
    have h1 := val_any e
    obtain ⟨ve, Fe, A, B, h2, h3, h4, h5⟩ := RDk.at r nd e
    rw [if_pos h1, if_pos (by rw [ea]; exact h1)]
    refine ⟨A ++ Gx ++ B, h5 x vx H' Gx Z kp mz (fun b hb hz => absurd hz (gz b hb)) rx, ?_, fun b hb => ?_⟩
    · rw [h3] at nd
      obtain ⟨n1, n2, n3⟩ := List.nodup_append.mp nd
      obtain ⟨n4, n5, n6⟩ := List.nodup_append.mp n1
      refine List.nodup_append.mpr ⟨List.nodup_append.mpr ⟨n4, ndx, fun a ha b hb e => ap b hb (by rw [h3, ← e]; simp [ha])⟩, n2, fun a ha b hb e => ?_⟩
      rcases List.mem_append.mp ha with ha | ha
      · exact n3 a (List.mem_append_left _ ha) b hb e
      · exact ap a ha (by rw [h3, e]; simp [hb])
    · simp only [List.mem_append] at hb
      rcases hb with (hb | hb) | hb
      · exact .inl (by rw [h3]; simp [hb])
      · exact .inr hb
      · exact .inl (by rw [h3]; simp [hb])
  | none =>
    have h1 : (kvs.any fun kv => decide (kv.1 = k)) = false := by
      cases z : (kvs.any fun kv => decide (kv.1 = k)) with
      | false => rfl
      | true =>
        obtain ⟨p, hp, ep⟩ := List.any_eq_true.mp z
        have e' := e
        unfold VL.valV at e'
        have := Option.map_eq_none_iff.mp e'
        exact absurd ep (List.find?_eq_none.mp this p hp)
    rw [if_neg (by rw [h1]; decide), if_neg (by rw [ea, h1]; decide)]
    have app : ∀ {kvs : List (VL.Key × D)} {ws : List (VL.Key × V)} {G : List Addr}, RDk K H' kvs ws G → k ∉ kvs.map (·.1) → RDk K H' (kvs ++ [(k, x)]) (ws ++ [(k, vx)]) (G ++ Gx) := by
      intro kvs
      induction kvs with
      | nil => rintro ws G ⟨rfl, rfl⟩ _; exact ⟨vx, [], Gx, [], rfl, rx, ⟨rfl, rfl⟩, by simp, by simp⟩
      | cons p t ih =>
        obtain ⟨j, d⟩ := p
        rintro ws G ⟨v, q, F1, F2, rfl, h, hr, rfl, nk⟩ hn
        exact ⟨v, q ++ [(k, vx)], F1, F2 ++ Gx, rfl, h, ih hr (fun m => hn (List.mem_cons_of_mem _ m)), by simp, fun m => by
          have m' : j ∈ (t ++ [(k, x)]).map (·.1) := m
          rw [List.map_append] at m'
          rcases List.mem_append.mp m' with m | m
          · exact nk m
          · simp at m
            exact hn (by rw [m]; exact List.mem_cons_self)⟩
    have rk' : RDk K H' kvs ws G := r.keep kp mz gz
    refine ⟨G ++ Gx, app rk' (fun m => ?_), List.nodup_append.mpr ⟨nd, ndx, fun a ha b hb e => ap b hb (e ▸ ha)⟩, fun b hb => List.mem_append.mp hb⟩
    obtain ⟨p, hp, ep⟩ := List.mem_map.mp m
    have := List.any_eq_false.mp h1 p hp
    simp [ep] at this
theorem RDt.put {kvs : List (List VL.Key × D)} {ws : List (List VL.Key × V)} {G : List Addr} {k : List VL.Key} {x : D} {vx : V} {Gx : List Addr} {H' : Hp} {Z : Addr → Prop} (r : RDt K H kvs ws G) (nd : G.Nodup) (kp : KeepX Z H H') (mz : ∀ b, Z b → MutAt H b) (gz : ∀ b ∈ G, ¬ Z b) (rx : RD K H' x vx Gx) (ndx : Gx.Nodup) (ap : ∀ b ∈ Gx, b ∉ G) :
    ∃ G', RDt K H' (VL.putK kvs k x) (L2.putK ws k vx) G' ∧ G'.Nodup ∧ ∀ b ∈ G', b ∈ G ∨ b ∈ Gx := by
  unfold VL.putK L2.putK
  have ea := any_k (keys_t r) k
  cases e : VL.valV kvs k with
  | some d =>
    have h1 := val_any e
    obtain ⟨ve, Fe, A, B, h2, h3, h4, h5⟩ := RDt.at r nd e
    rw [if_pos h1, if_pos (by rw [ea]; exact h1)]
    refine ⟨A ++ Gx ++ B, h5 x vx H' Gx Z kp mz (fun b hb hz => absurd hz (gz b hb)) rx, ?_, fun b hb => ?_⟩
    · rw [h3] at nd
      obtain ⟨n1, n2, n3⟩ := List.nodup_append.mp nd
      obtain ⟨n4, n5, n6⟩ := List.nodup_append.mp n1
      refine List.nodup_append.mpr ⟨List.nodup_append.mpr ⟨n4, ndx, fun a ha b hb e => ap b hb (by rw [h3, ← e]; simp [ha])⟩, n2, fun a ha b hb e => ?_⟩
      rcases List.mem_append.mp ha with ha | ha
      · exact n3 a (List.mem_append_left _ ha) b hb e
      · exact ap a ha (by rw [h3, e]; simp [hb])
    · simp only [List.mem_append] at hb
      rcases hb with (hb | hb) | hb
      · exact .inl (by rw [h3]; simp [hb])
      · exact .inr hb
      · exact .inl (by rw [h3]; simp [hb])
  | none =>
    have h1 : (kvs.any fun kv => decide (kv.1 = k)) = false := by
      cases z : (kvs.any fun kv => decide (kv.1 = k)) with
      | false => rfl
      | true =>
        obtain ⟨p, hp, ep⟩ := List.any_eq_true.mp z
        have e' := e
        unfold VL.valV at e'
        have := Option.map_eq_none_iff.mp e'
        exact absurd ep (List.find?_eq_none.mp this p hp)
    rw [if_neg (by rw [h1]; decide), if_neg (by rw [ea, h1]; decide)]
    have app : ∀ {kvs : List (List VL.Key × D)} {ws : List (List VL.Key × V)} {G : List Addr}, RDt K H' kvs ws G → k ∉ kvs.map (·.1) → RDt K H' (kvs ++ [(k, x)]) (ws ++ [(k, vx)]) (G ++ Gx) := by
      intro kvs
      induction kvs with
      | nil => rintro ws G ⟨rfl, rfl⟩ _; exact ⟨vx, [], Gx, [], rfl, rx, ⟨rfl, rfl⟩, by simp, by simp⟩
      | cons p t ih =>
        obtain ⟨j, d⟩ := p
        rintro ws G ⟨v, q, F1, F2, rfl, h, hr, rfl, nk⟩ hn
        exact ⟨v, q ++ [(k, vx)], F1, F2 ++ Gx, rfl, h, ih hr (fun m => hn (List.mem_cons_of_mem _ m)), by simp, fun m => by
          have m' : j ∈ (t ++ [(k, x)]).map (·.1) := m
          rw [List.map_append] at m'
          rcases List.mem_append.mp m' with m | m
          · exact nk m
          · simp at m
            exact hn (by rw [m]; exact List.mem_cons_self)⟩
    have rk' : RDt K H' kvs ws G := r.keep kp mz gz
    refine ⟨G ++ Gx, app rk' (fun m => ?_), List.nodup_append.mpr ⟨nd, ndx, fun a ha b hb e => ap b hb (e ▸ ha)⟩, fun b hb => List.mem_append.mp hb⟩
    obtain ⟨p, hp, ep⟩ := List.mem_map.mp m
    have := List.any_eq_false.mp h1 p hp
    simp [ep] at this
theorem set_nodup {α : Type} {x : α} {A Fe B Gx G : List α} (h3 : G = A ++ Fe ++ B) (nd : G.Nodup) (ndx : Gx.Nodup) (ap : ∀ b ∈ Gx, b ∉ G) : (A ++ Gx ++ B).Nodup ∧ ∀ b ∈ A ++ Gx ++ B, b ∈ G ∨ b ∈ Gx := by
  refine ⟨?_, fun b hb => ?_⟩
  · rw [h3] at nd
    obtain ⟨n1, n2, n3⟩ := List.nodup_append.mp nd
    obtain ⟨n4, n5, n6⟩ := List.nodup_append.mp n1
    refine List.nodup_append.mpr ⟨List.nodup_append.mpr ⟨n4, ndx, fun a ha b hb e => ap b hb (by rw [h3, ← e]; simp [ha])⟩, n2, fun a ha b hb e => ?_⟩
    rcases List.mem_append.mp ha with ha | ha
    · exact n3 a (List.mem_append_left _ ha) b hb e
    · exact ap a ha (by rw [h3, e]; simp [hb])
  · simp only [List.mem_append] at hb
    rcases hb with (hb | hb) | hb
    · exact .inl (by rw [h3]; simp [hb])
    · exact .inr hb
    · exact .inl (by rw [h3]; simp [hb])
section
variable {X : Cx}
def rSetK : V → V → V → Hp → (Hp → Prop) → Prop := fun o i v H Q => ∃ a H', o = .ref a ∧ DPut H a i v H' ∧ Q H'
theorem set_dict (hu : X.A.units + 1 < cLine) : PSet X rSetK := by
  intro pins s σ H o i v ov iv u Q I ro ri rv h
  obtain ⟨a, H', rfl, g, q⟩ := h
  obtain rfl : ov = Value.ref a := ro
  exact d_setItem hu I g ri rv fun s4 I4 => ⟨H', I4, q⟩
def rSetA : V → V → V → Hp → (Hp → Prop) → Prop := fun o i v H Q => rSetL o i v H Q ∨ rSetK o i v H Q
theorem o_set (hu : X.A.units + 1 < cLine) : PSet X rSetA := by
  intro pins s σ H o i v ov iv u Q I ro ri rv h
  rcases h with h | h
  · exact set_list pins s σ H o i v ov iv u Q I ro ri rv h
  · exact set_dict hu pins s σ H o i v ov iv u Q I ro ri rv h
end
/-- a store into what stands at v -/
theorem put_at {d k x d' : D} {v vk vx : V} {F Gk Gx : List Addr} {Q : Hp → Prop} (rd : RD K H d v F) (nd : F.Nodup) (rk : RD K H k vk Gk) (rx : RD K H x vx Gx) (ndx : Gx.Nodup) (ap : ∀ b ∈ Gx, b ∉ F) (hp : oPut d k x = .ok d')
    (q : ∀ H' F', KeepX (· ∈ F) H H' → RD K H' d' v F' → F'.Nodup → (∀ b ∈ F', b ∈ F ∨ b ∈ Gx) → Q H') : rSetA v vk vx H Q := by
  cases d with
  | fz g => cases g <;> cases k <;> cases hp
  | mtup ds => cases k <;> cases hp
  | lst ds =>
    cases k with
    | fz g =>
      cases g with
      | int i =>
        have e2 : vk = .int i := rk.1
        obtain ⟨a, vs, G, rfl, ha, r, eF⟩ := rd
        subst eF
        have nda := List.nodup_cons.mp nd
        obtain ⟨j, ej, h⟩ := bind_eq_ok (show ((ofO (VL.ixN ds.length i)).bind fun j => Res.ok (D.lst (ds.set j x))) = .ok d' from hp)
        cases h
        have ej' := ofO_ok ej
        have hj : j < ds.length := by
          unfold VL.ixN at ej'
          by_cases c : 0 ≤ i
          · rw [if_pos c] at ej'
            by_cases c2 : i < ds.length
            · rw [if_pos c2] at ej'; cases ej'; omega
            · rw [if_neg c2] at ej'; cases ej'
          · rw [if_neg c] at ej'
            by_cases c2 : -(ds.length : Int) ≤ i
            · rw [if_pos c2] at ej'; cases ej'; omega
            · rw [if_neg c2] at ej'; cases ej'
        obtain ⟨ve, Fe, A, B, h1, h2, h3, h4⟩ := RDs.at (e := ds[j]) r nda.2 (List.getElem?_eq_getElem hj)
        have aGx : ∀ b ∈ Gx, b ≠ a := fun b hb e => ap b hb (by rw [e]; exact List.mem_cons_self)
        have kA : KeepX (fun b => b = a) H (upd H a (.lst (vs.set j vx))) := fun b ob eb nb => by rw [upd_ne nb]; exact eb
        have mA : ∀ b, (fun b => b = a) b → MutAt H b := fun b e => by subst e; exact ⟨_, ha, trivial⟩
        obtain ⟨nn, sub⟩ := set_nodup (x := a) h2 nda.2 ndx fun b hb hm => ap b hb (List.mem_cons_of_mem _ hm)
        refine .inl ⟨a, vs, i, j, rfl, e2, ha, by rw [r.length]; exact ej', q _ (a :: (A ++ Gx ++ B)) (fun b ob eb nb => kA b ob eb fun e => nb (by rw [e]; exact List.mem_cons_self)) ⟨a, _, A ++ Gx ++ B, rfl, upd_same, h4 x vx _ Gx _ kA mA (fun b hb e => absurd hb (e ▸ nda.1)) (rx.keep kA mA aGx), rfl⟩ (List.nodup_cons.mpr ⟨fun hm => ?_, nn⟩) fun b hb => ?_⟩
        · rcases sub a hm with z | z
          · exact nda.1 z
          · exact aGx a z rfl
        · rcases List.mem_cons.mp hb with rfl | hb
          · exact .inl List.mem_cons_self
          · exact (sub b hb).imp (List.mem_cons_of_mem _) id
      | _ => cases hp
    | _ => cases hp
  | dic kvs =>
    cases k with
    | fz f =>
      obtain ⟨k, ek, h⟩ := bind_eq_ok (show (f.key?.bind fun k => need (kvs.length < 16777216) (.ok (.dic (VL.putK kvs k x)))) = .ok d' from by cases f <;> exact hp)
      obtain ⟨hl, h⟩ := need_ok h
      cases h
      obtain ⟨a, ws, G, rfl, ha, r, eF⟩ := rd
      subst eF
      have nda := List.nodup_cons.mp nd
      have ekey := key_rf rk.1 ek
      have aGx : ∀ b ∈ Gx, b ≠ a := fun b hb e => ap b hb (by rw [e]; exact List.mem_cons_self)
      have kA : ∀ o, KeepX (fun b => b = a) H (upd H a o) := fun o b ob eb nb => by rw [upd_ne nb]; exact eb
      have mA : ∀ b, (fun b => b = a) b → MutAt H b := fun b e => by subst e; exact ⟨_, ha, trivial⟩
      obtain ⟨G', rg, nG, sub⟩ := RDk.put (k := k) (Z := fun b => b = a) r nda.2 (kA (.dK (L2.putK ws k vx))) mA (fun b hb e => nda.1 (e ▸ hb)) (rx.keep (kA _) mA aGx) ndx fun b hb hm => ap b hb (List.mem_cons_of_mem _ hm)
      refine .inr ⟨a, _, rfl, by rw [ekey]; exact DPut.k ha (by rw [RDk.length r, sizeLine_eq]; exact hl), q _ (a :: G') (fun b ob eb nb => kA _ b ob eb fun e => nb (by rw [e]; exact List.mem_cons_self)) ⟨a, _, G', rfl, upd_same, rg, rfl⟩ (List.nodup_cons.mpr ⟨fun hm => ?_, nG⟩) fun b hb => ?_⟩
      · rcases sub a hm with z | z
        · exact nda.1 z
        · exact aGx a z rfl
      · rcases List.mem_cons.mp hb with rfl | hb
        · exact .inl List.mem_cons_self
        · exact (sub b hb).imp (List.mem_cons_of_mem _) id
    | _ => cases hp
  | dit kvs =>
    cases k with
    | fz f =>
      obtain ⟨k, ek, h⟩ := bind_eq_ok (show (f.tkey?.bind fun k => need (kvs.length < 16777216) (.ok (.dit (VL.putK kvs k x)))) = .ok d' from by cases f <;> exact hp)
      obtain ⟨hl, h⟩ := need_ok h
      cases h
      obtain ⟨a, ws, G, rfl, ha, r, eF⟩ := rd
      subst eF
      have nda := List.nodup_cons.mp nd
      obtain ⟨b, rfl, hb⟩ := tkey_rf rk.1 ek
      have aGx : ∀ b ∈ Gx, b ≠ a := fun b hb e => ap b hb (by rw [e]; exact List.mem_cons_self)
      have kA : ∀ o, KeepX (fun b => b = a) H (upd H a o) := fun o b ob eb nb => by rw [upd_ne nb]; exact eb
      have mA : ∀ b, (fun b => b = a) b → MutAt H b := fun b e => by subst e; exact ⟨_, ha, trivial⟩
      obtain ⟨G', rg, nG, sub⟩ := RDt.put (k := k) (Z := fun b => b = a) r nda.2 (kA (.dT (L2.putK ws k vx))) mA (fun b hb e => nda.1 (e ▸ hb)) (rx.keep (kA _) mA aGx) ndx fun b hb hm => ap b hb (List.mem_cons_of_mem _ hm)
      have lt : ws.length = kvs.length := by
        have := congrArg List.length (keys_t r)
        simpa using this
      refine .inr ⟨a, _, rfl, DPut.t ha hb (by rw [lt, sizeLine_eq]; exact hl), q _ (a :: G') (fun b ob eb nb => kA _ b ob eb fun e => nb (by rw [e]; exact List.mem_cons_self)) ⟨a, _, G', rfl, upd_same, rg, rfl⟩ (List.nodup_cons.mpr ⟨fun hm => ?_, nG⟩) fun b hb => ?_⟩
      · rcases sub a hm with z | z
        · exact nda.1 z
        · exact aGx a z rfl
      · rcases List.mem_cons.mp hb with rfl | hb
        · exact .inl List.mem_cons_self
        · exact (sub b hb).imp (List.mem_cons_of_mem _) id
    | _ => cases hp
theorem ofO_ne {α : Type} (o : Option α) : ∀ m fs, ofO o ≠ .err m fs := by
  intro m fs z
  cases o <;> cases z
theorem need_ne {α : Type} {c : Prop} [Decidable c] {x : Res α} (h : ∀ m fs, x ≠ .err m fs) : ∀ m fs, need c x ≠ .err m fs := by
  by_cases e : c
  · unfold need; rw [if_pos e]; exact h
  · unfold need; rw [if_neg e]; intro m fs z; cases z
theorem ok_ne {α : Type} (a : α) : ∀ m fs, (Res.ok a) ≠ .err m fs := by intro m fs z; cases z
theorem bad_ne {α : Type} : ∀ m fs, (Res.bad : Res α) ≠ .err m fs := by intro m fs z; cases z
theorem oIx_ne (d k : D) : ∀ m fs, oIx d k ≠ .err m fs := by
  unfold oIx
  split
  · exact ofO_ne _
  · exact ofO_ne _
  · exact ne_bind (ofO_ne _) fun f => ok_ne _
  · exact ne_bind (ofO_ne _) fun f => ok_ne _
  · exact need_ne (ne_bind (ofO_ne _) fun f => ok_ne _)
  · exact ne_bind (key_ne _) fun k => ofO_ne _
  · exact ne_bind (tkey_ne _) fun k => ofO_ne _
  · exact bad_ne
theorem oPut_ne (d k x : D) : ∀ m fs, oPut d k x ≠ .err m fs := by
  unfold oPut
  split
  · exact ne_bind (ofO_ne _) fun f => ok_ne _
  · exact ne_bind (key_ne _) fun k => need_ne (ok_ne _)
  · exact ne_bind (tkey_ne _) fun k => need_ne (ok_ne _)
  · exact bad_ne
end
end VL
set_option Elab.async false
set_option linter.all false
set_option maxRecDepth 100000
set_option maxHeartbeats 4000000
/-! VLQ: stores at paths, as statements; get. -/
namespace VL
open PySem L2
section
variable {X : Cx}
theorem get_list : PGet X (rIxL X.K) := by
  intro pins s σ H x y v u Q I rx ry h
  obtain ⟨p, xs, i, z, rfl, rfl, hq, he, q⟩ := h
  cases rx
  obtain ⟨t, rfl⟩ := ry
  obtain ⟨its, r, pl, hz⟩ := I.list hq
  obtain ⟨j, h1, h2, h3, h4, h5⟩ := L2.atI_get he
  obtain ⟨w, ew, rw'⟩ := r.get h2
  have hl := r.length
  have hn := line63
  have fin : EP X pins σ Q w s := ⟨z, H, I, rw', q⟩
  by_cases h0 : 0 ≤ i
  · have hj : i.toNat = j := by
      rw [seqIndex_of h0 h5] at h1
      exact Option.some.inj h1
    exact wpAny_getItem_list pl.isList h0 (by omega) (by rw [hj]; simpa using ew) fin
  · have hj : (i + (its.toArray.size : Int)).toNat = j := by
      rw [seqIndex_neg (by omega) h4] at h1
      rw [List.size_toArray, ← hl]
      exact Option.some.inj h1
    exact wpAny_getItem_list_neg pl.isList (by omega) (by rw [List.size_toArray] <;> omega) (by omega) (by rw [hj]; simpa using ew) fin
def rGetA (K : PySem.W.Frag) : R2 := fun x y H Q => rIxL K x y H Q ∨ rIxK x y H Q
theorem o_get (hu : X.A.units + 1 < cLine) : PGet X (rGetA X.K) := by
  intro pins s σ H x y v u Q I rx ry h
  rcases h with h | h
  · exact get_list pins s σ H x y v u Q I rx ry h
  · obtain ⟨a, z, rfl, g, q⟩ := h
    obtain rfl : v = Value.ref a := rx
    exact d_getItem hu I g ry fun w' s3 I3 rw' => ⟨z, H, I3, rw', q⟩
end
/-! ### the path of a store -/
theorem eAll_snoc {m : E} {env : Env} {k : D} : ∀ {ms : List E} {ds : List D}, eAll (ms ++ [m]) env = .ok ds → ∃ ds' k, ds = ds' ++ [k] ∧ eAll ms env = .ok ds' ∧ m env = .ok k
  | [], ds, h => by
    obtain ⟨d, h1, h⟩ := bind_eq_ok h
    obtain ⟨ds', h2, h⟩ := bind_eq_ok h
    cases h2
    cases h
    exact ⟨[], d, rfl, rfl, h1⟩
  | a :: r, ds, h => by
    obtain ⟨d, h1, h⟩ := bind_eq_ok h
    obtain ⟨ds', h2, h⟩ := bind_eq_ok h
    cases h
    obtain ⟨q, k', rfl, h3, h4⟩ := eAll_snoc (k := k) h2
    refine ⟨d :: q, k', rfl, ?_, h4⟩
    show (a env).bind _ = _
    rw [h1]
    show (eAll r env).bind _ = _
    rw [h3]
def rPth (K : PySem.W.Frag) (R : RL) (i : Nat) (ms : List E) : TE := fun σ H Q => ∃ env Fs o, RS K R H σ env Fs ∧ env[i]? = some (some o) ∧ ∃ ds, eAll ms env = .ok ds ∧ (∃ f o', atPath f ds o = .ok o') ∧
  ∀ d v v0 H1, Same H H1 → σ[i]? = some (some v0) → PathAt K H1 o v0 (Fs i) ds d v → Q v H1
abbrev PPT (X : Cx) (R : RL) (i : Nat) (e : Expr) (ms : List E) : Prop := PE X e (rPth X.K R i ms)
section
variable {X : Cx} {W : WX} {R : RL} {P : List Nat} {a b e o idx : Expr} {ms : List E} {m mk mb my : E} {mx : MX} {i : Nat} {pos pos' tpos apos cpos : Pos}
theorem pp_var {x : Str} (h : PE X (.Name x pos) (tVar i)) : PPT X R i (.Name x pos) [] := h.imp fun σ H Q ⟨env, Fs, o, rs, eo, ds, e1, _, q⟩ => by
  obtain ⟨v0, ev, rd⟩ := rs.rdl.2 i o eo
  cases e1
  exact ⟨v0, ev, q o v0 v0 H (Same.refl H) ev (.nil rd)⟩
theorem pp_ix (hu : X.A.units + 1 < cLine) (hi : i ∉ R) (ha : PPT X R i a ms) (hb : PB X W0 b mb) (hs : PlainIx b) : PPT X R i (.Subscript a b pos) (ms ++ [mb]) := (pe_ix (o_ix hu) ha hb hs).imp fun σ H Q ⟨env, Fs, o, rs, eo, ds, e1, ⟨f, o', hf⟩, q⟩ => by
  obtain ⟨ds', k, rfl, e2, e3⟩ := eAll_snoc (k := .fz .non) e1
  have hf' := hf
  rw [atPath_snoc] at hf'
  refine ⟨env, Fs, o, rs, eo, ds', e2, ⟨_, o', hf'⟩, fun d v v0 H1 s1 ev pa => ⟨env, Fs, (rs.same s1).rdl, ?_⟩⟩
  rw [e3]
  intro vk Gk H2 s2 rk _
  have pa2 := pa
  obtain ⟨_, _, _, _, _, ex, _⟩ := pa2
  obtain ⟨d2, h2⟩ := ex _ o' hf'
  obtain ⟨e, he, _⟩ := bind_eq_ok h2
  obtain ⟨ve, hQ, pa'⟩ := PathAt.snoc (pa.same s2) (rs.own i hi).1 rk he
  exact hQ Q (q e ve v0 H2 (s1.trans s2) ev pa')
/-- what a path's store leaves -/
theorem path_end {K : PySem.W.Frag} {σ : St} {H H' : Hp} {env : Env} {Fs : Nat → List Addr} {o d d' o' : D} {v0 v : V} {ds : List D} {f : D → Res D} {F' Gx : List Addr} (rs : RS K R H σ env Fs) (hi : i ∉ R) (eo : env[i]? = some (some o)) (ev : σ[i]? = some (some v0))
    (hf : f d = .ok d') (ha : atPath f ds o = .ok o') {F A B : List Addr} (eF : Fs i = A ++ F ++ B) (rd : RD K H d v F) (up : ∀ (f : D → Res D) (d' o' : D), f d = .ok d' → atPath f ds o = .ok o' → ∀ H' F', KeepX (· ∈ F) H H' → RD K H' d' v F' → RD K H' o' v0 (A ++ F' ++ B))
    (kp : KeepX (· ∈ F) H H') (r' : RD K H' d' v F') (nd : F'.Nodup) (sub : ∀ b ∈ F', b ∈ F ∨ b ∈ Gx) (ag : ∀ b ∈ Gx, ∀ j, b ∉ Fs j) (og : ∀ b ∈ Gx, H b ≠ none ∨ True) :
    ∃ Fs', RS K R H' σ (setS env i o') Fs' ∧ (∀ b, inO R Fs' b → inO R Fs b ∨ b ∈ Gx) ∧ KeepX (inO R Fs) H H' ∧ (∀ j ∈ R, Fs' j = Fs j ∧ (setS env i o')[j]? = env[j]?) := by
  have ro := up f d' o' hf ha H' F' kp r'
  have ndi := (rs.own i hi).1
  have li : i < env.length := by
    by_cases l : i < env.length
    · exact l
    · rw [List.getElem?_eq_none_iff.mpr (by omega)] at eo; cases eo
  have kO : KeepX (inO R Fs) H H' := fun b ob eb nb => kp b ob eb fun hb => nb ⟨i, hi, by rw [eF]; simp [hb]⟩
  have sub2 : ∀ b ∈ A ++ F' ++ B, b ∈ Fs i ∨ b ∈ Gx := fun b hb => by
    simp only [List.mem_append] at hb
    rcases hb with (hb | hb) | hb
    · exact .inl (by rw [eF]; simp [hb])
    · exact (sub b hb).imp (fun z => by rw [eF]; simp [z]) id
    · exact .inl (by rw [eF]; simp [hb])
  have ndn : (A ++ F' ++ B).Nodup := by
    rw [eF] at ndi
    obtain ⟨n1, n2, n3⟩ := List.nodup_append.mp ndi
    obtain ⟨n4, n5, n6⟩ := List.nodup_append.mp n1
    have ap : ∀ x ∈ F', x ∉ A ∧ x ∉ B := fun x hx => by
      rcases sub x hx with z | z
      · exact ⟨fun h => n6 x h x z rfl, fun h => n3 x (List.mem_append_right _ z) x h rfl⟩
      · have g := ag x z i
        rw [eF] at g
        exact ⟨fun h => g (by simp [h]), fun h => g (by simp [h])⟩
    refine List.nodup_append.mpr ⟨List.nodup_append.mpr ⟨n4, nd, fun a ha b hb e => (ap b hb).1 (e ▸ ha)⟩, n2, fun a ha b hb e => ?_⟩
    rcases List.mem_append.mp ha with ha | ha
    · exact n3 a (List.mem_append_left _ ha) b hb e
    · exact (ap a ha).2 (e ▸ hb)
  refine ⟨fset Fs i (A ++ F' ++ B), ⟨⟨by show (env.set i (some o')).length = _; rw [List.length_set, rs.rdl.1], fun j dj e => ?_⟩, fun j hj => ?_, fun j hj => ?_⟩, fun b ⟨j, hj, hb⟩ => ?_, kO, fun j hj => ?_⟩
  · have e' : (env.set i (some o'))[j]? = some (some dj) := e
    by_cases c : i = j
    · subst c
      rw [List.getElem?_set_self li] at e'
      cases e'
      exact ⟨v0, ev, by unfold fset; rw [if_pos rfl]; exact ro⟩
    · rw [List.getElem?_set_ne c] at e'
      obtain ⟨vj, h1, h2⟩ := rs.rdl.2 j dj e'
      refine ⟨vj, h1, ?_⟩
      unfold fset
      rw [if_neg (Ne.symm c)]
      exact h2.keep kp (fun b hb => rd.mut b hb) fun b hb hF => (rs.own i hi).2 b (by rw [eF]; simp [hF]) j (Ne.symm c) hb
  · unfold fset
    by_cases c : j = i
    · subst c
      exact absurd (show (env.set j (some o'))[j]? = some (some o') from List.getElem?_set_self li) (hj o')
    · rw [if_neg c]
      exact rs.non j fun dj e' => hj dj (by show (env.set i (some o'))[j]? = _; rw [List.getElem?_set_ne (Ne.symm c)]; exact e')
  · unfold fset
    by_cases c : j = i
    · rw [if_pos c]
      refine ⟨ndn, fun b hb k hk => ?_⟩
      rw [if_neg (by rw [← c]; exact hk)]
      rcases sub2 b hb with z | z
      · exact (rs.own i hi).2 b z k (by rw [← c]; exact hk)
      · exact ag b z k
    · rw [if_neg c]
      refine ⟨(rs.own j hj).1, fun b hb k hk => ?_⟩
      by_cases c' : k = i
      · rw [if_pos c']
        intro hb'
        rcases sub2 b hb' with z | z
        · exact (rs.own j hj).2 b hb i (fun e => c e.symm) z
        · exact ag b z j hb
      · rw [if_neg c']
        exact (rs.own j hj).2 b hb k hk
  · unfold fset at hb
    by_cases c : j = i
    · rw [if_pos c] at hb
      exact (sub2 b hb).imp (fun z => ⟨i, hi, z⟩) id
    · rw [if_neg c] at hb
      exact .inl ⟨j, hj, hb⟩
  · have c : j ≠ i := fun e => hi (e ▸ hj)
    unfold fset
    rw [if_neg c]
    exact ⟨rfl, by show (env.set i (some o'))[j]? = _; rw [List.getElem?_set_ne (Ne.symm c)]⟩
/-- what chg tells -/
theorem chg_ok {env : Env} {ds : List D} {f : D → Res D} {ok : Fl × Env → Prop} {er : Str → List (Str × FD) → Prop} (o : Outc (chg i ds f env) ok er) (nf : ∀ d m gs, f d ≠ .err m gs) : ∃ d o', env[i]? = some (some d) ∧ atPath f ds d = .ok o' ∧ ok (.nx, setS env i o') := by
  obtain ⟨d, e, o⟩ := outc_var o.bnd
  have ne : ∀ (ds : List D) (d : D) m gs, atPath f ds d ≠ .err m gs := by
    intro ds
    induction ds with
    | nil => intro d m gs; exact nf d m gs
    | cons k r ih =>
      intro d
      refine ne_bind (oIx_ne d k) fun e => ne_bind (ih e) fun e' => oPut_ne d k e'
  obtain ⟨o', h1, h2⟩ := Outc.okOf o.bnd (ne ds d)
  exact ⟨d, o', e, h1, h2⟩
/-- behind noErr there is a value -/
theorem Outc.noE {α : Type} {r : Res α} {ok : α → Prop} {er : Str → List (Str × FD) → Prop} (h : Outc (VL.noErr r) ok er) : ∃ a, r = .ok a ∧ ok a := by
  cases r with
  | ok a => exact ⟨a, rfl, h⟩
  | err n fs => exact h.elim
  | bad => exact h.elim
theorem Stp.ext {K : PySem.W.Frag} {σ σ1 : St} {H H1 H4 : Hp} {env env1 env4 : Env} {Fs Fs1 Fs4 : Nat → List Addr} {G : List Addr} (s1 : Stp R P σ env Fs H σ1 env1 Fs1 H1) (k4 : KeepX (inO R Fs1) H1 H4) (sub4 : ∀ b, inO R Fs4 b → inO R Fs1 b ∨ b ∈ G) (og : ∀ b ∈ G, inO R Fs b ∨ H b = none)
    (ro4 : ∀ j ∈ R, Fs4 j = Fs1 j ∧ env4[j]? = env1[j]?) : Stp R P σ env Fs H σ1 env4 Fs4 H4 where
  keep := fun b o e n => k4 b o (s1.keep b o e n) fun h => (s1.sub b h).elim n fun z => by rw [e] at z; cases z
  sub := fun b h => (sub4 b h).elim (fun z => s1.sub b z) (og b)
  pin := s1.pin
  ro := fun j hj => ⟨(ro4 j hj).1.trans (s1.ro j hj).1, (ro4 j hj).2.trans (s1.ro j hj).2⟩
/-- o[..][k] = x -/
theorem sv_put (hu : X.A.units + 1 < cLine) (hi : i ∉ R) (hx : PX X W R e mx) (ho : PPT X R i o ms) (hk : PB X W0 idx mk)
    (hs : swapsWithSole [.Subscript o idx tpos] e pos.line X.env = pure false := by rfl) (hw : swappedStores [.Subscript o idx tpos] e X.env = pure none := by rfl) (h1 : (assignEach [.Subscript o idx tpos] X.env).map (·.2) = [assign (.Subscript o idx tpos) X.env] := by rfl)
    (ha : ∀ v, assign (.Subscript o idx tpos) X.env v = (do
      let ov ← holding [v] (eval o X.env)
      let iv ← holding [v, ov] (eval idx X.env)
      standAt tpos
      holding [v, ov, iv] (setItem ov iv v)
      release [v, ov, iv] []) := by intro _; rfl) : PSV X W R P (.Assign [.Subscript o idx tpos] e pos) (sPut i ms mk mx) := (ps_asg hx (pg_sub ho hk (o_set hu) ha) hs hw h1).imp fun D σ H ⟨env, Fs, rs, o⟩ =>
  ⟨env, Fs, rs, o.bnd.mono (fun p _ k v G H1 Fs1 rs1 s1 rd ow => by
    obtain ⟨ds, e1, k1⟩ := Outc.noE k.bnd
    obtain ⟨kd, e2, k2⟩ := Outc.noE k1.bnd
    obtain ⟨d0, o', e3, e4, fin⟩ := chg_ok k2 fun d => oPut_ne d kd p.1
    refine ⟨p.2, Fs1, d0, rs1, e3, ds, e1, ⟨_, o', e4⟩, fun d u v0 H2 s2 ev pa => ⟨p.2, Fs1, (rs1.same s2).rdl, ?_⟩⟩
    rw [e2]
    intro vk Gk H3 s3 rk _
    have s23 := s2.trans s3
    obtain ⟨F, A, B, eF, rdd, ex, up⟩ := pa.same s3
    obtain ⟨d', hd'⟩ := ex _ o' e4
    have rs3 := rs1.same s23
    have ndF : F.Nodup := by
      have := (rs1.own i hi).1
      rw [eF] at this
      exact (List.nodup_append.mp (List.nodup_append.mp this).1).2.1
    refine put_at (Gx := G) rdd ndF rk (rd.same s23) ow.nd (fun b hb hm => ow.apart b hb i (by rw [eF]; simp [hm])) hd' fun H4 F' kp r' nd' sub => ?_
    obtain ⟨Fs', rs4, sub4, k4, ro4⟩ := path_end (f := fun o => oPut o kd p.1) rs3 hi e3 ev hd' e4 eF rdd up kp r' nd' sub ow.apart (fun _ _ => .inr trivial)
    exact (show ∀ σ' H' Fs', _ from fin) σ H4 Fs' rs4 (Stp.ext (K := X.K) (s1.trans (.same s23)).toP k4 sub4 ow.orig ro4) rfl) fun _ _ z => z⟩
/-- o[..].append(x), x made or frozen -/
theorem app_at {K : PySem.W.Frag} {H : Hp} {d x d' : D} {v vx : V} {F Gx : List Addr} {Q : VK} (rd : RD K H d v F) (nd : F.Nodup) (rx : RD K H x vx Gx) (ndx : Gx.Nodup) (ap : ∀ b ∈ Gx, b ∉ F) (hp : oApp x d = .ok d')
    (q : ∀ H' F', KeepX (· ∈ F) H H' → RD K H' d' v F' → F'.Nodup → (∀ b ∈ F', b ∈ F ∨ b ∈ Gx) → Q .non H') : tyV K "list" v H ∧ rAppend v [vx] H Q := by
  cases d with
  | lst ds =>
    obtain ⟨hl, h⟩ := need_ok (show need (ds.length < 16777216) (.ok (.lst (ds ++ [x]))) = .ok d' from hp)
    cases h
    obtain ⟨a, vs, G, rfl, ha, r, eF⟩ := rd
    subst eF
    have nda := List.nodup_cons.mp nd
    have aGx : ∀ b ∈ Gx, b ≠ a := fun b hb e => ap b hb (by rw [e]; exact List.mem_cons_self)
    have kA : KeepX (fun b => b = a) H (upd H a (.lst (vs ++ [vx]))) := fun b ob eb nb => by rw [upd_ne nb]; exact eb
    have mA : ∀ b, (fun b => b = a) b → MutAt H b := fun b e => by subst e; exact ⟨_, ha, trivial⟩
    refine ⟨.inl ⟨rfl, vs, .inl (.inl ha)⟩, a, vs, vx, rfl, rfl, ha, by rw [r.length, sizeLine_eq]; exact hl, q _ (a :: (G ++ Gx)) (fun b ob eb nb => kA b ob eb fun e => nb (by rw [e]; exact List.mem_cons_self)) ⟨a, _, G ++ Gx, rfl, upd_same, RDs.append (r.keep kA mA fun b hb e => nda.1 (e ▸ hb)) ⟨vx, [], Gx, [], rfl, rx.keep kA mA aGx, ⟨rfl, rfl⟩, by simp⟩, rfl⟩ (List.nodup_cons.mpr ⟨fun hm => ?_, List.nodup_append.mpr ⟨nda.2, ndx, fun x hx y hy e => ap y hy (by rw [← e]; exact List.mem_cons_of_mem _ hx)⟩⟩) fun b hb => ?_⟩
    · rcases List.mem_append.mp hm with z | z
      · exact nda.1 z
      · exact aGx a z rfl
    · rcases List.mem_cons.mp hb with rfl | hb
      · exact .inl List.mem_cons_self
      · exact (List.mem_append.mp hb).imp (List.mem_cons_of_mem _) id
  | _ => cases hp
theorem oApp_ne (x d : D) : ∀ m fs, oApp x d ≠ .err m fs := by
  cases d with
  | lst ds => exact need_ne (ok_ne _)
  | _ => exact bad_ne
theorem sv_app (hi : i ∉ R) (ho : PPT X R i o ms) (hx : PN X W e m)
    (hbase : attributeBase o "append" X.env (eval o X.env) = eval o X.env := by rfl)
    (hfew : ((backTo cpos (starEach [e] X.env)).all (fun x => !x.1) && (backToKw cpos (keywordEach [] X.env)).all (fun x => x.1.isSome)
      && decide ([e].length + ([] : List Keyword).length + (if ([] : List Keyword).isEmpty then 0 else 1) < 30)) = true := by rfl)
    (hline : (apos.endLine == cpos.line) = true := by rfl) (hs : starEach [e] X.env = (false, eval e X.env) :: starEach [] X.env := by rfl) (hplain : (backTo cpos (starEach [] X.env)).any (·.1) = false := by rfl)
    (hsw : swapsWith (.Call (.Attribute o "append" apos) [e] [] cpos) none pos.line X.env = pure false := by rfl) :
    PSV X W R P (.Expr (.Call (.Attribute o "append" apos) [e] [] cpos) pos) (sApp i ms m) :=
  (ps_expr (pe_bm PySem.F.plainAttrs_list PySem.F.slot_list_append PySem.F.type_list_append mt_append ho (pan_cons hx pan_nil hs) hbase hfew hline hs hplain) hsw).imp fun D σ H ⟨env, Fs, rs, o⟩ => by
    obtain ⟨ds, e1, k1⟩ := Outc.noE o.bnd
    obtain ⟨x, em, k2⟩ := Outc.noE k1.bnd
    · obtain ⟨d0, o', e3, e4, fin⟩ := chg_ok (show Outc (chg i ds (oApp x) env) _ _ from k2) (oApp_ne x)
      refine ⟨env, Fs, d0, rs, e3, ds, e1, ⟨_, o', e4⟩, fun d u v0 H2 s2 ev pa => ?_⟩
      obtain ⟨F, A, B, eF, rdd, ex, up⟩ := pa
      obtain ⟨d', hd'⟩ := ex _ o' e4
      have ty : tyV X.K "list" u H2 := by
        cases d with
        | lst dl => obtain ⟨a, vs, G, rfl, ha, _⟩ := rdd; exact .inl ⟨rfl, vs, .inl (.inl ha)⟩
        | _ => cases hd'
      refine ⟨ty, env, Fs, (rs.same s2).rdl, ?_⟩
      show Outc ((m env).bind fun d => (Res.ok []).bind fun ds => Res.ok (d :: ds)) _ _
      rw [em]
      rintro vs G H3 s3 ⟨vx, q, F1, F2, rfl, rdx, ⟨rfl, rfl⟩, rfl⟩ nd f
      rw [List.append_nil] at nd f
      have s23 := s2.trans s3
      have rs3 := rs.same s23
      have ndF : F.Nodup := by
        have := (rs.own i hi).1
        rw [eF] at this
        exact (List.nodup_append.mp (List.nodup_append.mp this).1).2.1
      have apart : ∀ b ∈ F1, ∀ j, b ∉ Fs j := fun b hb j => (rs.same s2).freeAt (f b hb) j
      refine (app_at (Gx := F1) (rdd.same s3) ndF rdx nd (fun b hb hm => apart b hb i (by rw [eF]; simp [hm])) hd' fun H4 F' kp r' nd' sub => ?_).2
      obtain ⟨Fs', rs4, sub4, k4, ro4⟩ := path_end (f := oApp x) rs3 hi e3 ev hd' e4 eF (rdd.same s3) (fun f d' o' h1 h2 H2' F2' kp2 r2 => up f d' o' h1 h2 H2' F2' (fun b ob eb nb => kp2 b ob (s3 b ob eb) nb) r2) kp r' nd' sub apart (fun _ _ => .inr trivial)
      exact (show ∀ σ' H' Fs', _ from fin) σ H4 Fs' rs4 (Stp.ext (K := X.K) (Stp.same s23) k4 sub4 (fun b hb => .inr (s2.free (f b hb))) ro4) rfl
/-- a name's append of a value with effects -/
theorem sv_app0 {x : Str} {p1 : Pos} (hi : i ∉ R) (ho : PE X (.Name x p1) (tVar i)) (hx : PX X W R e mx)
    (hbase : attributeBase (.Name x p1) "append" X.env (eval (.Name x p1) X.env) = eval (.Name x p1) X.env := by rfl)
    (hfew : ((backTo cpos (starEach [e] X.env)).all (fun x => !x.1) && (backToKw cpos (keywordEach [] X.env)).all (fun x => x.1.isSome)
      && decide ([e].length + ([] : List Keyword).length + (if ([] : List Keyword).isEmpty then 0 else 1) < 30)) = true := by rfl)
    (hline : (apos.endLine == cpos.line) = true := by rfl) (hs : starEach [e] X.env = (false, eval e X.env) :: starEach [] X.env := by rfl) (hplain : (backTo cpos (starEach [] X.env)).any (·.1) = false := by rfl)
    (hsw : swapsWith (.Call (.Attribute (.Name x p1) "append" apos) [e] [] cpos) none pos.line X.env = pure false := by rfl) :
    PSV X W R P (.Expr (.Call (.Attribute (.Name x p1) "append" apos) [e] [] cpos) pos) (sApp0 i mx) :=
  (ps_expr (pe_bm PySem.F.plainAttrs_list PySem.F.slot_list_append PySem.F.type_list_append mt_append ho (pxa_cons hx pxa_nil hs) hbase hfew hline hs hplain) hsw).imp fun D σ H ⟨env, Fs, rs, o⟩ => by
    obtain ⟨d, e0, o⟩ := outc_var o.bnd
    obtain ⟨v0, ev, rd0⟩ := rs.rdl.2 i d e0
    obtain ⟨_, hty⟩ : True ∧ tyV X.K "list" v0 H := ⟨trivial, by
      cases d with
      | lst dl => obtain ⟨a, vs, G, rfl, ha, _⟩ := rd0; exact .inl ⟨rfl, vs, .inl (.inl ha)⟩
      | _ => exact o.elim⟩
    have o' : Outc ((mx env).bind fun p => chg i [] (oApp p.1) p.2) (KSt X.K R P σ env Fs H D) (EX X.K X.mg W R σ Fs H) := by
      cases d <;> first | exact o | exact o.elim
    refine ⟨v0, ev, hty, env, Fs, rs, ?_⟩
    have o2 := o'.bnd
    show Outc ((mx env).bind fun p => (Res.ok ([], p.2)).bind fun q => Res.ok (p.1 :: q.1, q.2)) _ _
    cases em : mx env with
    | bad => rw [em] at o2; exact o2.elim
    | err n fs => rw [em] at o2; exact o2
    | ok p =>
      rw [em] at o2
      obtain ⟨d1, o', e3, e4, fin⟩ := chg_ok o2 (oApp_ne p.1)
      rintro vs G H1 Fs1 rs1 s1 ⟨vx, q, F1, F2, rfl, rdx, ⟨rfl, rfl⟩, rfl⟩ ow
      rw [List.append_nil] at ow
      obtain ⟨v1, ev1, rd1⟩ := rs1.rdl.2 i d1 e3
      rw [ev] at ev1; cases ev1
      refine (app_at (Gx := F1) rd1 (rs1.own i hi).1 rdx ow.nd (fun b hb hm => ow.apart b hb i hm) e4 fun H4 F' kp r' nd' sub => ?_).2
      obtain ⟨F, A, B, eF, rdd, ex, up⟩ := PathAt.nil rd1
      obtain ⟨Fs', rs4, sub4, k4, ro4⟩ := path_end (f := oApp p.1) (ds := []) (A := []) (B := []) rs1 hi e3 ev e4 e4 (by simp) rd1 (fun f d' o' h1 h2 H' F' kp r' => by
        have e : d' = o' := Res.ok.inj (h1.symm.trans h2)
        subst e
        simpa using r') kp r' nd' sub ow.apart (fun _ _ => .inr trivial)
      exact (show ∀ σ' H' Fs', _ from fin) σ H4 Fs' rs4 (Stp.ext (K := X.K) s1.toP k4 sub4 ow.orig ro4) rfl
end
end VL
set_option Elab.async false
set_option linter.all false
set_option maxRecDepth 100000
set_option maxHeartbeats 4000000
/-! VLM: sorted; <= of tuples; dict displays; o[k] op= e. -/
namespace VL
open PySem L2
theorem perm_uniq {α : Type} {le : α → α → Prop} (as : ∀ a b, le a b → le b a → a = b) : ∀ {l m : List α}, l.Perm m → l.Pairwise le → m.Pairwise le → l = m
  | [], m, p, _, _ => (List.nil_perm.mp p).symm
  | x :: l, [], p, _, _ => absurd p.length_eq (by simp)
  | x :: l, y :: m, p, h1, h2 => by
    have hx : x ∈ y :: m := p.mem_iff.mp List.mem_cons_self
    have hy : y ∈ x :: l := p.mem_iff.mpr List.mem_cons_self
    have e : x = y := by
      rcases List.mem_cons.mp hx with e | hx
      · exact e
      · rcases List.mem_cons.mp hy with e | hy
        · exact e.symm
        · exact as x y ((List.pairwise_cons.mp h1).1 y hy) ((List.pairwise_cons.mp h2).1 x hx)
    subst e
    rw [perm_uniq as ((List.perm_cons x).mp p) (List.pairwise_cons.mp h1).2 (List.pairwise_cons.mp h2).2]
section
variable {K : PySem.W.Frag} {H : Hp}
theorem leP_trans (a b c : Int × Int) (h1 : leP a b = true) (h2 : leP b c = true) : leP a c = true := by
  unfold leP at *
  simp only [Bool.or_eq_true, Bool.and_eq_true, decide_eq_true_eq] at *
  omega
theorem leP_total (a b : Int × Int) : (leP a b || leP b a) = true := by
  unfold leP
  simp only [Bool.or_eq_true, Bool.and_eq_true, decide_eq_true_eq]
  omega
theorem leP_as (a b : Int × Int) (h1 : leP a b = true) (h2 : leP b a = true) : a = b := by
  unfold leP at *
  simp only [Bool.or_eq_true, Bool.and_eq_true, decide_eq_true_eq] at *
  exact Prod.ext (by omega) (by omega)
theorem lexB_le {a b : Int × Int} (h : SrtO.lexB b a = false) : leP a b = true := by
  unfold SrtO.lexB at h
  unfold leP
  simp only [Bool.or_eq_true, Bool.and_eq_true, decide_eq_true_eq]
  by_cases e : b.1 = a.1
  · rw [if_pos e, decide_eq_false_iff_not] at h
    omega
  · rw [if_neg e, decide_eq_false_iff_not] at h
    omega
theorem pairs_map : ∀ {fs : List FD} {ps : List (Int × Int)}, pairs? fs = .ok ps → fs = ps.map fun p => FD.tup [.int p.1, .int p.2]
  | [], ps, h => by cases h; rfl
  | f :: r, ps, h => by
    unfold pairs? at h
    split at h
    · rename_i e; cases e
    · rename_i i j r' e
      cases e
      obtain ⟨qs, h1, h2⟩ := bind_eq_ok h
      cases h2
      rw [pairs_map h1]
      rfl
    · cases h
theorem pairs_ne : ∀ (fs : List FD) m gs, pairs? fs ≠ .err m gs
  | [] => by intro m gs z; cases z
  | f :: r => by
    intro m gs z
    unfold pairs? at z
    split at z
    · cases z
    · rename_i i j r' e
      cases e
      exact ne_bind (pairs_ne r) (fun is => by intro m fs z; cases z) m gs z
    · cases z
theorem sortF_ne (fs : List FD) : ∀ m gs, sortF fs ≠ .err m gs := by
  unfold sortF
  split
  · exact ne_bind (ints_ne fs) fun is => by intro m fs z; cases z
  · exact ne_bind (pairs_ne fs) fun is => by intro m fs z; cases z
def kOf (H : Hp) : V → Int × Int
  | .ref t => match H t with
    | some (.tup [.int i, .int j]) => (i, j)
    | _ => (0, 0)
  | _ => (0, 0)
theorem rfs_pair {p : Int × Int} {v : V} (h : RF K H (.tup [.int p.1, .int p.2]) v) : ∃ t, v = .ref t ∧ H t = some (.tup [.int p.1, .int p.2]) ∧ kOf H v = p := by
  obtain ⟨t, vs, rfl, ht, v1, q, rfl, h1, v2, q2, rfl, h2, h3⟩ := h
  have e1 : v1 = .int p.1 := h1
  have e2 : v2 = .int p.2 := h2
  have e3 : q2 = [] := h3
  subst e1 e2 e3
  refine ⟨t, rfl, ht, ?_⟩
  show (match H t with
      | some (HO.tup [V.int i, V.int j]) => (i, j)
      | _ => (0, 0)) = p
  rw [ht]
theorem rfs_pairs : ∀ {ps : List (Int × Int)} {vs : List V}, RFs K H (ps.map fun p => FD.tup [.int p.1, .int p.2]) vs → vs.map (kOf H) = ps ∧ ∀ x ∈ vs, ∃ t, x = .ref t ∧ H t = some (.tup [.int (kOf H x).1, .int (kOf H x).2])
  | [], _, h => by
    have e : _ = ([] : List V) := h
    subst e
    exact ⟨rfl, fun x hx => (by cases hx)⟩
  | p :: r, _, ⟨v, q, e, h, hr⟩ => by
    subst e
    obtain ⟨e1, f1⟩ := rfs_pairs hr
    obtain ⟨t, ev, ht, ek⟩ := rfs_pair h
    refine ⟨by rw [List.map_cons, e1, ek], fun x hx => ?_⟩
    rcases List.mem_cons.mp hx with rfl | hx
    · exact ⟨t, ev, by rw [ek]; exact ht⟩
    · exact f1 x hx
theorem pairs_rfs : ∀ {vs : List V}, (∀ x ∈ vs, ∃ t, x = .ref t ∧ H t = some (.tup [.int (kOf H x).1, .int (kOf H x).2])) → RFs K H ((vs.map (kOf H)).map fun p => FD.tup [.int p.1, .int p.2]) vs
  | [], _ => rfl
  | v :: r, h => by
    obtain ⟨t, rfl, ht⟩ := h v List.mem_cons_self
    exact ⟨_, r, rfl, ⟨t, _, rfl, ht, _, _, rfl, rfl, _, _, rfl, rfl, rfl⟩, pairs_rfs fun x hx => h x (List.mem_cons_of_mem _ hx)⟩
section
variable {X : Cx}
theorem cr_sorted : CallR X (.builtin "sorted") (fun vs H Q => rSortedI X.K vs H Q ∨ rSortedPO X.K vs H Q) := cr_sortedI.or cr_sortedPO
end
theorem s_sorted : SndC K (c1 cSorted) (fun vs H Q => rSortedI K vs H Q ∨ rSortedPO K vs H Q) := sndC1 fun d v F H Q er hd o => by
  cases d with
  | lst ds =>
    obtain ⟨fs, ef, o⟩ := Outc.okOf o.bnd (allF_ne ds)
    obtain ⟨gs, eg, o⟩ := Outc.okOf o.bnd (sortF_ne fs)
    obtain ⟨a, vs, G, rfl, ha, r, _⟩ := hd
    have r' := (r.allF ef).1
    unfold sortF at eg
    split at eg
    · obtain ⟨is, ei, eg⟩ := bind_eq_ok eg
      cases eg
      rw [ints_map ei] at r'
      rw [r'.ints] at ha
      refine .inl ⟨a, is, rfl, .inl (.inl ha), fun ns' p hp hs hn => ?_⟩
      have e : ns' = is.mergeSort fun a b => decide (a ≤ b) := by
        refine perm_uniq (le := (· ≤ ·)) (fun a b h1 h2 => Int.le_antisymm h1 h2) (hp.trans (List.mergeSort_perm _ _).symm) hs ?_
        exact (List.pairwise_mergeSort (le := fun a b => decide (a ≤ b)) (fun a b c => by simp only [decide_eq_true_eq]; omega) (fun a b => by simp only [Bool.or_eq_true, decide_eq_true_eq]; omega) is).imp fun h => of_decide_eq_true h
      subst e
      exact KN.newL o (rfs_ints _) hn
    · obtain ⟨ps, ei, eg⟩ := bind_eq_ok eg
      cases eg
      rw [pairs_map ei] at r'
      obtain ⟨e1, f1⟩ := rfs_pairs r'
      refine .inr ⟨a, vs, kOf H, rfl, .inl (.inl ha), f1, fun ys p hs hst hn => ?_⟩
      have e : ys.map (kOf H) = ps.mergeSort leP := by
        refine perm_uniq (le := fun a b => leP a b = true) leP_as ?_ ?_ (List.pairwise_mergeSort leP_trans leP_total ps)
        · have hp := hst.perm.map (kOf H)
          rw [e1] at hp
          exact hp.trans (List.mergeSort_perm _ _).symm
        · exact List.pairwise_map.mpr (hs.imp fun h => lexB_le h)
      have rr : RFs K H ((ys.map (kOf H)).map fun p => FD.tup [.int p.1, .int p.2]) ys := pairs_rfs fun x hx => f1 x (hst.perm.mem_iff.mp hx)
      rw [e] at rr
      exact KN.newL o rr hn
  | _ => exact o.elim
/-! ### <= -/
theorem lexLe_at : ∀ (xs ys : List Int) (pre pre' : List Int), pre.length = pre'.length → (!lexLt ys xs) = Ob.lexAt (fun j => decide ((pre ++ xs).getD j 0 = (pre' ++ ys).getD j 0)) (fun j => decide ((pre ++ xs).getD j 0 ≤ (pre' ++ ys).getD j 0)) (decide (xs.length ≤ ys.length)) pre.length (min xs.length ys.length)
  | [], [], _, _, _ => rfl
  | [], _ :: _, _, _, _ => by simp [lexLt, Ob.lexAt_zero]
  | _ :: _, [], _, _, _ => by simp [lexLt, Ob.lexAt_zero]
  | x :: xs, y :: ys, pre, pre', hl => by
    have e : min (x :: xs).length (y :: ys).length = min xs.length ys.length + 1 := by simp only [List.length_cons]; omega
    rw [e, Ob.lexAt_succ]
    have g1 : (pre ++ x :: xs).getD pre.length 0 = x := by simp
    have g2 : (pre' ++ y :: ys).getD pre.length 0 = y := by rw [hl]; simp
    have ih := lexLe_at xs ys (pre ++ [x]) (pre' ++ [y]) (by simp [hl])
    rw [g1, g2]
    have e1 : pre ++ [x] ++ xs = pre ++ x :: xs := by simp
    have e2 : pre' ++ [y] ++ ys = pre' ++ y :: ys := by simp
    have e3 : (pre ++ [x]).length = pre.length + 1 := by simp
    rw [e1, e2, e3] at ih
    have e4 : decide ((x :: xs).length ≤ (y :: ys).length) = decide (xs.length ≤ ys.length) := by
      simp only [List.length_cons, Nat.add_le_add_iff_right]
    rw [e4]
    by_cases c : x = y
    · subst c
      rw [if_pos (by simp), ← ih]
      simp [lexLt]
    · rw [if_neg (by simpa using c)]
      have c' : ¬ y = x := fun z => c z.symm
      unfold lexLt
      rw [if_neg c', ← decide_not]
      exact decide_eq_decide.mpr (by omega)
theorem lexLe_eq (xs ys : List Int) : (!lexLt ys xs) = Ob.lexAt (fun j => decide (xs.getD j 0 = ys.getD j 0)) (fun j => decide (xs.getD j 0 ≤ ys.getD j 0)) (decide (xs.length ≤ ys.length)) 0 (min xs.length ys.length) := lexLe_at xs ys [] [] rfl
def rLeA (K : PySem.W.Frag) : R2 := fun x y H Q => rI0 (fun i j => .bl (decide (i ≤ j))) x y H Q ∨ rLeT K x y H Q
theorem sLe : Snd K oLe (rLeA K) := by
  intro x y vx vy F G H Q er hx hy o
  cases x with
  | fz f =>
    cases y with
    | fz g =>
      obtain ⟨hf, _⟩ := hx
      obtain ⟨hg, _⟩ := hy
      cases f <;> cases g <;> try exact o.elim
      case int.int i j => exact .inl ⟨i, j, hf, hg, KN.fz (show KN K H Q (.fz (.bl (decide (i ≤ j)))) from o) rfl⟩
      case tup.tup i j =>
        obtain ⟨is, e1, o⟩ := Outc.okOf o.bnd (ints_ne i)
        obtain ⟨js, e2, o⟩ := Outc.okOf o.bnd (ints_ne j)
        obtain ⟨a, xs, rfl, ha, rx⟩ := hf.sqt
        obtain ⟨b, ys, rfl, hb, ry⟩ := hg.sqt
        rw [ints_map e1] at rx
        rw [ints_map e2] at ry
        rw [rx.ints] at ha
        rw [ry.ints] at hb
        exact .inr ⟨a, b, is, js, rfl, rfl, ha, hb, by rw [← lexLe_eq]; exact KN.fz (show KN K H Q (.fz (.bl (!lexLt js is))) from o) rfl⟩
    | _ => cases f <;> exact o.elim
  | _ => exact o.elim
section
variable {X : Cx}
theorem o_le (hu : X.A.units < cLine) : OpR X (compareOp .LtE) (rLeA X.K) := op_le.or (op_leT hu)
end
end
end VL
set_option Elab.async false
set_option linter.all false
set_option maxRecDepth 100000
set_option maxHeartbeats 4000000
/-! VLN: dict displays; o[k] op= e; calls that change their first argument; defs. -/
namespace VL
open PySem L2
section
variable {X : Cx} {W : WX} {R : RL} {P : List Nat} {e o idx k : Expr} {ms : List E} {m mk my : E} {i : Nat} {pos tpos : Pos}
/-! ### dict displays -/
theorem pn_d0 : PN X W (.Dict [] [] pos) (eDic []) := pe_dnewK.imp fun σ H Q ⟨env, Fs, R, o⟩ p hp => by
  have o' : KN X.K H Q (.dic []) := o
  exact o' (.ref p) [p] _ (same_upd hp) ⟨p, [], [], rfl, upd_same, ⟨rfl, rfl⟩, rfl⟩ (by simp) (by simpa using hp)
theorem pn_d1 (hk : PN X W k mk) (hv : PN X W e m) : PN X W (.Dict [some k] [e] pos) (eDic [(mk, m)]) := (pe_disp (pps_cons hk hv pps_nil) (by rfl) (by rfl) (by simp) (by simp)).imp fun σ H Q ⟨env, Fs, R, o⟩ p hp => by
  have s0 : Same H (upd H p (.dK [])) := same_upd hp
  have o0 : Outc ((mk env).bind fun a => ((Res.ok []).bind fun ds => Res.ok (a :: ds)).bind fun ks => (allF ks).bind fun fs => (keys? fs).bind fun js => (eAll ([(mk, m)].map (·.2)) env).bind fun vs => .ok (D.dic ((js.zip vs).foldl (fun acc kv => VL.putK acc kv.1 kv.2) []))) (KN X.K H Q) (ER X.K X.mg W σ H) := by
    have o : Outc (((mk env).bind fun a => (Res.ok []).bind fun ds => Res.ok (a :: ds)).bind _) _ _ := o
    cases hm : mk env with
    | ok d => rw [hm] at o; exact o
    | err n fs => rw [hm] at o; exact o
    | bad => rw [hm] at o; exact o
  refine ⟨env, Fs, R.same s0, o0.bnd.mono (fun dk _ ok vk Fk H1 s1 rk _ _ => ?_) fun _ _ z => z.later s0⟩
  have ok0 : Outc ((allF [dk]).bind fun fs => (keys? fs).bind fun js => (eAll ([(mk, m)].map (·.2)) env).bind fun vs => .ok (D.dic ((js.zip vs).foldl (fun acc kv => VL.putK acc kv.1 kv.2) []))) (KN X.K H Q) (ER X.K X.mg W σ H) := ok
  obtain ⟨fs, ef, ok1⟩ := Outc.okOf (Outc.bnd ok0) (allF_ne [dk])
  obtain ⟨js, ej, ok2⟩ := Outc.okOf ok1.bnd (keys_ne fs)
  have ok : Outc (((m env).bind fun a => (Res.ok []).bind fun ds => Res.ok (a :: ds)).bind fun vs => .ok (D.dic ((js.zip vs).foldl (fun acc kv => VL.putK acc kv.1 kv.2) []))) (KN X.K H Q) (ER X.K X.mg W σ H) := ok2
  have e1 := allF_ok ef
  cases fs with
  | nil => cases e1
  | cons f fs =>
  cases fs with
  | cons _ _ => cases e1
  | nil =>
  have e1 : dk = .fz f := by cases e1; rfl
  subst e1
  obtain ⟨key, ek, ej⟩ := bind_eq_ok ej
  cases ej
  have s01 := s0.trans s1
  refine ⟨env, Fs, (R.same s01), ?_⟩
  cases hm : m env with
  | bad => rw [hm] at ok; exact ok.elim
  | err n gs => rw [hm] at ok; exact (show ER X.K X.mg W σ H n gs from ok).later s01
  | ok d =>
    rw [hm] at ok
    have ok : KN X.K H Q (.dic [(key, d)]) := ok
    intro v F H2 s2 rv nv fv
    have hp2 : H2 p = some (.dK []) := s2 _ _ (s1 _ _ upd_same)
    have pF : p ∉ F := fun hm => by
      have := fv p hm
      rw [s1 _ _ upd_same] at this; cases this
    have s3 : Same (upd H p (.dK [])) H2 := s1.trans s2
    have kp : KeepX (fun b => b = p) H2 (upd H2 p (.dK [(key, v)])) := fun b ob eb nb => by rw [upd_ne nb]; exact eb
    have mp : ∀ b, (fun b => b = p) b → MutAt H2 b := fun b e => by subst e; exact ⟨_, hp2, trivial⟩
    refine ⟨hp2, [(key, v)], ?_, by simp, ?_⟩
    · rw [key_rf rk.1 ek]; rfl
    · refine ok (.ref p) (p :: F) _ (fun b ob eb => ?_) ⟨p, [(key, v)], F, rfl, upd_same, ⟨v, [], F, [], rfl, rv.keep kp mp fun b hb e => pF (e ▸ hb), ⟨rfl, rfl⟩, by simp, by simp⟩, rfl⟩ (List.nodup_cons.mpr ⟨pF, nv⟩) fun b hb => ?_
      · have nb : b ≠ p := ne_of_none eb hp
        rw [upd_ne nb]
        exact s3 _ _ (s0 _ _ eb)
      · rcases List.mem_cons.mp hb with rfl | hb
        · exact hp
        · exact s01.free (fv b hb)
/-! ### o[k] op= e -/
def rAddI : R2 := fun x y H Q => rI0 (fun i j => .int (i + j)) x y H Q ∨ (∃ i j, x = .str i ∧ y = .str j ∧ i.length + j.length ≤ sizeLine ∧ Q (.str (i ++ j)) H)
theorem sAddI {K : PySem.W.Frag} : Snd K oAddI rAddI := by
  intro x y vx vy F G H Q er hx hy o
  cases x with
  | fz f =>
    cases y with
    | fz g =>
      obtain ⟨hf, _⟩ := hx
      obtain ⟨hg, _⟩ := hy
      cases f <;> cases g <;> try exact o.elim
      case int.int i j => exact .inl ⟨i, j, hf, hg, KN.fz (show KN K H Q (.fz (.int (i + j))) from o) rfl⟩
      case str.str i j =>
        obtain ⟨z, o⟩ := Outc.need o
        exact .inr ⟨i, j, hf, hg, by rw [sizeLine_eq]; exact z, KN.fz (show KN K H Q (.fz (.str (i ++ j))) from o) rfl⟩
    | _ => cases f <;> exact o.elim
  | _ => exact o.elim
theorem o_addI' : OpR X (inplaceOp .Add) rAddI := o_addI
theorem getK {K : PySem.W.Frag} {H : Hp} {d kd : D} {g : FD} {v vk : V} {F Gk : List Addr} {Q : VK} (rd : RD K H d v F) (rk : RD K H kd vk Gk) (h : oIx d kd = .ok (.fz g)) (hp : ∃ x d', oPut d kd x = .ok d') (q : ∀ u, RF K H g u → Q u H) : rGetA K v vk H Q := by
  cases d with
  | lst ds =>
    cases kd with
    | fz kf =>
      cases kf with
      | int i =>
        have e2 : vk = .int i := rk.1
        have h : ofO (VL.atI ds i) = .ok (.fz g) := h
        obtain ⟨a, vs, G', rfl, ha, r, _⟩ := rd
        obtain ⟨w, F', h1, h2, _, _⟩ := atI_rds r (ofO_ok h)
        exact .inl ⟨a, vs, i, w, rfl, e2, .inl (.inl ha), h1, q w h2.1⟩
      | _ => cases h
    | _ => cases h
  | dic kvs =>
    cases kd with
    | fz f =>
      obtain ⟨key, ek, h⟩ := bind_eq_ok (show (f.key?.bind fun k => ofO (VL.valV kvs k)) = .ok (.fz g) from by cases f <;> exact h)
      obtain ⟨a, ws, G', rfl, ha, r, _⟩ := rd
      rw [key_rf rk.1 ek]
      have z := vals_k (k := key) r
      rw [ofO_ok h] at z
      obtain ⟨w, F', h1, h2, _, _⟩ := z
      exact .inr ⟨a, w, rfl, by rw [← h1]; exact DGet.k ha, q w h2.1⟩
    | _ => cases h
  | dit kvs =>
    cases kd with
    | fz f =>
      obtain ⟨key, ek, h⟩ := bind_eq_ok (show (f.tkey?.bind fun k => ofO (VL.valV kvs k)) = .ok (.fz g) from by cases f <;> exact h)
      obtain ⟨a, ws, G', rfl, ha, r, _⟩ := rd
      obtain ⟨b, rfl, hb⟩ := tkey_rf rk.1 ek
      have z := vals_t (k := key) r
      rw [ofO_ok h] at z
      obtain ⟨w, F', h1, h2, _, _⟩ := z
      exact .inr ⟨a, w, rfl, by rw [← h1]; exact DGet.t ha hb, q w h2.1⟩
    | _ => cases h
  | _ => obtain ⟨x, d', hp⟩ := hp; cases hp
theorem fzne_bind {d : D} {f : FD → Res D} (h : ∀ g m gs, f g ≠ .err m gs) : ∀ m gs, (d.fz?.bind f) ≠ .err m gs := ne_bind (fz_ne d) h
theorem sv_augP {op : Operator} {f : D → D → Res D} {r : R2} (hu : X.A.units + 1 < cLine) (hi : i ∉ R) (ho : PPT X R i o ms) (hk : PB X W0 idx mk) (hy : PN X W0 e my) (hop : OpR X (inplaceOp op) r) (hs : Snd X.K f r) (hne : ∀ x y m gs, f x y ≠ .err m gs)
    (ha : ∀ ov iv new, augStore idx ov iv new = (do holding [new, ov, iv] (setItem ov iv new); release [new, ov, iv] []; pure .next) := by intros; rfl) : PSV X W R P (.AugAssign (.Subscript o idx tpos) op e pos) (sAugP f i ms mk my) :=
  (ps_augS (tip := fun x y H Q => r x y H Q) ho hk (o_get hu) hy hop (o_set hu) ha).imp fun D σ H ⟨env, Fs, rs, oo⟩ => by
    obtain ⟨ds, e1, k1⟩ := Outc.noE oo.bnd
    obtain ⟨kd, e2, k2⟩ := Outc.noE k1.bnd
    obtain ⟨yd, e3, k3⟩ := Outc.noE k2.bnd
    obtain ⟨g, eg, k4⟩ := Outc.fz k3.bnd
    subst eg
    have nf : ∀ d m gs, oAug f kd (.fz g) d ≠ .err m gs := fun d => ne_bind (oIx_ne d kd) fun old => fzne_bind fun g0 => ne_bind (hne _ _) fun new => oPut_ne d kd new
    obtain ⟨d0, o', e4, e5, fin⟩ := chg_ok k4 nf
    refine ⟨env, Fs, d0, rs, e4, ds, e1, ⟨_, o', e5⟩, fun d u v0 H2 s2 ev pa => ⟨env, Fs, (rs.same s2).rdl, ?_⟩⟩
    rw [e2]
    intro vk Gk H3 s3 rk _
    have s23 := s2.trans s3
    obtain ⟨F, A, B, eF, rdd, ex, up⟩ := pa.same s3
    obtain ⟨d', hd'⟩ := ex _ o' e5
    obtain ⟨old, h1, h2⟩ := bind_eq_ok hd'
    obtain ⟨g0, h3, h4⟩ := bind_eq_ok h2
    obtain ⟨new, h5, h6⟩ := bind_eq_ok h4
    have eold : old = .fz g0 := by cases old <;> cases h3; rfl
    subst eold
    refine getK rdd rk h1 ⟨_, _, h6⟩ fun vold rold => ⟨env, Fs, (rs.same s23).rdl, ?_⟩
    rw [e3]
    intro vy Fy H4 s4 ry ny fy
    refine hs (.fz g0) (.fz g) vold vy [] [] H4 _ (fun _ _ => False) ⟨rold.same s4, rfl⟩ ⟨ry.1, rfl⟩ ?_
    rw [h5]
    intro vn Fn H5 s5 rn nn fn
    have s35 := s4.trans s5
    have s25 := s23.trans s35
    have rs5 := rs.same s25
    have ndF : F.Nodup := by
      have := (rs.own i hi).1
      rw [eF] at this
      exact (List.nodup_append.mp (List.nodup_append.mp this).1).2.1
    have apart : ∀ b ∈ Fn, ∀ j, b ∉ Fs j := fun b hb j => (rs.same (s23.trans s4)).freeAt (fn b hb) j
    refine put_at (Gx := Fn) (rdd.same s35) ndF (rk.same s35) rn nn (fun b hb hm => apart b hb i (by rw [eF]; simp [hm])) h6 fun H6 F' kp r' nd' sub => ?_
    obtain ⟨Fs', rs4, sub4, k4', ro4⟩ := path_end (f := oAug f kd (.fz g)) rs5 hi e4 ev hd' e5 eF (rdd.same s35) (fun f d' o' h1 h2 H2' F2' kp2 r2 => up f d' o' h1 h2 H2' F2' (fun b ob eb nb => kp2 b ob (s35 b ob eb) nb) r2) kp r' nd' sub apart (fun _ _ => .inr trivial)
    exact (show ∀ σ' H' Fs', _ from fin) σ H6 Fs' rs4 (Stp.ext (K := X.K) (Stp.same s25) k4' sub4 (fun b hb => .inr ((s23.trans s4).free (fn b hb))) ro4) rfl
theorem addI_ne (x y : D) : ∀ m gs, oAddI x y ≠ .err m gs := by
  intro m gs z
  cases x with
  | fz f =>
    cases y with
    | fz g =>
      cases f <;> cases g <;> try cases z
      exact need_ne (ok_ne _) m gs z
    | _ => cases f <;> cases z
  | _ => cases z
end
/-! ### calls that change their first argument -/
section
variable {K : PySem.W.Frag} {mg : Str → Option Value} {R : RL} {H1 H' : Hp} {σ : St} {env1 : Env} {Fs1 : Nat → List Addr} {i : Nat} {d0 d1 : D} {v0 : V} {F1 : List Addr}
theorem RS.mod (rs : RS K R H1 σ env1 Fs1) (hi : i ∉ R) (eo : env1[i]? = some (some d0)) (ev : σ[i]? = some (some v0)) (kp : KeepX (· ∈ Fs1 i) H1 H') (r1 : RD K H' d1 v0 F1) (n1 : F1.Nodup) (sub : ∀ b ∈ F1, b ∈ Fs1 i ∨ H1 b = none) : RS K R H' σ (setS env1 i d1) (fset Fs1 i F1) := by
  have li : i < env1.length := by
    by_cases l : i < env1.length
    · exact l
    · rw [List.getElem?_eq_none_iff.mpr (by omega)] at eo; cases eo
  have ap : ∀ j, j ≠ i → ∀ b ∈ Fs1 j, b ∉ F1 := fun j hj b hb hb' => by
    rcases sub b hb' with z | z
    · exact (rs.own i hi).2 b z j hj hb
    · obtain ⟨ob, e, _⟩ := rs.mut hb
      rw [z] at e; cases e
  refine ⟨⟨by show (env1.set i (some d1)).length = _; rw [List.length_set, rs.rdl.1], fun j dj e => ?_⟩, fun j hj => ?_, fun j hj => ?_⟩
  · have e' : (env1.set i (some d1))[j]? = some (some dj) := e
    by_cases c : i = j
    · subst c
      rw [List.getElem?_set_self li] at e'
      cases e'
      exact ⟨v0, ev, by unfold fset; rw [if_pos rfl]; exact r1⟩
    · rw [List.getElem?_set_ne c] at e'
      obtain ⟨vj, h1, h2⟩ := rs.rdl.2 j dj e'
      refine ⟨vj, h1, ?_⟩
      unfold fset
      rw [if_neg (Ne.symm c)]
      exact h2.keep kp (fun b hb => rs.mut hb) fun b hb hF => (rs.own i hi).2 b hF j (Ne.symm c) hb
  · unfold fset
    by_cases c : j = i
    · subst c
      exact absurd (show (env1.set j (some d1))[j]? = some (some d1) from List.getElem?_set_self li) (hj d1)
    · rw [if_neg c]
      exact rs.non j fun dj e' => hj dj (by show (env1.set i (some d1))[j]? = _; rw [List.getElem?_set_ne (Ne.symm c)]; exact e')
  · unfold fset
    by_cases c : j = i
    · rw [if_pos c]
      refine ⟨n1, fun b hb k hk => ?_⟩
      have hk' : k ≠ i := by rw [← c]; exact hk
      rw [if_neg hk']
      exact fun z => ap k hk' b z hb
    · rw [if_neg c]
      refine ⟨(rs.own j hj).1, fun b hb k hk => ?_⟩
      by_cases c' : k = i
      · rw [if_pos c']
        exact ap j c b hb
      · rw [if_neg c']
        exact (rs.own j hj).2 b hb k hk
theorem Stp.mod (hi : i ∉ R) (kp : KeepX (· ∈ Fs1 i) H1 H') (sub : ∀ b ∈ F1, b ∈ Fs1 i ∨ H1 b = none) : Stp R [] σ env1 Fs1 H1 σ (setS env1 i d1) (fset Fs1 i F1) H' where
  keep := fun b o e n => kp b o e fun hb => n ⟨i, hi, hb⟩
  sub := fun b ⟨j, hj, hb⟩ => by
    unfold fset at hb
    by_cases c : j = i
    · rw [if_pos c] at hb
      exact (sub b hb).imp (fun z => ⟨i, hi, z⟩) id
    · rw [if_neg c] at hb
      exact .inl ⟨j, hj, hb⟩
  pin := fun _ _ => rfl
  ro := fun j hj => by
    have c : j ≠ i := fun e => hi (e ▸ hj)
    unfold fset
    rw [if_neg c]
    exact ⟨rfl, by show (env1.set i (some d1))[j]? = _; rw [List.getElem?_set_ne (Ne.symm c)]⟩
/-- the promise of a def that may change what its first argument holds -/
def spM (K : PySem.W.Frag) (mg : Str → Option Value) (m : List D → Res (D × List D)) : Sp := fun vs H Q E => ∃ d0 ds v0 ws F0 G, vs = v0 :: ws ∧ RD K H d0 v0 F0 ∧ F0.Nodup ∧ RDs K H ds ws G ∧ (∀ b ∈ F0, b ∉ G) ∧
  Outc (m (d0 :: ds)) (fun p => ∀ d1, p.2 = [d1] → ∀ v G' F1 H', KeepX (· ∈ F0) H H' → RD K H' d1 v0 F1 → F1.Nodup → (∀ b ∈ F1, b ∈ F0 ∨ H b = none) → RD K H' p.1 v G' → G'.Nodup → (∀ b ∈ G', b ∉ F1 ∧ (b ∈ F0 ∨ H b = none)) → Q v H')
    fun n fs => ∀ cls dd H', KeepX (· ∈ F0) H H' → ErrAt K mg H' n fs cls dd → E cls dd H'
def okArgs (j : Nat) : List Arg → Bool
  | [] => true
  | .io _ :: _ => false
  | .ro k :: r => k != j && okArgs j r
  | .ex _ :: r => okArgs j r
theorem okArgs_ios {j : Nat} : ∀ {as : List Arg}, okArgs j as = true → ios as = []
  | [], _ => rfl
  | .io _ :: _, h => by cases h
  | .ro k :: r, h => okArgs_ios (as := r) (by unfold okArgs at h; simp only [Bool.and_eq_true] at h; exact h.2)
  | .ex _ :: r, h => okArgs_ios (as := r) h
theorem okArgs_inl {j : Nat} : ∀ {as : List Arg} {env : Env} {q : List (Nat ⊕ D) × Env}, okArgs j as = true → xArgs as env = .ok q → ∀ k, .inl k ∈ q.1 → k ≠ j
  | [], _, _, _, h, k, hk => by cases h; cases hk
  | .io _ :: _, _, _, h, _, _, _ => by cases h
  | .ro l :: r, env, q, h, e, k, hk => by
    unfold okArgs at h
    simp only [Bool.and_eq_true, bne_iff_ne] at h
    obtain ⟨d, _, e⟩ := bind_eq_ok e
    obtain ⟨q', e', e⟩ := bind_eq_ok e
    cases e
    rcases List.mem_cons.mp hk with z | z
    · cases z; exact h.1
    · exact okArgs_inl h.2 e' k z
  | .ex x :: r, env, q, h, e, k, hk => by
    obtain ⟨d, _, e⟩ := bind_eq_ok e
    obtain ⟨q', e', e⟩ := bind_eq_ok e
    cases e
    rcases List.mem_cons.mp hk with z | z
    · cases z
    · exact okArgs_inl (as := r) h e' k z
theorem eVar_ok {j : Nat} {env : Env} {d : D} (h : eVar j env = .ok d) : env[j]? = some (some d) := by
  unfold eVar at h
  split at h
  · cases h; assumption
  · cases h
theorem fill_rds (rs : RS K R H1 σ env1 Fs1) : ∀ {xs : List (Nat ⊕ D)} {vs : List V} {G : List Addr} {ds : List D}, AVs K H1 σ xs vs G → fill xs env1 = .ok ds → ∃ G2, RDs K H1 ds vs G2 ∧ ∀ b ∈ G2, b ∈ G ∨ ∃ k, .inl k ∈ xs ∧ b ∈ Fs1 k
  | [], _, _, _, ⟨e1, e2⟩, h => by cases h; exact ⟨[], ⟨e1, rfl⟩, fun b hb => (by cases hb)⟩
  | .inl j :: r, _, _, _, ⟨v, q, e, hj, hr⟩, h => by
    obtain ⟨d, h1, h⟩ := bind_eq_ok h
    obtain ⟨ds', h2, h⟩ := bind_eq_ok h
    cases h
    obtain ⟨G2, r2, s2⟩ := fill_rds rs hr h2
    obtain ⟨v', ev, rd⟩ := rs.rdl.2 j d (eVar_ok h1)
    rw [hj] at ev; cases ev
    refine ⟨Fs1 j ++ G2, ⟨v, q, Fs1 j, G2, e, rd, r2, rfl⟩, fun b hb => ?_⟩
    rcases List.mem_append.mp hb with hb | hb
    · exact .inr ⟨j, List.mem_cons_self, hb⟩
    · exact (s2 b hb).imp id fun ⟨k, hk, z⟩ => ⟨k, List.mem_cons_of_mem _ hk, z⟩
  | .inr d :: r, _, _, _, ⟨v, q, F1, F2, e, rd, hr, eG⟩, h => by
    obtain ⟨ds', h2, h⟩ := bind_eq_ok h
    cases h
    subst eG
    obtain ⟨G2, r2, s2⟩ := fill_rds rs hr h2
    refine ⟨F1 ++ G2, ⟨v, q, F1, G2, e, rd, r2, rfl⟩, fun b hb => ?_⟩
    rcases List.mem_append.mp hb with hb | hb
    · exact .inl (List.mem_append_left _ hb)
    · exact (s2 b hb).imp (List.mem_append_right _) fun ⟨k, hk, z⟩ => ⟨k, List.mem_cons_of_mem _ hk, z⟩
theorem eVar_ne (j : Nat) (env : Env) : ∀ m fs, eVar j env ≠ .err m fs := by
  intro m fs z
  unfold eVar at z
  split at z <;> cases z
theorem fill_ne : ∀ (xs : List (Nat ⊕ D)) (env : Env) m fs, fill xs env ≠ .err m fs
  | [], _ => by intro m fs z; cases z
  | .inl j :: r, env => ne_bind (eVar_ne j env) fun d => ne_bind (fill_ne r env) fun ds => by intro m fs z; cases z
  | .inr d :: r, env => ne_bind (fill_ne r env) fun ds => by intro m fs z; cases z
end
section
variable {X : Cx} {W : WX} {R : RL} {e : Expr} {es : List Expr} {as : List Arg} {pos : Pos}
theorem px_callM {x : Str} {p : Pos} {k : Nat} {f : Addr} {fd : FuncData} {ps : List Str} {mf : List D → Res (D × List D)} {j : Nat} (F : FnOk X.prog X.w X.K X.mg X.base (L2.CX X.prog X.w) k f fd ps (spM X.K X.mg mf)) (hr : Room k X.A) (tk : Takes X W) (hg : Gl X x) (hm : X.mg x = some (.ref f))
    (hk : PySem.W.keepIn X.K (.ref f) = true) (hb : Binds X.K fd ps []) (hj : j ∉ R) (hok : okArgs j as = true) (ha : PXG X W R (e :: es) (.io j :: as)) (hdb : (x == ("__debug__" : Str)) = false := by decide)
    (he : starEach (e :: es) X.env = (false, eval e X.env) :: starEach es X.env := by rfl) (hpl : (backTo pos (starEach es X.env)).any (·.1) = false := by rfl) : PX X W R (.Call (.Name x p) (e :: es) [] pos) (xCallM mf (.io j :: as)) :=
  (pe_callS F hr hg hm hk hb (fun σ => passAt tk σ) ha hdb he hpl).imp fun σ H Q ⟨env, Fs, rs, o⟩ =>
    ⟨env, Fs, rs, o.bnd.mono (fun p ep op vs G H1 Fs1 rs1 s1 av ow => by
      obtain ⟨dj, _, ep⟩ := bind_eq_ok ep
      obtain ⟨q, eq, ep⟩ := bind_eq_ok ep
      cases ep
      obtain ⟨ds', ef0, op⟩ := Outc.okOf op.bnd (fill_ne _ _)
      obtain ⟨d0, e0, ef1⟩ := bind_eq_ok ef0
      obtain ⟨ds, ef, e2⟩ := bind_eq_ok ef1
      cases e2
      obtain ⟨v0, ws, rfl, ev, av⟩ := av
      have e0 := eVar_ok e0
      obtain ⟨v', ev', rd⟩ := rs1.rdl.2 j d0 e0
      rw [ev] at ev'; cases ev'
      obtain ⟨G2, rds, sG⟩ := fill_rds rs1 av ef
      refine ⟨d0, ds, v0, ws, Fs1 j, G2, rfl, rd, (rs1.own j hj).1, rds, fun b hb hG => ?_, op.bnd.mono (fun r _ kr d1 ed1 v G' F1 H' kp r1 n1 sub1 rv nv hv => ?_) fun n gs z cls dd H' kp ea => ?_⟩
      · rcases sG b hG with z | ⟨l, hl, z⟩
        · exact ow.apart b z j hb
        · exact (rs1.own j hj).2 b hb l (okArgs_inl hok eq l hl) z
      · have ei : ios (.io j :: as) = [j] := by show j :: ios as = [j]; rw [okArgs_ios hok]
        rw [ei, ed1] at kr
        have kr : KX X.K R σ env Fs H Q (r.1, setS q.2 j d1) := kr
        refine kr v G' H' (fset Fs1 j F1) (rs1.mod hj e0 ev kp r1 n1 sub1) (s1.trans (Stp.mod hj kp sub1)) rv ⟨nv, fun b hb l => ?_, fun b hb => ?_⟩
        · unfold fset
          by_cases c : l = j
          · rw [if_pos c]; exact (hv b hb).1
          · rw [if_neg c]
            intro hl
            rcases (hv b hb).2 with z | z
            · exact (rs1.own j hj).2 b z l c hl
            · exact rs1.freeAt z l hl
        · rcases (hv b hb).2 with z | z
          · exact s1.sub b ⟨j, hj, z⟩
          · exact s1.back z
      · exact (EX.later z s1 rfl) cls dd H' σ (fun b ob eb nb => kp b ob eb fun hb => nb ⟨j, hj, hb⟩) (fun _ _ => rfl) rfl ea) fun _ _ z => z⟩
end
/-! ### defs -/
section
variable {K : PySem.W.Frag} {mg : Str → Option Value} {H : Hp}
theorem RDs.fs : ∀ {ds : List D} {vs : List V} {G : List Addr}, RDs K H ds vs G → ∃ Fs : Nat → List Addr, (∀ i d, ds[i]? = some d → ∃ v, vs[i]? = some v ∧ RD K H d v (Fs i)) ∧ (∀ i, ds.length ≤ i → Fs i = []) ∧ ∀ i b, b ∈ Fs i → b ∈ G
  | [], _, _, _ => ⟨fun _ => [], fun i d e => by simp at e, fun _ _ => rfl, fun _ _ h => by cases h⟩
  | d :: r, _, _, ⟨v, q, F1, F2, e, h, hr, eG⟩ => by
    subst e eG
    obtain ⟨Fs, h1, h2, h3⟩ := RDs.fs hr
    refine ⟨fun i => match i with
      | 0 => F1
      | i + 1 => Fs i, fun i d' ei => ?_, fun i hi => ?_, fun i b hb => ?_⟩
    · cases i with
      | zero => simp at ei; subst ei; exact ⟨v, by simp, h⟩
      | succ i => obtain ⟨u, hu, hr'⟩ := h1 i d' (by simpa using ei); exact ⟨u, by simpa using hu, hr'⟩
    · cases i with
      | zero => simp at hi
      | succ i => exact h2 i (by simpa using hi)
    · cases i with
      | zero => exact List.mem_append_left _ hb
      | succ i => exact List.mem_append_right _ (h3 i b hb)
theorem start_get {n : Nat} {ds : List D} {i : Nat} {d : D} (h : (VL.start n ds)[i]? = some (some d)) : ds[i]? = some d := by
  unfold VL.start at h
  by_cases l : i < ds.length
  · rw [List.getElem?_append_left (by simpa using l), List.getElem?_map] at h
    cases e : ds[i]? with
    | none => rw [e] at h; cases h
    | some x => rw [e] at h; cases h; rfl
  · rw [List.getElem?_append_right (by simpa using Nat.le_of_not_lt l)] at h
    rw [List.getElem?_replicate] at h
    split at h <;> cases h
theorem start_put {n : Nat} {ds : List D} {i : Nat} {d : D} (h : ds[i]? = some d) : (VL.start n ds)[i]? = some (some d) := by
  unfold VL.start
  have l : i < ds.length := by
    by_cases l : i < ds.length
    · exact l
    · rw [List.getElem?_eq_none_iff.mpr (by omega)] at h; cases h
  rw [List.getElem?_append_left (by simpa using l), List.getElem?_map, h]
  rfl
theorem startV_put {N : List Str} {vs : List V} {i : Nat} {d : V} (h : vs[i]? = some d) : (L2.start N vs)[i]? = some (some d) := by
  unfold L2.start
  have l : i < vs.length := by
    by_cases l : i < vs.length
    · exact l
    · rw [List.getElem?_eq_none_iff.mpr (by omega)] at h; cases h
  rw [List.getElem?_append_left (by simpa using l), List.getElem?_map, h]
  rfl
theorem rs_start {N : List Str} {ds : List D} {vs : List V} {Fs : Nat → List Addr} {own : List Nat} (hl : vs.length = ds.length) (h1 : ∀ i d, ds[i]? = some d → ∃ v, vs[i]? = some v ∧ RD K H d v (Fs i)) (h2 : ∀ i, ds.length ≤ i → Fs i = [])
    (ho : ∀ i ∈ own, (Fs i).Nodup ∧ ∀ b ∈ Fs i, ∀ j, j ≠ i → b ∉ Fs j) : RS K ⟨own⟩ H (L2.start N vs) (VL.start N.length ds) Fs := by
  refine ⟨⟨?_, fun i d e => ?_⟩, fun i hi => ?_, fun i hi => ho i (RL.of_ni hi)⟩
  · unfold VL.start L2.start
    simp [hl]
  · obtain ⟨v, ev, rd⟩ := h1 i d (start_get e)
    exact ⟨v, startV_put ev, rd⟩
  · by_cases l : i < ds.length
    · exact absurd (start_put (by simp [l])) (hi ds[i])
    · exact h2 i (by omega)
end
section
variable {P : Program} {w : World} {K : PySem.W.Frag} {mg : Str → Option Value} {base : Heap}
/-- a def that changes nothing -/
theorem fn_P {N ps : List Str} {x : Str} {st : Stmt} {f : Addr} {fd : FuncData} {np n : Nat} {body : S} {k : Nat} {own : List Nat} (F : Fun K x x st f fd) (Sc : FnScope N ps (defScope st)) (hnp : ps.length = np) (hn : N.length = n) (ho : ∀ i ∈ own, np ≤ i)
    (hb : ∀ (cdv : Value) (A : Around) (outer : List PySem.Env) (s : Shared) (H : Hp) (E : XK), Room k (cxOf (L2.CX P w) P w K mg base N x (defScope st) f cdv A outer s H E).A → PSB (cxOf (L2.CX P w) P w K mg base N x (defScope st) f cdv A outer s H E) (fun cls d _ H => E cls d H) ⟨own⟩ [] (defBody st) body) :
    FnOk P w K mg base (L2.CX P w) (k + 1) f fd ps (spP K mg (fnP np n body)) := F.okX Sc (fun vs H Q E ⟨ds, G, rds, o⟩ => by
  obtain ⟨e, _⟩ := Outc.need o
  rw [rds.length, e, hnp]) fun cdv A outer s H vs Q E hr ⟨ds, G, rds, o⟩ => by
  refine ⟨_, hb cdv A outer s H E hr, ?_⟩
  obtain ⟨el, o⟩ := Outc.need o
  obtain ⟨Fs, h1, h2, h3⟩ := rds.fs
  have fe : ∀ i ∈ own, Fs i = [] := fun i hi => h2 i (by rw [el]; exact ho i hi)
  have noO : ∀ b, ¬ inO ⟨own⟩ Fs b := fun b ⟨i, hi, hb⟩ => by rw [fe i (RL.of_ni hi)] at hb; cases hb
  have sm : ∀ {H' : Hp}, KeepX (inO ⟨own⟩ Fs) H H' → Same H H' := fun kp b ob eb => kp b ob eb (noO b)
  subst hn
  refine ⟨VL.start N.length ds, Fs, rs_start rds.length h1 h2 fun i hi => by rw [fe i hi]; exact ⟨List.nodup_nil, fun _ h => (by cases h)⟩, o.bnd.mono (fun p _ kk => ?_) fun n gs z cls dd H' σ' kp _ _ ea => z cls dd H' (sm kp) ea⟩
  obtain ⟨fl, env⟩ := p
  cases fl with
  | nx => exact fun σ' H' Fs' _ st _ => KN.fz' (show KN K H Q (.fz .non) from kk) (sm st.keep) rfl
  | rt d => exact fun v σ' G' H' Fs' _ st _ rd ow => (show KN K H Q d from kk) v G' H' (sm st.keep) rd ow.nd fun b hb => (ow.orig b hb).resolve_left (noO b)
  | bk => exact kk.elim
  | ct => exact kk.elim
/-- a def that may change its first argument -/
theorem fn_M {N ps : List Str} {x : Str} {st : Stmt} {f : Addr} {fd : FuncData} {np n : Nat} {body : S} {k : Nat} {own : List Nat} (F : Fun K x x st f fd) (Sc : FnScope N ps (defScope st)) (hnp : ps.length = np) (hn : N.length = n) (h0 : 0 ∈ own) (ho : ∀ i ∈ own, i = 0 ∨ np ≤ i)
    (hb : ∀ (cdv : Value) (A : Around) (outer : List PySem.Env) (s : Shared) (H : Hp) (E : XK), Room k (cxOf (L2.CX P w) P w K mg base N x (defScope st) f cdv A outer s H E).A → PSB (cxOf (L2.CX P w) P w K mg base N x (defScope st) f cdv A outer s H E) (fun cls d _ H => E cls d H) ⟨own⟩ [0] (defBody st) body) :
    FnOk P w K mg base (L2.CX P w) (k + 1) f fd ps (spM K mg (fnM np n [0] body)) := F.okX Sc (fun vs H Q E ⟨d0, ds, v0, ws, F0, G, ev, r0, n0, rds, dj, o⟩ => by
  obtain ⟨e, _⟩ := Outc.need o
  rw [ev, List.length_cons, rds.length, hnp]
  exact e) fun cdv A outer s H vs Q E hr ⟨d0, ds, v0, ws, F0, G, ev, r0, n0, rds, dj, o⟩ => by
  refine ⟨_, hb cdv A outer s H E hr, ?_⟩
  subst ev
  obtain ⟨el, o⟩ := Outc.need o
  obtain ⟨Fr, h1, h2, h3⟩ := rds.fs
  have el : ds.length + 1 = np := el
  let Fs : Nat → List Addr := fun i => match i with
    | 0 => F0
    | i + 1 => Fr i
  have fe : ∀ i ∈ own, i ≠ 0 → Fs i = [] := fun i hi hz => by
    cases i with
    | zero => exact absurd rfl hz
    | succ i => exact h2 i (by have := (ho (i + 1) hi).resolve_left hz; omega)
  have inO0 : ∀ b, inO ⟨own⟩ Fs b → b ∈ F0 := fun b ⟨i, hi, hb⟩ => by
    by_cases hz : i = 0
    · subst hz; exact hb
    · rw [fe i (RL.of_ni hi) hz] at hb; cases hb
  have kF : ∀ {H' : Hp}, KeepX (inO ⟨own⟩ Fs) H H' → KeepX (· ∈ F0) H H' := fun kp b ob eb nb => kp b ob eb fun h => nb (inO0 b h)
  subst hn
  have rs0 : RS K ⟨own⟩ H (L2.start N (v0 :: ws)) (VL.start N.length (d0 :: ds)) Fs := rs_start (by simp [rds.length]) (fun i d e => by
    cases i with
    | zero => simp at e; subst e; exact ⟨v0, by simp, r0⟩
    | succ i => obtain ⟨v, e1, e2⟩ := h1 i d (by simpa using e); exact ⟨v, by simpa using e1, e2⟩) (fun i hi => by
    cases i with
    | zero => simp at hi
    | succ i => exact h2 i (by simpa using hi)) fun i hi => by
    by_cases hz : i = 0
    · subst hz
      refine ⟨n0, fun b hb j hj hb' => ?_⟩
      cases j with
      | zero => exact hj rfl
      | succ j => exact dj b hb (h3 j b hb')
    · rw [fe i hi hz]; exact ⟨List.nodup_nil, fun _ h => (by cases h)⟩
  have e0 : (L2.start N (v0 :: ws))[0]? = some (some v0) := startV_put (by simp)
  have fin : ∀ {d : D} {env : Env} {σ' : St} {v : V} {G' : List Addr} {H' : Hp} {Fs' : Nat → List Addr}, Outc ((slots [0] env).bind fun os => Res.ok (d, os)) (fun p => ∀ d1, p.2 = [d1] → ∀ v G' F1 H', KeepX (· ∈ F0) H H' → RD K H' d1 v0 F1 → F1.Nodup → (∀ b ∈ F1, b ∈ F0 ∨ H b = none) → RD K H' p.1 v G' → G'.Nodup → (∀ b ∈ G', b ∉ F1 ∧ (b ∈ F0 ∨ H b = none)) → Q v H') (fun n fs => ∀ cls dd H', KeepX (· ∈ F0) H H' → ErrAt K mg H' n fs cls dd → E cls dd H') →
      RS K ⟨own⟩ H' σ' env Fs' → Stp ⟨own⟩ [0] (L2.start N (v0 :: ws)) (VL.start N.length (d0 :: ds)) Fs H σ' env Fs' H' → RD K H' d v G' → Own ⟨own⟩ Fs H Fs' G' → Q v H' := fun {d env σ' v G' H' Fs'} o rs st rd ow => by
    have o : Outc (((eVar 0 env).bind fun d => (Res.ok []).bind fun ds => Res.ok (d :: ds)).bind fun os => Res.ok (d, os)) _ _ := o
    obtain ⟨d1, e1, o⟩ := Outc.okOf (Outc.bnd (Outc.bnd o)) (eVar_ne 0 env)
    obtain ⟨v1, ev1, r1⟩ := rs.rdl.2 0 d1 (eVar_ok e1)
    rw [st.pin 0 (.inl (by simp)), e0] at ev1
    cases ev1
    exact (show ∀ d1', [d1] = [d1'] → _ from o) d1 rfl v G' (Fs' 0) H' (kF st.keep) r1 (rs.own 0 (RL.ni h0)).1 (fun b hb => (st.sub b ⟨0, RL.ni h0, hb⟩).imp (inO0 b) id) rd ow.nd fun b hb => ⟨ow.apart b hb 0, (ow.orig b hb).imp (inO0 b) id⟩
  refine ⟨VL.start N.length (d0 :: ds), Fs, rs0, o.bnd.mono (fun p _ kk => ?_) fun n gs z cls dd H' σ' kp _ _ ea => z cls dd H' (kF kp) ea⟩
  obtain ⟨fl, env⟩ := p
  cases fl with
  | nx => exact fun σ' H' Fs' rs st _ => fin (d := .fz .non) kk rs st ⟨rfl, rfl⟩ .nil
  | rt d => exact fun v σ' G' H' Fs' rs st _ rd ow => fin kk rs st rd ow
  | bk => exact kk.elim
  | ct => exact kk.elim
end
end VL
set_option Elab.async false
set_option linter.all false
set_option maxRecDepth 100000
set_option maxHeartbeats 4000000
/-! VLW: comprehensions with effects. -/
namespace VL
open PySem L2
section
variable {K : PySem.W.Frag} {mg : Str → Option Value} {R : RL} {P own : List Nat} {H H1 H2 H' : Hp} {σ σ1 σ2 : St} {env env1 env2 : Env} {Fs Fs1 Fs2 : Nat → List Addr}
/-- what is no slot's stays no slot's -/
theorem apart_step {b : Addr} (hb : MutAt H1 b) (ap : ∀ j, b ∉ Fs1 j) (s : Stp R P σ1 env1 Fs1 H1 σ2 env2 Fs2 H2) : ∀ j, b ∉ Fs2 j := fun j hj => by
  by_cases hR : j ∈ R
  · exact ap j (by rw [← (s.ro j hR).1]; exact hj)
  · rcases s.sub b ⟨j, hR, hj⟩ with ⟨i, _, hi⟩ | z
    · exact ap i hi
    · obtain ⟨ob, e, _⟩ := hb
      rw [z] at e; cases e
theorem mut_step {b : Addr} (hb : MutAt H1 b) (ap : ∀ j, b ∉ Fs1 j) (s : Stp R P σ1 env1 Fs1 H1 σ2 env2 Fs2 H2) : MutAt H2 b := by
  obtain ⟨o, e, m⟩ := hb
  exact ⟨o, s.keep b o e fun ⟨i, _, hi⟩ => ap i hi, m⟩
theorem RS.keepX {Z : Addr → Prop} (rs : RS K R H σ env Fs) (kp : KeepX Z H H') (hZ : ∀ b, Z b → MutAt H b) (ap : ∀ b, Z b → ∀ j, b ∉ Fs j) : RS K R H' σ env Fs := ⟨⟨rs.rdl.1, fun j d e => by
  obtain ⟨v, ev, r⟩ := rs.rdl.2 j d e
  exact ⟨v, ev, r.keep kp hZ fun b hb z => ap b z j hb⟩⟩, rs.non, rs.own⟩
/-- a state with the block's slots forgotten on both sides -/
theorem RS.wipe2 (rs : RS K R H σ env Fs) (is : List Nat) : RS K R H (L2.wipe σ is) (VL.wipe is env) (wipeF is Fs) := by
  have r := rs.wipe is
  refine ⟨⟨by rw [L2.wipe_length]; exact r.rdl.1, fun j d e => ?_⟩, r.non, r.own⟩
  obtain ⟨v, ev, rd⟩ := r.rdl.2 j d e
  exact ⟨v, by rw [wipe_out (wipe_get e).2]; exact ev, rd⟩
theorem Stp.wipe2 (s : Stp R [] σ env Fs H σ1 env1 Fs1 H1) (is : List Nat) (hi : ∀ i ∈ is, i ∉ R) : Stp R [] σ env Fs H (L2.wipe σ1 is) (VL.wipe is env1) (wipeF is Fs1) H1 :=
  let z := s.wipe is hi
  ⟨z.keep, z.sub, fun i h => by
    have hR : i ∈ R := h.resolve_left (by simp)
    rw [wipe_out fun hm => hi i hm hR]
    exact s.pin i h, z.ro⟩
theorem Stp.upd {D : Addr} {o : HO} (s : Stp R P σ env Fs H σ1 env1 Fs1 H1) (hD : H D = none) : Stp R P σ env Fs H σ1 env1 Fs1 (upd H1 D o) :=
  ⟨fun b ob e n => by rw [upd_ne (ne_of_none e hD)]; exact s.keep b ob e n, s.sub, s.pin, s.ro⟩
theorem wipeF_apart {b : Addr} {is : List Nat} (ap : ∀ j, b ∉ Fs j) : ∀ j, b ∉ wipeF is Fs j := fun j => by
  by_cases c : j ∈ is
  · rw [wipeF_in c]; exact List.not_mem_nil
  · rw [wipeF_out c]; exact ap j
theorem wipe_none {env : Env} {i : Nat} : ∀ {vs : List Nat}, i ∈ vs → (VL.wipe vs env).set i none = VL.wipe vs env
  | [], h => by cases h
  | v :: vs, h => by
    show ((VL.wipe vs env).set v none).set i none = (VL.wipe vs env).set v none
    by_cases e : i = v
    · subst e; rw [List.set_set]
    · rw [List.set_comm _ _ (Ne.symm e), wipe_none ((List.mem_cons.mp h).resolve_left e)]
theorem wipe_idem' {env : Env} : ∀ {ws vs : List Nat}, (∀ w ∈ ws, w ∈ vs) → VL.wipe ws (VL.wipe vs env) = VL.wipe vs env
  | [], _, _ => rfl
  | w :: ws, vs, h => by
    show (VL.wipe ws (VL.wipe vs env)).set w none = _
    rw [wipe_idem' fun q hq => h q (List.mem_cons_of_mem _ hq), wipe_none (h w List.mem_cons_self)]
theorem wipe_idem (is : List Nat) (env : Env) : VL.wipe is (VL.wipe is env) = VL.wipe is env := wipe_idem' fun _ h => h
/-! ### the target of such a block -/
def rGX (K : PySem.W.Frag) (R : RL) (t : Tg) : TG := fun v σ H Q => ∃ env Fs f, RS K R H σ env Fs ∧ RF K H f v ∧
  Outc (tgSet t (.fz f) env) (fun env' => ∀ σ' Fs', RS K R H σ' env' Fs' → Stp R [] σ env Fs H σ' env' Fs' H → σ'.length = σ.length → (∀ vs, (∀ i ∈ tgs t, i ∈ vs) → L2.wipe σ' vs = L2.wipe σ vs) → Q σ' H) (fun _ _ => False)
end
section
variable {X : Cx} {R : RL} {pos : Pos}
theorem pgx_nm {i : Nat} {x : Str} (hR : i ∉ R) (h : PG X (.Name x pos) (gName i)) : PG X (.Name x pos) (rGX X.K R (.nm i)) := ⟨fun pins s σ H v u Q I r ⟨env, Fs, f, rs, rf, o⟩ => h.run pins s σ H v u Q I r
  ((show ∀ σ' Fs', _ from o) _ _ (RS.set (d := .fz f) (v := v) (G := []) rs ⟨rf, rfl⟩ List.nodup_nil (fun _ h => (by cases h)) hR) (Stp.refl.set (fun _ h => (by cases h)) hR (by simp)) (List.length_set ..) fun vs hv => l2wipe_set (hv i (by simp [tgs])))⟩
def rGsX (K : PySem.W.Frag) (R : RL) (is : List Nat) : TGs := fun vs σ H Q => ∃ env Fs fs, RS K R H σ env Fs ∧ RFs K H fs vs ∧ Outc (setMany is fs env) (fun env' => ∀ σ' Fs', RS K R H σ' env' Fs' → Stp R [] σ env Fs H σ' env' Fs' H → σ'.length = σ.length → (∀ ws, (∀ i ∈ is, i ∈ ws) → L2.wipe σ' ws = L2.wipe σ ws) → Q σ' H) (fun _ _ => False)
theorem pgxs_nil : PGs X [] (rGsX X.K R []) := ⟨fun pins s σ H vs us Q I r ⟨env, Fs, fs, rs, rf, o⟩ => by
  cases fs with
  | nil =>
    cases rf
    exact pgs_nil.run pins s σ H [] us Q I r ⟨rfl, (show ∀ σ' Fs', _ from o) σ Fs rs .refl rfl fun _ _ => rfl⟩
  | cons f fs => exact o.elim⟩
theorem pgxs_cons {i : Nat} {is : List Nat} {x : Str} {es : List Expr} (hR : i ∉ R) (h : PG X (.Name x pos) (gName i)) (hr : PGs X es (rGsX X.K R is)) (hs : (assignEach (.Name x pos :: es) X.env).map (·.2) = assign (.Name x pos) X.env :: (assignEach es X.env).map (·.2) := by rfl) : PGs X (.Name x pos :: es) (rGsX X.K R (i :: is)) := ⟨fun pins s σ H vs us Q I r ⟨env, Fs, fs, rs, rf, o⟩ => by
  cases fs with
  | nil => exact o.elim
  | cons f fs =>
    obtain ⟨v, q, rfl, h1, h2⟩ := rf
    have rs1 : RS X.K R H (σ.set i (some v)) (setS env i (.fz f)) (fset Fs i (slotF env i [])) := RS.set (d := .fz f) (v := v) (G := []) rs ⟨h1, rfl⟩ List.nodup_nil (fun _ h => (by cases h)) hR
    have s1 : Stp R [] σ env Fs H (σ.set i (some v)) (setS env i (.fz f)) (fset Fs i (slotF env i [])) H := Stp.refl.set (fun _ h => (by cases h)) hR (by simp)
    exact (pgs_cons h hr hs).run pins s σ H (v :: q) us Q I r ⟨v, q, rfl, setS env i (.fz f), _, fs, rs1, h2, Outc.mono (show Outc (setMany is fs (setS env i (.fz f))) _ _ from o) (fun env' _ k σ' Fs' R' s' l w => k σ' Fs' R' (s1.trans s') (l.trans (List.length_set ..)) fun ws hw => by
      rw [w ws fun j hj => hw j (List.mem_cons_of_mem _ hj), l2wipe_set (hw i List.mem_cons_self)]) fun _ _ z => z⟩⟩
theorem pgx_tp {es : List Expr} {k : Nat} {is : List Nat} (hc : X.calm = true) (h : PGs X es (rGsX X.K R is)) (hl : is.length = es.length)
    (hn : (assignEach es X.env).length = es.length := by rfl) (hst : (assignEach es X.env).findIdx? (·.1) = none := by rfl) : PG X (.Tuple es k pos) (rGX X.K R (.tp is)) := ⟨fun pins s σ H v u Q I r ⟨env, Fs, f, rs, rf, o⟩ => by
  refine (pg_tup (n := es.length) hc h hn hst).run pins s σ H v u Q I r ?_
  have go : ∀ {fs : List FD}, (∃ a vs, v = .ref a ∧ SqT X.K H a vs ∧ RFs X.K H fs vs) → Outc (setMany is fs env) (fun env' => ∀ σ' Fs', RS X.K R H σ' env' Fs' → Stp R [] σ env Fs H σ' env' Fs' H → σ'.length = σ.length → (∀ ws, (∀ i ∈ is, i ∈ ws) → L2.wipe σ' ws = L2.wipe σ ws) → Q σ' H) (fun _ _ => False) → gTup X.K es.length (rGsX X.K R is) v σ H Q := fun {fs} ⟨a, vs, e, ha, rf⟩ o => by
    obtain ⟨env', eenv, _⟩ := Outc.okOf o (setMany_ne _ _ _)
    exact ⟨a, vs, e, ha, by rw [rf.length, setMany_len eenv, hl], env, Fs, fs, rs, rf, o⟩
  cases f with
  | tup fs => exact go rf.sqt o
  | cup fs => exact go rf o
  | _ => exact o.elim⟩
end
theorem back_len : ∀ (is : List Nat) (e0 e : Env), (VL.back is e0 e).length = e.length
  | [], _, _ => rfl
  | i :: is, e0, e => by
    unfold VL.back
    split
    · rw [List.length_set, back_len is]
    · exact back_len is e0 e
theorem back_out {e0 e : Env} {j : Nat} : ∀ {is : List Nat}, j ∉ is → (VL.back is e0 e)[j]? = e[j]?
  | [], _ => rfl
  | i :: is, h => by
    have h1 : i ≠ j := fun z => h (by rw [z]; exact List.mem_cons_self)
    have h2 : j ∉ is := fun z => h (List.mem_cons_of_mem _ z)
    unfold VL.back
    split
    · rw [List.getElem?_set_ne h1, back_out h2]
    · exact back_out h2
theorem back_in {e0 e : Env} {j : Nat} (hl : e.length = e0.length) : ∀ {is : List Nat}, j ∈ is → (VL.back is e0 e)[j]? = e0[j]?
  | i :: is, h => by
    unfold VL.back
    by_cases c : i = j
    · subst c
      split
      · rename_i o eo
        have l : i < e0.length := by
          by_cases l : i < e0.length
          · exact l
          · rw [List.getElem?_eq_none_iff.mpr (by omega)] at eo; cases eo
        rw [List.getElem?_set_self (by rw [back_len, hl]; exact l), eo]
      · rename_i eo
        rw [eo]
        exact List.getElem?_eq_none_iff.mpr (by rw [back_len, hl]; exact List.getElem?_eq_none_iff.mp eo)
    · have h2 : j ∈ is := (List.mem_cons.mp h).resolve_left (Ne.symm c)
      split
      · rw [List.getElem?_set_ne c, back_in hl h2]
      · exact back_in hl h2
section
variable {K : PySem.W.Frag} {mg : Str → Option Value} {W : WX} {R : RL} {own : List Nat} {src : Env → Res (List D × Env)} {tg : Tg} {test elt : MX}
/-- the end of the block: the outer slots again -/
theorem back_end {σ : St} {env1 env2 : Env} {Fs1 Fs2 : Nat → List Addr} {H1 H2 : Hp} (rs1 : RS K R H1 σ env1 Fs1) (ho : ∀ i ∈ own, i ∉ R) (rs2 : RS K R H2 (L2.wipe σ own) (VL.wipe own env2) (wipeF own Fs2))
    (s : Stp R [] (L2.wipe σ own) (VL.wipe own env1) (wipeF own Fs1) H1 (L2.wipe σ own) (VL.wipe own env2) (wipeF own Fs2) H2) :
    RS K R H2 σ (VL.back own env1 (VL.wipe own env2)) (fun j => if j ∈ own then Fs1 j else Fs2 j) ∧ Stp R [] σ env1 Fs1 H1 σ (VL.back own env1 (VL.wipe own env2)) (fun j => if j ∈ own then Fs1 j else Fs2 j) H2 := by
  have inW : ∀ b, inO R (wipeF own Fs1) b → ∃ i, i ∉ R ∧ i ∉ own ∧ b ∈ Fs1 i := fun b ⟨i, hi, hb⟩ => by
    by_cases c : i ∈ own
    · rw [wipeF_in c] at hb; cases hb
    · rw [wipeF_out c] at hb; exact ⟨i, hi, c, hb⟩
  -- what an own slot holds is no one's in the block
  have ownA : ∀ j ∈ own, ∀ b ∈ Fs1 j, ∀ k, k ∉ own → b ∉ Fs2 k := fun j hj b hb k hk hb2 => by
    by_cases hR : k ∈ R
    · have e := (s.ro k hR).1
      rw [wipeF_out hk, wipeF_out hk] at e
      rw [e] at hb2
      exact (rs1.own j (ho j hj)).2 b hb k (fun z => hk (z ▸ hj)) hb2
    · rcases s.sub b ⟨k, hR, by rw [wipeF_out hk]; exact hb2⟩ with z | z
      · obtain ⟨i, _, hio, hi⟩ := inW b z
        exact (rs1.own j (ho j hj)).2 b hb i (fun z => hio (z ▸ hj)) hi
      · obtain ⟨ob, e, _⟩ := rs1.mut hb
        rw [z] at e; cases e
  have el : (VL.wipe own env2).length = env1.length := by
    rw [rs2.rdl.1, L2.wipe_length, rs1.rdl.1]
  refine ⟨⟨⟨by rw [back_len, el]; exact rs1.rdl.1, fun j d e => ?_⟩, fun j hj => ?_, fun j hj => ?_⟩, fun b o e n => ?_, fun b ⟨j, hj, hb⟩ => ?_, fun _ _ => rfl, fun j hj => ?_⟩
  · by_cases c : j ∈ own
    · rw [back_in el c] at e
      obtain ⟨v, ev, rd⟩ := rs1.rdl.2 j d e
      refine ⟨v, ev, ?_⟩
      simp only [c, if_true]
      refine rd.keep s.keep (fun b hb => ?_) fun b hb hO => ?_
      · obtain ⟨i, _, _, hi⟩ := inW b hb
        exact rs1.mut hi
      · obtain ⟨i, _, hio, hi⟩ := inW b hO
        exact (rs1.own j (ho j c)).2 b hb i (fun z => hio (z ▸ c)) hi
    · rw [back_out c] at e
      obtain ⟨v, ev, rd⟩ := rs2.rdl.2 j d e
      rw [wipe_out c] at ev
      rw [wipeF_out c] at rd
      refine ⟨v, ev, ?_⟩
      simp only [c, if_false]
      exact rd
  · by_cases c : j ∈ own
    · simp only [c, if_true]
      exact rs1.non j fun d e => hj d (by rw [back_in el c]; exact e)
    · simp only [c, if_false]
      have := rs2.non j fun d e => hj d (by rw [back_out c]; exact e)
      rw [wipeF_out c] at this
      exact this
  · by_cases c : j ∈ own
    · simp only [c, if_true]
      refine ⟨(rs1.own j hj).1, fun b hb k hk => ?_⟩
      by_cases c' : k ∈ own
      · simp only [c', if_true]; exact (rs1.own j hj).2 b hb k hk
      · simp only [c', if_false]; exact ownA j c b hb k c'
    · simp only [c, if_false]
      have z := rs2.own j hj
      rw [wipeF_out c] at z
      refine ⟨z.1, fun b hb k hk => ?_⟩
      by_cases c' : k ∈ own
      · simp only [c', if_true]; exact fun h => ownA k c' b h j c hb
      · simp only [c', if_false]
        have := z.2 b hb k hk
        rw [wipeF_out c'] at this
        exact this
  · exact s.keep b o e fun h => by
      obtain ⟨i, hi, _, hb⟩ := inW b h
      exact n ⟨i, hi, hb⟩
  · by_cases c : j ∈ own
    · simp only [c, if_true] at hb
      exact .inl ⟨j, hj, hb⟩
    · simp only [c, if_false] at hb
      rcases s.sub b ⟨j, hj, by rw [wipeF_out c]; exact hb⟩ with z | z
      · obtain ⟨i, hi, _, hb⟩ := inW b z
        exact .inl ⟨i, hi, hb⟩
      · exact .inr z
  · have c : j ∉ own := fun h => ho j h hj
    have z := s.ro j hj
    rw [wipeF_out c, wipeF_out c, wipe_get_ne c, wipe_get_ne c] at z
    simp only [c, if_false]
    exact ⟨z.1, by rw [back_out c, wipe_get_ne c]; exact z.2⟩
theorem ex0 {α : Type} {σ : St} {Fs : Nat → List Addr} {H : Hp} {r : Res α} {ok : α → Prop} (h : Outc r ok (fun _ _ => False)) : Outc r ok (EX K mg W0 R σ Fs H) := h.mono (fun _ _ k => k) fun _ _ z => z.elim
structure XTestOk (K : PySem.W.Frag) (mg : Str → Option Value) (R : RL) (test : MX) (tt : TT) : Prop where
  of : ∀ σ H Q, rXT K mg W0 R test σ H Q → tt σ H Q
theorem xtest_yes : XTestOk K mg R xYes tYes := ⟨fun σ H Q ⟨env, Fs, rs, o⟩ => by
  obtain ⟨k, e, q⟩ := (show KT1 K R σ env Fs H Q (.fz (.bl true), env) from o)
  cases e
  exact q H Fs rs .refl⟩
theorem xtest_if : XTestOk K mg R test (rXT K mg W0 R test) := ⟨fun _ _ _ h => h⟩
theorem xcomp_imp {tt : TT} (ht : XTestOk K mg R test tt) (hsub : ∀ i ∈ tgs tg, i ∈ own) (ho : ∀ i ∈ own, i ∉ R) : ∀ σ H Q, rX K mg W R (xComp own src tg test elt) σ H Q → tLc (rXI K mg W R src) (rGX K R tg) tt (rX K mg W0 R elt) own σ H Q := by
  rintro σ H Q ⟨env, Fs, rs, o⟩
  refine ⟨env, Fs, rs, o.bnd.mono (fun p _ od J vs G F Pp H1 Fs1 rs1 s1 S pv D hD => ?_) fun _ _ z => z⟩
  obtain ⟨ds, env1⟩ := p
  obtain ⟨zl, od⟩ := Outc.need od
  have o1 := Outc.noErr od.bnd
  have fD : D ∉ F := fun hm => by
    obtain ⟨ob, e, _⟩ := (S.rds H1 S.now).1 D hm
    rw [hD] at e; cases e
  have len := (S.rds H1 S.now).2.length
  have len : vs.length = ds.length := len
  have zl : ds.length ≤ 16777216 := zl
  have rsW := rs1.wipe2 own
  have dFs1 : ∀ j, D ∉ Fs1 j := rs1.freeAt hD
  let Inv0 : Hp → List VL.D → List V → List Addr → Env → (Nat → List Addr) → Prop := fun H2 acc accV GA env2 Fs2 =>
    RS K R H2 (L2.wipe σ own) (VL.wipe own env2) (wipeF own Fs2) ∧ Stp R [] (L2.wipe σ own) (VL.wipe own env1) (wipeF own Fs1) H1 (L2.wipe σ own) (VL.wipe own env2) (wipeF own Fs2) H2 ∧ Pp H2 ∧ (∀ b ∈ F, ∀ j, b ∉ wipeF own Fs2 j) ∧
    H2 D = some (.lst accV) ∧ (∀ j, D ∉ wipeF own Fs2 j) ∧ RDs K H2 acc accV GA ∧ GA.Nodup ∧ D ∉ GA ∧ (∀ b ∈ GA, (∀ j, b ∉ wipeF own Fs2 j) ∧ (inO R (wipeF own Fs1) b ∨ H1 b = none))
  refine ⟨fun i m H2 => m = vs.length - i ∧ i ≤ vs.length ∧ ∃ acc accV GA env2 Fs2, Inv0 H2 acc accV GA env2 Fs2 ∧ acc.length ≤ i ∧ (VL.wipe own env2 = env2 ∨ 0 < i ∨ True) ∧
    Outc (xcompL own tg test elt (ds.drop i) env2) (fun xs => KX K R σ env Fs H Q (.lst (acc ++ xs.1), VL.back own env1 (VL.wipe own xs.2))) (fun _ _ => False),
    ⟨vs.length, by simp, Nat.zero_le _, [], [], [], VL.wipe own env1, Fs1, ⟨?_, ?_, ?_, fun b hb => wipeF_apart (pv b hb), upd_same, wipeF_apart dFs1, ⟨rfl, rfl⟩, List.nodup_nil, by simp, fun b hb => by cases hb⟩, Nat.le_refl _, .inr (.inr trivial), o1⟩, ?_⟩
  · have e : VL.wipe own (VL.wipe own env1) = VL.wipe own env1 := wipe_idem own env1
    rw [e]
    exact rsW.same (same_upd hD)
  · have e : VL.wipe own (VL.wipe own env1) = VL.wipe own env1 := wipe_idem own env1
    rw [e]
    exact .same (same_upd hD)
  · exact S.keep H1 _ (fun _ => False) (.same (same_upd hD)) noF (fun _ _ z => z) S.now
  · rintro i m H2 ⟨rfl, hi, acc, accV, GA, env2, Fs2, ⟨rs2, s2, p2, fF, hD2, dF, racc, nGA, dGA, fGA⟩, lacc, _, oo⟩
    by_cases hlt : i < vs.length
    · refine .inr ⟨S.walk.go i H2 p2 hlt, fun H' => i + 1 ≤ vs.length ∧ ∃ acc accV GA env2 Fs2, Inv0 H' acc accV GA env2 Fs2 ∧ acc.length ≤ i + 1 ∧ (VL.wipe own env2 = env2 ∨ 0 < i + 1 ∨ True) ∧
        Outc (xcompL own tg test elt (ds.drop (i + 1)) env2) (fun xs => KX K R σ env Fs H Q (.lst (acc ++ xs.1), VL.back own env1 (VL.wipe own xs.2))) (fun _ _ => False), fun H' h => ⟨vs.length - (i + 1), by omega, rfl, h⟩, fun x H' y => ?_⟩
      obtain ⟨rfl, hx⟩ := S.walk.yld i H2 x H' p2 hlt y
      have hd : i < ds.length := by omega
      have rds := (S.rds H' p2).2
      obtain ⟨v, F', hv, rd, subF, _⟩ := rds.get (i := i) (f := ds[i]) (by simp [hd])
      have ev : v = x := Option.some.inj (hv.symm.trans hx)
      subst ev
      have ed : ds.drop i = ds[i] :: ds.drop (i + 1) := List.drop_eq_getElem_cons hd
      rw [ed] at oo
      have oo : Outc (ds[i].fz?.bind fun f => (tgSet tg (.fz f) (VL.wipe own env2)).bind fun env1 => (test env1).bind fun t => t.1.bool?.bind fun k =>
        if k = true then (elt t.2).bind fun x => (xcompL own tg test elt (ds.drop (i + 1)) x.2).bind fun xs => .ok (x.1 :: xs.1, xs.2) else xcompL own tg test elt (ds.drop (i + 1)) t.2) _ _ := oo
      obtain ⟨f, ef, oo⟩ := Outc.fz oo.bnd
      rw [ef] at rd
      obtain ⟨env', eenv, oo⟩ := Outc.okOf oo.bnd (tgSet_ne _ _ _)
      refine ⟨VL.wipe own env2, wipeF own Fs2, f, rs2, rd.1, ?_⟩
      rw [eenv]
      intro σ3 Fs3 rs3 s3 l3 w3
      have eW : L2.wipe σ3 own = L2.wipe σ own := by
        rw [w3 own (by intro j hj; exact hsub j hj), l2wipe_idem (fun _ h => h)]
      refine ⟨eW, ht.of _ _ _ ⟨env', Fs3, rs3, (ex0 oo.bnd).mono (fun t _ ot => ?_) fun _ _ z => z⟩⟩
      obtain ⟨k, ek, ok⟩ := Outc.bool ot.bnd
      refine ⟨k, ek, fun H3 Fs4 rs4 s4 => ?_⟩
      have s24 := s3.trans s4
      have dF3 : ∀ j, D ∉ Fs3 j := apart_step ⟨_, hD2, trivial⟩ dF s3
      have fm : ∀ b ∈ F, MutAt H' b := (S.rds H' p2).1
      have keepS : ∀ {σ5 : St} {env5 : Env} {Fs5 : Nat → List Addr} {H5 : Hp}, Stp R [] (L2.wipe σ own) (VL.wipe own env2) (wipeF own Fs2) H' σ5 env5 Fs5 H5 → Pp H5 ∧ (∀ b ∈ F, ∀ j, b ∉ Fs5 j) ∧ H5 D = some (.lst accV) ∧ (∀ j, D ∉ Fs5 j) ∧ RDs K H5 acc accV GA ∧ (∀ b ∈ GA, ∀ j, b ∉ Fs5 j) := fun s5 =>
        ⟨S.keep _ _ _ s5.keep rs2.mutO (fun b hb ⟨j, _, hj⟩ => fF b hb j hj) p2, fun b hb => apart_step (fm b hb) (fF b hb) s5, s5.keep D _ hD2 fun ⟨j, _, hj⟩ => dF j hj, apart_step ⟨_, hD2, trivial⟩ dF s5,
          racc.keep s5.keep rs2.mutO fun b hb ⟨j, _, hj⟩ => (fGA b hb).1 j hj, fun b hb => apart_step (racc.mut b hb) (fGA b hb).1 s5⟩
      cases k with
      | false =>
        obtain ⟨k1, k2, k3, k4, k5, k6⟩ := keepS s24
        have rw4 := rs4.wipe2 own
        have sw4 := s24.wipe2 own ho
        rw [eW] at rw4 sw4
        exact ⟨hlt, acc, accV, GA, t.2, Fs4, ⟨rw4, s2.trans sw4, k1, fun b hb => wipeF_apart (k2 b hb), k3, wipeF_apart k4, k5, nGA, dGA, fun b hb => ⟨wipeF_apart (k6 b hb), (fGA b hb).2⟩⟩, by omega, .inr (.inr trivial), ok⟩
      | true =>
        refine ⟨t.2, Fs4, rs4, (ex0 (Outc.bnd ok)).mono (fun y _ oy v5 F5 H5 Fs5 rs5 s5 r5 ow5 => ?_) fun _ _ z => z⟩
        have s25 := s24.trans s5
        obtain ⟨k1, k2, k3, k4, k5, k6⟩ := keepS s25
        obtain ⟨j1, j2, j3, j4, j5, j6⟩ := keepS s24
        have keepD : KeepX (fun b => b = D) H5 (upd H5 D (.lst (accV ++ [v5]))) := fun b ob e nb => by rw [upd_ne nb]; exact e
        have mutD : ∀ b, (fun b => b = D) b → MutAt H5 b := fun b e => by subst e; exact ⟨_, k3, trivial⟩
        have f5D : ∀ b ∈ F5, b ≠ D := fun b hb e => by
          subst e
          rcases ow5.orig b hb with ⟨j, _, z⟩ | z
          · exact j4 j z
          · rw [j3] at z; cases z
        have g5 : ∀ a ∈ GA, a ∉ F5 := fun a ha hb => by
          rcases ow5.orig a hb with ⟨j, _, z⟩ | z
          · exact j6 a ha j z
          · obtain ⟨ob, e1, _⟩ := j5.mut a ha
            rw [z] at e1; cases e1
        have rw5 := (rs5.keepX keepD mutD fun b e j => by subst e; exact k4 j).wipe2 own
        have sw5 := (Stp.upd (o := .lst (accV ++ [v5])) (s2.trans s25) hD).wipe2 own ho
        rw [eW] at rw5 sw5
        refine ⟨accV, k3, ?_, hlt, acc ++ [y.1], accV ++ [v5], GA ++ F5, y.2, Fs5, ⟨rw5, sw5, ?_, fun b hb => wipeF_apart (k2 b hb), upd_same, wipeF_apart k4, ?_, ?_, ?_, fun b hb => ?_⟩, by simp; omega, .inr (.inr trivial), ?_⟩
        · rw [racc.length, sizeLine_eq]
          omega
        · exact S.keep H5 _ _ keepD mutD (fun b hb e => by subst e; exact fD hb) k1
        · exact RDs.append (k5.keep keepD mutD fun b hb e => dGA (e ▸ hb)) ⟨v5, [], F5, [], rfl, r5.keep keepD mutD f5D, ⟨rfl, rfl⟩, by simp⟩
        · exact List.nodup_append.mpr ⟨nGA, ow5.nd, fun a ha b hb e => g5 a ha (e ▸ hb)⟩
        · intro h
          rcases List.mem_append.mp h with h | h
          · exact dGA h
          · exact f5D D h rfl
        · rcases List.mem_append.mp hb with hb | hb
          · exact ⟨wipeF_apart (k6 b hb), (fGA b hb).2⟩
          · exact ⟨wipeF_apart (ow5.apart b hb), (ow5.trans (s2.trans s24)).orig b hb⟩
        · exact oy.bnd.mono (fun xs _ k => by
            have e : acc ++ [y.1] ++ xs.1 = acc ++ (y.1 :: xs.1) := by simp
            rw [e]
            exact k) fun _ _ z => z
    · have ei : i = vs.length := by omega
      refine .inl ⟨S.walk.stop i H2 p2 (by omega), ?_⟩
      have ed : ds.drop i = [] := List.drop_eq_nil_iff.mpr (by omega)
      rw [ed] at oo
      have k : KX K R σ env Fs H Q (.lst (acc ++ []), VL.back own env1 (VL.wipe own env2)) := oo
      rw [List.append_nil] at k
      obtain ⟨rsE, sE⟩ := back_end rs1 ho rs2 s2
      have gA : ∀ b ∈ D :: GA, (∀ j, b ∉ wipeF own Fs2 j) ∧ (inO R (wipeF own Fs1) b ∨ H1 b = none) := fun b hb => by
        rcases List.mem_cons.mp hb with rfl | hb
        · exact ⟨dF, .inr hD⟩
        · exact fGA b hb
      have inW : ∀ b, inO R (wipeF own Fs1) b → ∃ i, i ∉ R ∧ i ∉ own ∧ b ∈ Fs1 i := fun b ⟨i, hi, hb⟩ => by
        by_cases c : i ∈ own
        · rw [wipeF_in c] at hb; cases hb
        · rw [wipeF_out c] at hb; exact ⟨i, hi, c, hb⟩
      refine k (.ref D) (D :: GA) H2 _ rsE (s1.trans sE) ⟨D, accV, GA, rfl, hD2, racc, rfl⟩ ⟨List.nodup_cons.mpr ⟨dGA, nGA⟩, fun b hb j hj => ?_, fun b hb => ?_⟩
      · by_cases c : j ∈ own
        · simp only [c, if_true] at hj
          rcases (gA b hb).2 with z | z
          · obtain ⟨i, _, hio, hi⟩ := inW b z
            exact (rs1.own j (ho j c)).2 b hj i (fun z => hio (z ▸ c)) hi
          · exact rs1.freeAt z j hj
        · simp only [c, if_false] at hj
          exact (gA b hb).1 j (by rw [wipeF_out c]; exact hj)
      · rcases (gA b hb).2 with z | z
        · obtain ⟨i, hi, _, h⟩ := inW b z
          exact s1.sub b ⟨i, hi, h⟩
        · exact s1.back z
end
section
variable {X : Cx} {W : WX} {R : RL} {P : List Nat} {target iter elt0 c a b : Expr} {src : Env → Res (List D × Env)} {tg : Tg} {test elt ma mb : MX} {scope : Scope} {ownN : List (Str × Nat)} {pos py spos p : Pos}
theorem px_comp (hc : X.calm = true) (hN : X.N.Nodup) (hi : PXI X W R target iter src) (ok : BlkOk X.N X.env.scope scope ownN) (hsub : ∀ i ∈ tgs tg, i ∈ ownN.map (·.2)) (ho : ∀ i ∈ ownN.map (·.2), i ∉ R)
    (hg : ∀ (s : Shared) (H : Hp) (C : Addr) (cl : List (Str × Addr)) (fp : List Addr), PG (X.blk s H scope (compEnvC scope cl C X.env) fp) target (rGX X.K R tg))
    (he : ∀ (s : Shared) (H : Hp) (C : Addr) (cl : List (Str × Addr)) (fp : List Addr), PE (X.blk s H scope (compEnvC scope cl C X.env) fp) elt0 (rX X.K X.mg W0 R elt)) (hs : ∀ x, foldedSetIterable iter X.env x = pure x := by intro _; rfl) :
    PX X W R (.ListComp elt0 [⟨target, iter, [], 0⟩] scope pos) (xComp (ownN.map (·.2)) src tg xYes elt) := (pe_lc hc hN hi ok hg (fun _ _ _ _ _ => pts_nil) he hs).imp (xcomp_imp xtest_yes hsub ho)
theorem px_compIf (hc : X.calm = true) (hN : X.N.Nodup) (hi : PXI X W R target iter src) (ok : BlkOk X.N X.env.scope scope ownN) (hsub : ∀ i ∈ tgs tg, i ∈ ownN.map (·.2)) (ho : ∀ i ∈ ownN.map (·.2), i ∉ R)
    (hg : ∀ (s : Shared) (H : Hp) (C : Addr) (cl : List (Str × Addr)) (fp : List Addr), PG (X.blk s H scope (compEnvC scope cl C X.env) fp) target (rGX X.K R tg))
    (ht : ∀ (s : Shared) (H : Hp) (C : Addr) (cl : List (Str × Addr)) (fp : List Addr), PT (X.blk s H scope (compEnvC scope cl C X.env) fp) c (rXT X.K X.mg W0 R test))
    (he : ∀ (s : Shared) (H : Hp) (C : Addr) (cl : List (Str × Addr)) (fp : List Addr), PE (X.blk s H scope (compEnvC scope cl C X.env) fp) elt0 (rX X.K X.mg W0 R elt)) (hs : ∀ x, foldedSetIterable iter X.env x = pure x := by intro _; rfl) :
    PX X W R (.ListComp elt0 [⟨target, iter, [c], 0⟩] scope pos) (xComp (ownN.map (·.2)) src tg test elt) := (pe_lc hc hN hi ok hg (fun s H C cl fp => pts_one (ht s H C cl fp)) he hs).imp (xcomp_imp xtest_if hsub ho)
theorem set_xcomp {t : TE} {i : Nat} {mx : MX} (hR : i ∉ R) (hP : i ∉ P) (ht : ∀ σ H Q, rX X.K X.mg W R mx σ H Q → t σ H Q) : ∀ D σ H, rS X.K X.mg W R P (sSet i mx) D σ H → tAsg t (gName i) D σ H := fun D σ H ⟨env, Fs, rs, o⟩ =>
  ht σ H _ ⟨env, Fs, rs, o.bnd.mono (fun p _ k v G H1 Fs1 rs1 s1 rd ow => (show ∀ σ' H' Fs', _ from k) _ H1 _ (rs1.set rd ow.nd (fun b hb j _ => ow.apart b hb j) hR) (s1.toP.set ow.orig hR hP) (List.length_set ..)) fun _ _ z => z⟩
theorem sv_compX {i : Nat} {y : Str} (hc : X.calm = true) (hN : X.N.Nodup) (hy : X.N[i]? = some y) (hyl : X.env.scope.names.lookup y = some .local) (hR : i ∉ R) (hP : i ∉ P)
    (hsw : swapsWith (.ListComp elt0 [⟨target, iter, [], 0⟩] scope pos) (some (.Name y py)) spos.line X.env = pure true) (hi : PXI X W R target iter src) (ok : BlkOk X.N X.env.scope scope ownN) (hsub : ∀ i ∈ tgs tg, i ∈ ownN.map (·.2)) (ho : ∀ i ∈ ownN.map (·.2), i ∉ R)
    (hg : ∀ (s : Shared) (H : Hp) (C : Addr) (cl : List (Str × Addr)) (fp : List Addr), PG (X.blk s H scope (compEnvC scope cl C X.env) fp) target (rGX X.K R tg))
    (he : ∀ (s : Shared) (H : Hp) (C : Addr) (cl : List (Str × Addr)) (fp : List Addr), PE (X.blk s H scope (compEnvC scope cl C X.env) fp) elt0 (rX X.K X.mg W0 R elt)) (hs : ∀ x, foldedSetIterable iter X.env x = pure x := by intro _; rfl) :
    PSV X W R P (.Assign [.Name y py] (.ListComp elt0 [⟨target, iter, [], 0⟩] scope pos) spos) (sSet i (xComp (ownN.map (·.2)) src tg xYes elt)) :=
  (ps_setLc hc hN hy hyl hsw hi ok hg (fun _ _ _ _ _ => pts_nil) he hs).imp (set_xcomp hR hP (xcomp_imp xtest_yes hsub ho))
theorem sv_compIfX {i : Nat} {y : Str} (hc : X.calm = true) (hN : X.N.Nodup) (hy : X.N[i]? = some y) (hyl : X.env.scope.names.lookup y = some .local) (hR : i ∉ R) (hP : i ∉ P)
    (hsw : swapsWith (.ListComp elt0 [⟨target, iter, [c], 0⟩] scope pos) (some (.Name y py)) spos.line X.env = pure true) (hi : PXI X W R target iter src) (ok : BlkOk X.N X.env.scope scope ownN) (hsub : ∀ i ∈ tgs tg, i ∈ ownN.map (·.2)) (ho : ∀ i ∈ ownN.map (·.2), i ∉ R)
    (hg : ∀ (s : Shared) (H : Hp) (C : Addr) (cl : List (Str × Addr)) (fp : List Addr), PG (X.blk s H scope (compEnvC scope cl C X.env) fp) target (rGX X.K R tg))
    (ht : ∀ (s : Shared) (H : Hp) (C : Addr) (cl : List (Str × Addr)) (fp : List Addr), PT (X.blk s H scope (compEnvC scope cl C X.env) fp) c (rXT X.K X.mg W0 R test))
    (he : ∀ (s : Shared) (H : Hp) (C : Addr) (cl : List (Str × Addr)) (fp : List Addr), PE (X.blk s H scope (compEnvC scope cl C X.env) fp) elt0 (rX X.K X.mg W0 R elt)) (hs : ∀ x, foldedSetIterable iter X.env x = pure x := by intro _; rfl) :
    PSV X W R P (.Assign [.Name y py] (.ListComp elt0 [⟨target, iter, [c], 0⟩] scope pos) spos) (sSet i (xComp (ownN.map (·.2)) src tg test elt)) :=
  (ps_setLc hc hN hy hyl hsw hi ok hg (fun s H C cl fp => pts_one (ht s H C cl fp)) he hs).imp (set_xcomp hR hP (xcomp_imp xtest_if hsub ho))
theorem pxi_r2 (hm : X.mg "range" = none) (ha : PX X W R a ma) (hb : PX X W R b mb) (hg : Gl X "range" := by rfl) (hs : starEach [a, b] X.env = [(false, eval a X.env), (false, eval b X.env)] := by rfl) (hs2 : starEach [b] X.env = [(false, eval b X.env)] := by rfl) :
    PXI X W R target (.Call (.Name "range" p) [a, b] [] pos) (xsR2 ma mb) :=
  PI.imp' (pi_range2 hg hm (pxa_cons ha (pxa_cons hb pxa_nil (by rw [hs2]; rfl)) (by rw [hs, hs2])) hs hs2) fun σ H Rr ⟨env, Fs, rs, o⟩ => ⟨env, Fs, rs, by
    have o1 := o.bnd
    show Outc ((ma env).bind fun p => ((mb p.2).bind fun p' => (Res.ok ([], p'.2)).bind fun q => Res.ok (p'.1 :: q.1, q.2)).bind fun q => Res.ok (p.1 :: q.1, q.2)) _ _
    cases e : ma env with
    | err n fs => rw [e] at o1; exact o1
    | bad => rw [e] at o1; exact o1.elim
    | ok p =>
      rw [e] at o1
      obtain ⟨d, env1⟩ := p
      obtain ⟨m, ed, o2⟩ := Outc.int (Outc.bnd o1)
      have ed' : d = .fz (.int m) := ed
      subst ed'
      have o2' := Outc.bnd o2
      show Outc (((mb env1).bind fun p' => (Res.ok ([], p'.2)).bind fun q => Res.ok (p'.1 :: q.1, q.2)).bind fun q => Res.ok (D.fz (.int m) :: q.1, q.2)) _ _
      cases e' : mb env1 with
      | err n fs => rw [e'] at o2'; exact o2'
      | bad => rw [e'] at o2'; exact o2'.elim
      | ok p' =>
        rw [e'] at o2'
        obtain ⟨d', env2⟩ := p'
        obtain ⟨n, ed', o3⟩ := Outc.int (Outc.bnd o2')
        have ed'' : d' = .fz (.int n) := ed'
        subst ed''
        obtain ⟨⟨z1, z2, z3, z4⟩, o4⟩ := Outc.need o3
        rintro vs G H1 Fs1 rs1 s1 ⟨v, q, F1, F2, rfl, ⟨hv, _⟩, ⟨v', q', F1', F2', rfl, ⟨hv', _⟩, ⟨rfl, _⟩, _⟩, _⟩ _
        have ev : v = .int m := hv
        have ev' : v' = .int n := hv'
        subst ev ev'
        exact ⟨m, n, rfl, ⟨z1, z2, z3, z4⟩, o4 _ _ _ _ _ H1 Fs1 rs1 s1 src_rng fun b hb => by cases hb⟩⟩
end
end VL
set_option Elab.async false
set_option linter.all false
set_option maxRecDepth 100000
set_option maxHeartbeats 4000000
/-! VLZ: defs under their names; what the printed derivations say in short. -/
namespace VL
open PySem L2
theorem u0 {k : Nat} {A : Around} (hr : Room k A) : A.units < cLine := by have := hr.un; omega
theorem u1 {k : Nat} {A : Around} (hr : Room k A) : A.units + 1 < cLine := by have := hr.un; omega
theorem u64 {k : Nat} {A : Around} (hr : Room k A) : A.units + 64 < cLine := by have := hr.un; omega
theorem u65 {k : Nat} {A : Around} (hr : Room k A) : A.units + 65 < cLine := by have := hr.un; omega
theorem all_ni {own l : List Nat} (h : ∀ i ∈ l, i ∈ own) : ∀ i ∈ l, i ∉ RL.mk own := fun i hi => RL.ni (h i hi)
/-- a look at a block's names -/
def blkC (N : List Str) (sc scope : Scope) (own : List (Str × Nat)) : Bool :=
  decide (scope.kind = .function) && scope.names.all (fun y => decide (scope.names.lookup y.1 = some y.2)) && own.all (fun p => decide (N[p.2]? = some p.1)) &&
    scope.names.all (fun y => !decide (y.2 = .free) || (decide (sc.names.lookup y.1 = some .cell) || decide (sc.names.lookup y.1 = some .free))) &&
    scope.names.all (fun y => !(decide (y.2 = .local) || decide (y.2 = .cell)) || (decide (y.1 ∈ own.map (·.1)) || !decide (y.1 ∈ N)))
theorem blk_by {N : List Str} {sc scope : Scope} {own : List (Str × Nat)} (h : blkC N sc scope own = true) : BlkOk N sc scope own := by
  unfold blkC at h
  simp only [Bool.and_eq_true, Bool.not_eq_true', decide_eq_true_eq, List.all_eq_true, Bool.or_eq_true, decide_eq_false_iff_not] at h
  obtain ⟨⟨⟨⟨h1, h2⟩, h3⟩, h4⟩, h5⟩ := h
  exact ⟨h1, h2, h3, fun y hy e => (h4 y hy).resolve_left fun n => n e, fun y hy e => (h5 y hy).resolve_left fun n => by
    rw [Bool.or_eq_false_iff] at n
    simp only [decide_eq_false_iff_not] at n
    exact e.elim n.1 n.2⟩
def CInt (mg : Str → Option Value) (x : Str) (i : Int) : Prop := ∃ t, mg x = some (.int i t)
structure DefX (K : PySem.W.Frag) (mg : Str → Option Value) (x : Str) (st : Stmt) (ps : List Str) : Prop where
  ex : ∃ (f : Addr) (fd : FuncData), Fun K x x st f fd ∧ mg x = some (.ref f) ∧ Binds K fd ps []
section
variable (P : Program) (w : World) (K : PySem.W.Frag) (mg : Str → Option Value) (base : Heap)
structure CalP (k : Nat) (x : Str) (m : List D → Res D) : Prop where
  ex : ∃ (f : Addr) (fd : FuncData) (ps : List Str), FnOk P w K mg base (L2.CX P w) k f fd ps (spP K mg m) ∧ mg x = some (.ref f) ∧ PySem.W.keepIn K (.ref f) = true ∧ Binds K fd ps []
structure CalM (k : Nat) (x : Str) (m : List D → Res (D × List D)) : Prop where
  ex : ∃ (f : Addr) (fd : FuncData) (ps : List Str), FnOk P w K mg base (L2.CX P w) k f fd ps (spM K mg m) ∧ mg x = some (.ref f) ∧ PySem.W.keepIn K (.ref f) = true ∧ Binds K fd ps []
end
section
variable {P : Program} {w : World} {K : PySem.W.Frag} {mg : Str → Option Value} {base : Heap}
theorem mk_P {N ps : List Str} {x : Str} {st : Stmt} {np n : Nat} {body : S} {k : Nat} (own : List Nat) (D : DefX K mg x st ps) (Sc : FnScope N ps (defScope st)) (hnp : ps.length = np) (hn : N.length = n) (ho : ∀ i ∈ own, np ≤ i)
    (hb : ∀ (f : Addr) (cdv : Value) (A : Around) (outer : List PySem.Env) (s : Shared) (H : Hp) (E : XK), Room k (cxOf (L2.CX P w) P w K mg base N x (defScope st) f cdv A outer s H E).A → PSB (cxOf (L2.CX P w) P w K mg base N x (defScope st) f cdv A outer s H E) (fun cls d _ H => E cls d H) ⟨own⟩ [] (defBody st) body) :
    CalP P w K mg base (k + 1) x (fnP np n body) := by
  obtain ⟨f, fd, F, m, b⟩ := D.ex
  exact ⟨f, fd, ps, fn_P F Sc hnp hn ho (hb f), m, F.kp, b⟩
theorem mk_M {N ps : List Str} {x : Str} {st : Stmt} {np n : Nat} {body : S} {k : Nat} (own : List Nat) (D : DefX K mg x st ps) (Sc : FnScope N ps (defScope st)) (hnp : ps.length = np) (hn : N.length = n) (h0 : 0 ∈ own) (ho : ∀ i ∈ own, i = 0 ∨ np ≤ i)
    (hb : ∀ (f : Addr) (cdv : Value) (A : Around) (outer : List PySem.Env) (s : Shared) (H : Hp) (E : XK), Room k (cxOf (L2.CX P w) P w K mg base N x (defScope st) f cdv A outer s H E).A → PSB (cxOf (L2.CX P w) P w K mg base N x (defScope st) f cdv A outer s H E) (fun cls d _ H => E cls d H) ⟨own⟩ [0] (defBody st) body) :
    CalM P w K mg base (k + 1) x (fnM np n [0] body) := by
  obtain ⟨f, fd, F, m, b⟩ := D.ex
  exact ⟨f, fd, ps, fn_M F Sc hnp hn h0 ho (hb f), m, F.kp, b⟩
end
section
variable {X : Cx} {W : WX} {R : RL} {e : Expr} {es : List Expr} {ms : List E} {mxs : List MX} {as : List Arg} {pos p : Pos} {x : Str} {j k : Nat} {mf : List D → Res D}
theorem pn_int' {i : Int} (h : CInt X.mg x i) (hg : Gl X x) (hd : (x == ("__debug__" : Str)) = false := by decide) : PN X W (.Name x pos) (eC (.int i)) := by
  obtain ⟨t, hm⟩ := h
  exact pn_c (pe_glob (v := .int i) hg hm ⟨t, rfl⟩ hd) fun _ => rfl
theorem pn_cal (c : CalP X.prog X.w X.K X.mg X.base k x mf) (hr : Room j X.A) (hk : k ≤ j) (tk : Takes X W) (hg : Gl X x) (ha : PAB X W (e :: es) ms) (hdb : (x == ("__debug__" : Str)) = false := by decide)
    (he : starEach (e :: es) X.env = (false, eval e X.env) :: starEach es X.env := by rfl) (hpl : (backTo pos (starEach es X.env)).any (·.1) = false := by rfl) : PN X W (.Call (.Name x p) (e :: es) [] pos) (eCall mf ms) := by
  obtain ⟨f, fd, ps, F, m, kp, b⟩ := c.ex
  exact pn_call F (hr.mono hk) tk hg m kp b ha hdb he hpl
theorem px_cal (c : CalP X.prog X.w X.K X.mg X.base k x mf) (hr : Room j X.A) (hk : k ≤ j) (tk : Takes X W) (hg : Gl X x) (ha : PXA X W R (e :: es) mxs) (hdb : (x == ("__debug__" : Str)) = false := by decide)
    (he : starEach (e :: es) X.env = (false, eval e X.env) :: starEach es X.env := by rfl) (hpl : (backTo pos (starEach es X.env)).any (·.1) = false := by rfl) : PX X W R (.Call (.Name x p) (e :: es) [] pos) (xCall mf mxs) := by
  obtain ⟨f, fd, ps, F, m, kp, b⟩ := c.ex
  exact px_call F (hr.mono hk) tk hg m kp b ha hdb he hpl
theorem px_calM {mf : List D → Res (D × List D)} {i : Nat} (c : CalM X.prog X.w X.K X.mg X.base k x mf) (hr : Room j X.A) (hk : k ≤ j) (tk : Takes X W) (hg : Gl X x) (hi : i ∉ R) (hok : okArgs i as = true) (ha : PXG X W R (e :: es) (.io i :: as)) (hdb : (x == ("__debug__" : Str)) = false := by decide)
    (he : starEach (e :: es) X.env = (false, eval e X.env) :: starEach es X.env := by rfl) (hpl : (backTo pos (starEach es X.env)).any (·.1) = false := by rfl) : PX X W R (.Call (.Name x p) (e :: es) [] pos) (xCallM mf (.io i :: as)) := by
  obtain ⟨f, fd, ps, F, m, kp, b⟩ := c.ex
  exact px_callM F (hr.mono hk) tk hg m kp b hi hok ha hdb he hpl
end
end VL
set_option Elab.async false
set_option linter.all false
set_option maxRecDepth 100000
set_option maxHeartbeats 4000000
/-! VLX: how mirrors run: loops, comprehensions. -/
namespace VL
open PySem
theorem wpx_none {env : Env} {i : Nat} : ∀ {vs : List Nat}, i ∈ vs → (wipe vs env).set i none = wipe vs env
  | [], h => by cases h
  | v :: vs, h => by
    show ((wipe vs env).set v none).set i none = (wipe vs env).set v none
    by_cases e : i = v
    · subst e; rw [List.set_set]
    · rw [List.set_comm _ _ (Ne.symm e), wpx_none ((List.mem_cons.mp h).resolve_left e)]
theorem wpx_sub {env : Env} : ∀ {ws vs : List Nat}, (∀ w ∈ ws, w ∈ vs) → wipe ws (wipe vs env) = wipe vs env
  | [], _, _ => rfl
  | w :: ws, vs, h => by
    show (wipe ws (wipe vs env)).set w none = _
    rw [wpx_sub fun q hq => h q (List.mem_cons_of_mem _ hq), wpx_none (h w List.mem_cons_self)]
theorem wpx (is : List Nat) (env : Env) : wipe is (wipe is env) = wipe is env := wpx_sub fun _ h => h
theorem forL_wipe (tg : Tg) (kill : List Nat) (body : S) : ∀ (ds : List D) (env : Env), forL tg kill body ds env = forL tg kill body ds (wipe kill env)
  | [], env => by unfold forL; rw [wpx]
  | d :: r, env => by unfold forL; rw [wpx]
section
variable {α : Type} {tg : Tg} {kill mods : List Nat} {body : S} {g : α → FD}
theorem forL_rel (R : List α → Env → Prop) : ∀ (xs pre : List α) (e : Env), R pre e → wipe kill e = e →
    (∀ pre' a post e, pre ++ xs = pre' ++ a :: post → R pre' e → ∃ env1 env2, tgSet tg (.fz (g a)) e = .ok env1 ∧ body env1 = .ok (.nx, env2) ∧ R (pre' ++ [a]) (wipe kill env2)) →
    ∃ e', R (pre ++ xs) e' ∧ forL tg kill body (xs.map fun a => D.fz (g a)) e = .ok (.nx, e')
  | [], pre, e, h0, hw, _ => ⟨e, by rw [List.append_nil]; exact h0, by show Res.ok (Fl.nx, wipe kill e) = _; rw [hw]⟩
  | a :: xs, pre, e, h0, hw, st => by
    obtain ⟨env1, env2, h1, h2, h3⟩ := st pre a xs e rfl h0
    obtain ⟨e', h4, h5⟩ := forL_rel R xs (pre ++ [a]) (wipe kill env2) h3 (wpx _ _) (fun pre' b post e he hR => st pre' b post e (by rw [← he]; simp) hR)
    refine ⟨e', by simpa using h4, ?_⟩
    show ((tgSet tg (.fz (g a)) (wipe kill e)).bind fun env1 => (body env1).bind fun p => match p.1 with
      | .nx => forL tg kill body (xs.map fun a => D.fz (g a)) p.2
      | .ct => forL tg kill body (xs.map fun a => D.fz (g a)) p.2
      | .bk => .ok (.nx, wipe kill p.2)
      | .rt d => .ok (.rt d, p.2)) = _
    rw [hw, h1]
    show ((body env1).bind _) = _
    rw [h2]
    show forL tg kill body (xs.map fun a => D.fz (g a)) env2 = _
    rw [forL_wipe]
    exact h5
theorem allF_fz (xs : List α) : allF (xs.map fun a => D.fz (g a)) = .ok (xs.map g) := by
  have h := allF_map (xs.map g)
  rw [List.map_map] at h
  exact h
theorem sFor_rel {src : Env → Res (List D)} {xs : List α} {env : Env} (R : List α → Env → Prop) (hs : src (wipe mods env) = .ok (xs.map fun a => D.fz (g a))) (h0 : R [] (wipe kill env))
    (st : ∀ pre a post e, xs = pre ++ a :: post → R pre e → ∃ env1 env2, tgSet tg (.fz (g a)) e = .ok env1 ∧ body env1 = .ok (.nx, env2) ∧ R (pre ++ [a]) (wipe kill env2)) :
    ∃ e', R xs e' ∧ sFor src tg mods kill body env = .ok (.nx, e') := by
  obtain ⟨e', h1, h2⟩ := forL_rel (tg := tg) (kill := kill) (body := body) (g := g) R xs [] (wipe kill env) h0 (wpx _ _) (fun pre a post e he => st pre a post e (by simpa using he))
  refine ⟨e', by simpa using h1, ?_⟩
  unfold sFor
  rw [hs]
  show ((allF (xs.map fun a => D.fz (g a))).bind fun fs => forL tg kill body (fs.map D.fz) env) = _
  rw [allF_fz]
  show forL tg kill body ((xs.map g).map D.fz) env = _
  rw [List.map_map, forL_wipe]
  exact h2
/-- a loop that is left early -/
theorem compL_map {env : Env} {test elt : E} {gd h : α → D} {p : α → Bool} : ∀ (xs : List α), (∀ a ∈ xs, ∃ env', tgSet tg (gd a) env = .ok env' ∧ test env' = .ok (.fz (.bl (p a))) ∧ (p a = true → elt env' = .ok (h a))) →
    compL tg test elt env (xs.map gd) = .ok ((xs.filter p).map h)
  | [], _ => rfl
  | a :: xs, st => by
    obtain ⟨env', h1, h2, h3⟩ := st a List.mem_cons_self
    have ih := compL_map xs fun b hb => st b (List.mem_cons_of_mem _ hb)
    show ((tgSet tg (gd a) env).bind fun env' => (test env').bind fun t => t.bool?.bind fun k =>
      if k = true then (elt env').bind fun x => (compL tg test elt env (xs.map gd)).bind fun xs => .ok (x :: xs) else compL tg test elt env (xs.map gd)) = _
    rw [h1, ih]
    show ((test env').bind _) = _
    rw [h2]
    show (if p a = true then (elt env').bind fun x => Res.ok (x :: (xs.filter p).map h) else Res.ok ((xs.filter p).map h)) = _
    by_cases c : p a = true
    · rw [if_pos c, h3 c, List.filter_cons_of_pos c]
      rfl
    · rw [if_neg c, List.filter_cons_of_neg c]
theorem eComp_map {own : List Nat} {src : Env → Res (List D)} {env : Env} {test elt : E} {gd h : α → D} {p : α → Bool} {xs : List α} (hs : src env = .ok (xs.map gd)) (hl : xs.length ≤ 16777216)
    (st : ∀ a ∈ xs, ∃ env', tgSet tg (gd a) (wipe own env) = .ok env' ∧ test env' = .ok (.fz (.bl (p a))) ∧ (p a = true → elt env' = .ok (h a))) : eComp own src tg test elt env = .ok (.lst ((xs.filter p).map h)) := by
  unfold eComp
  rw [hs]
  show need ((xs.map gd).length ≤ 16777216) ((noErr (compL tg test elt (wipe own env) (xs.map gd))).bind fun xs => .ok (D.lst xs)) = _
  rw [compL_map xs st]
  exact if_pos (by rw [List.length_map]; exact hl)
theorem eComp_all {own : List Nat} {src : Env → Res (List D)} {env : Env} {elt : E} {gd h : α → D} {xs : List α} (hs : src env = .ok (xs.map gd)) (hl : xs.length ≤ 16777216)
    (st : ∀ a ∈ xs, ∃ env', tgSet tg (gd a) (wipe own env) = .ok env' ∧ elt env' = .ok (h a)) : eComp own src tg eYes elt env = .ok (.lst (xs.map h)) := by
  have z := eComp_map (p := fun _ => true) (test := eYes) (elt := elt) (tg := tg) (own := own) (h := h) hs hl (fun a ha => by
    obtain ⟨e, h1, h2⟩ := st a ha
    exact ⟨e, h1, rfl, fun _ => h2⟩)
  rw [List.filter_eq_self.mpr (fun _ _ => rfl)] at z
  exact z
theorem xcompL_rel {own : List Nat} {elt : MX} (R : List α → List D → Env → Prop) : ∀ (xs pre : List α) (acc : List D) (e : Env), R pre acc (wipe own e) →
    (∀ pre' a post acc e, pre ++ xs = pre' ++ a :: post → R pre' acc e → ∃ env1 x env2, tgSet tg (.fz (g a)) e = .ok env1 ∧ elt env1 = .ok (x, env2) ∧ R (pre' ++ [a]) (acc ++ [x]) (wipe own env2)) →
    ∃ ys e', R (pre ++ xs) (acc ++ ys) (wipe own e') ∧ xcompL own tg xYes elt (xs.map fun a => D.fz (g a)) e = .ok (ys, e')
  | [], pre, acc, e, h0, _ => ⟨[], e, by rw [List.append_nil, List.append_nil]; exact h0, rfl⟩
  | a :: xs, pre, acc, e, h0, st => by
    obtain ⟨env1, x, env2, h1, h2, h3⟩ := st pre a xs acc (wipe own e) rfl h0
    obtain ⟨ys, e', h4, h5⟩ := xcompL_rel R xs (pre ++ [a]) (acc ++ [x]) env2 h3 (fun pre' b post acc e he hR => st pre' b post acc e (by rw [← he]; simp) hR)
    refine ⟨x :: ys, e', by simpa using h4, ?_⟩
    show ((tgSet tg (.fz (g a)) (wipe own e)).bind fun env1 => (xYes env1).bind fun t => t.1.bool?.bind fun k =>
      if k = true then (elt t.2).bind fun x => (xcompL own tg xYes elt (xs.map fun a => D.fz (g a)) x.2).bind fun xs => .ok (x.1 :: xs.1, xs.2) else xcompL own tg xYes elt (xs.map fun a => D.fz (g a)) t.2) = _
    rw [h1]
    show ((elt env1).bind fun x => (xcompL own tg xYes elt (xs.map fun a => D.fz (g a)) x.2).bind fun xs => .ok (x.1 :: xs.1, xs.2)) = _
    rw [h2]
    show ((xcompL own tg xYes elt (xs.map fun a => D.fz (g a)) env2).bind fun xs => .ok (x :: xs.1, xs.2)) = _
    rw [h5]
theorem xComp_rel {own : List Nat} {src : Env → Res (List D × Env)} {elt : MX} {xs : List α} {env env0 : Env} (R : List α → List D → Env → Prop) (hs : src env = .ok (xs.map (fun a => D.fz (g a)), env0)) (hl : xs.length ≤ 16777216) (h0 : R [] [] (wipe own env0))
    (st : ∀ pre a post acc e, xs = pre ++ a :: post → R pre acc e → ∃ env1 x env2, tgSet tg (.fz (g a)) e = .ok env1 ∧ elt env1 = .ok (x, env2) ∧ R (pre ++ [a]) (acc ++ [x]) (wipe own env2)) :
    ∃ ys e', R xs ys e' ∧ xComp own src tg xYes elt env = .ok (.lst ys, back own env0 e') := by
  obtain ⟨ys, e', h1, h2⟩ := xcompL_rel (tg := tg) (own := own) (elt := elt) (g := g) R xs [] [] (wipe own env0) (by rw [wpx]; exact h0) (fun pre a post acc e he => st pre a post acc e (by simpa using he))
  refine ⟨ys, wipe own e', by simpa using h1, ?_⟩
  unfold xComp
  rw [hs]
  show need ((xs.map fun a => D.fz (g a)).length ≤ 16777216) ((noErr (xcompL own tg xYes elt (xs.map fun a => D.fz (g a)) (wipe own env0))).bind fun xs => .ok (D.lst xs.1, back own env0 (wipe own xs.2))) = _
  rw [h2]
  exact if_pos (by rw [List.length_map]; exact hl)
end
theorem whileL_wipe {kill : List Nat} (c : MX) (body : S) (n : Nat) (env : Env) : whileL c kill body n env = whileL c kill body n (wipe kill env) := by
  cases n with
  | zero => rfl
  | succ n => unfold whileL; rw [wpx]
theorem whileL_rel {kill : List Nat} {c : MX} {body : S} (R : Env → Prop) (mu : Env → Nat) (st : ∀ e, R e → wipe kill e = e → c e = .ok (.fz (.bl false), e) ∨ (c e = .ok (.fz (.bl true), e) ∧ ∃ env2, body e = .ok (.nx, env2) ∧ R (wipe kill env2) ∧ mu (wipe kill env2) < mu e)) :
    ∀ (n : Nat) (e : Env), mu e < n → R e → wipe kill e = e → ∃ e', R e' ∧ c e' = .ok (.fz (.bl false), e') ∧ whileL c kill body n e = .ok (.nx, e')
  | 0, _, h, _, _ => absurd h (Nat.not_lt_zero _)
  | n + 1, e, h, hR, hw => by
    unfold whileL
    rw [hw]
    rcases st e hR hw with h1 | ⟨h1, env2, h2, h3, h4⟩
    · refine ⟨e, hR, h1, ?_⟩
      rw [h1]
      show Res.ok (Fl.nx, wipe kill e) = _
      rw [hw]
    · obtain ⟨e', k1, k2, k3⟩ := whileL_rel R mu st n (wipe kill env2) (by omega) h3 (wpx _ _)
      refine ⟨e', k1, k2, ?_⟩
      rw [h1]
      show ((body e).bind fun q => match q.1 with
        | .nx => whileL c kill body n q.2
        | .ct => whileL c kill body n q.2
        | .bk => .ok (.nx, wipe kill q.2)
        | .rt d => .ok (.rt d, q.2)) = _
      rw [h2]
      show whileL c kill body n env2 = _
      rw [whileL_wipe]
      exact k3
theorem sWhile_rel {kill : List Nat} {c : MX} {body : S} {env : Env} (R : Env → Prop) (mu : Env → Nat) (h0 : R (wipe kill env)) (st : ∀ e, R e → wipe kill e = e → c e = .ok (.fz (.bl false), e) ∨ (c e = .ok (.fz (.bl true), e) ∧ ∃ env2, body e = .ok (.nx, env2) ∧ R (wipe kill env2) ∧ mu (wipe kill env2) < mu e)) :
    ∃ e', R e' ∧ c e' = .ok (.fz (.bl false), e') ∧ sWhile c kill body env = .ok (.nx, e') := by
  obtain ⟨e', h1, h2, h3⟩ := whileL_rel R mu st (mu (wipe kill env) + 1) (wipe kill env) (Nat.lt_succ_self _) h0 (wpx _ _)
  refine ⟨e', h1, h2, sWhile_eq (n := mu (wipe kill env) + 1) ?_ (by intro z; cases z)⟩
  rw [whileL_wipe]
  exact h3
end VL
namespace VL
open PySem
/-! ### steps -/
section
variable {a b : S} {env e e2 : Env} {r : Res (Fl × Env)} {d x y z : D} {i j : Nat} {c mx my : MX} {m ma mb mc mk : E} {k : Bool} {f g : D → D → Res D} {ds : List D} {fs : List FD} {es : List E} {path : List E}
theorem sSeq_ (h : a env = .ok (.nx, e)) (h2 : b e = r) : sSeq a b env = r := by unfold sSeq; rw [h]; exact h2
theorem sSeqR (h : a env = .ok (.rt d, e)) : sSeq a b env = .ok (.rt d, e) := by unfold sSeq; rw [h]
theorem sSet_ (h : mx env = .ok (d, e)) : sSet i mx env = .ok (.nx, setS e i d) := by unfold sSet; rw [h]
theorem sIfT (h : c env = .ok (.fz (.bl true), e)) (h2 : a e = r) : sIf c a b env = r := by unfold sIf; rw [h]; exact h2
theorem sIfF (h : c env = .ok (.fz (.bl false), e)) (h2 : b e = r) : sIf c a b env = r := by unfold sIf; rw [h]; exact h2
theorem sRet_ (h : mx env = .ok (d, e)) : sRet mx env = .ok (.rt d, e) := by unfold sRet; rw [h]
theorem sExpr_ (h : mx env = .ok (d, e)) : sExpr mx env = .ok (.nx, e) := by unfold sExpr; rw [h]
theorem xF_ (h : m env = .ok d) : xF m env = .ok (d, env) := by unfold xF; rw [h]
theorem xZ_ {f : FD} (h : m env = .ok (.fz f)) : xZ m env = .ok (.fz f, env) := by unfold xZ; rw [h]; rfl
theorem xBin_ (h : mx env = .ok (x, e)) (h2 : my e = .ok (y, e2)) (h3 : f x y = .ok z) : xBin f mx my env = .ok (z, e2) := by
  unfold xBin; rw [h]; show (my e).bind _ = _; rw [h2]; show (f x y).bind _ = _; rw [h3]
theorem eBin_ (h : ma env = .ok x) (h2 : mb env = .ok y) (h3 : f x y = .ok z) : eBin f ma mb env = .ok z := by
  unfold eBin; rw [h]; show (mb env).bind _ = _; rw [h2]; exact h3
theorem eUn_ {u : D → Res D} (h : ma env = .ok x) (h3 : u x = .ok z) : eUn u ma env = .ok z := by
  unfold eUn; rw [h]; exact h3
theorem eFz_ {f : FD} (h : ma env = .ok (.fz f)) : eFz ma env = .ok (.fz f) := by unfold eFz; rw [h]; rfl
theorem eAll_c (h : m env = .ok d) (h2 : eAll es env = .ok ds) : eAll (m :: es) env = .ok (d :: ds) := by unfold eAll; rw [h]; show (eAll es env).bind _ = _; rw [h2]
theorem eAll_n : eAll [] env = .ok [] := rfl
theorem eCall_ {u : List D → Res D} (h : eAll es env = .ok ds) (h2 : u ds = .ok z) : eCall u es env = .ok z := by unfold eCall; rw [h]; exact h2
theorem eTup_ (h : eAll es env = .ok ds) (h2 : allF ds = .ok fs) : eTup es env = .ok (.fz (.tup fs)) := by unfold eTup; rw [h]; show (allF ds).bind _ = _; rw [h2]
theorem eLst_ (h : eAll es env = .ok ds) : eLst es env = .ok (.lst ds) := by unfold eLst; rw [h]
theorem eAndT (h : ma env = .ok (.fz (.bl true))) (h2 : mb env = .ok z) : eAnd ma mb env = .ok z := by unfold eAnd; rw [h]; exact h2
theorem eAndF (h : ma env = .ok (.fz (.bl false))) : eAnd ma mb env = .ok (.fz (.bl false)) := by unfold eAnd; rw [h]; rfl
theorem eOrF (h : ma env = .ok (.fz (.bl false))) (h2 : mb env = .ok z) : eOr ma mb env = .ok z := by unfold eOr; rw [h]; exact h2
theorem eOrT (h : ma env = .ok (.fz (.bl true))) : eOr ma mb env = .ok (.fz (.bl true)) := by unfold eOr; rw [h]; rfl
theorem eNot_ (h : ma env = .ok (.fz (.bl k))) : eNot ma env = .ok (.fz (.bl (!k))) := by unfold eNot; rw [h]; rfl
theorem eChain_ (h : ma env = .ok x) (h2 : mb env = .ok y) (h3 : f x y = .ok (.fz (.bl true))) (h4 : mc env = .ok d) (h5 : g y d = .ok z) : eChain f g ma mb mc env = .ok z := by
  unfold eChain; rw [h]; show (mb env).bind _ = _; rw [h2]; show (f x y).bind _ = _; rw [h3]; show (mc env).bind _ = _; rw [h4]; exact h5
theorem chg_ {o o' : D} {dp : List D} {u : D → Res D} (h : eVar i e = .ok o) (h2 : atPath u dp o = .ok o') : chg i dp u e = .ok (.nx, setS e i o') := by
  unfold chg; rw [h]; show (atPath u dp o).bind _ = _; rw [h2]
theorem sPut_ {o o' : D} {dp : List D} (hx : mx env = .ok (d, e)) (hp : eAll path e = .ok dp) (hk : mk e = .ok x) (ho : eVar i e = .ok o) (ha : atPath (fun o => oPut o x d) dp o = .ok o') : sPut i path mk mx env = .ok (.nx, setS e i o') := by
  unfold sPut; rw [hx]; show (noErr (eAll path e)).bind _ = _; rw [hp]; show (noErr (mk e)).bind _ = _; rw [hk]; exact chg_ ho ha
theorem sAugP_ {o o' : D} {dp : List D} {gf : FD} (hp : eAll path env = .ok dp) (hk : mk env = .ok x) (hy : m env = .ok (.fz gf)) (ho : eVar i env = .ok o) (ha : atPath (oAug f x (.fz gf)) dp o = .ok o') : sAugP f i path mk m env = .ok (.nx, setS env i o') := by
  unfold sAugP; rw [hp]; show (noErr (mk env)).bind _ = _; rw [hk]; show (noErr (m env)).bind _ = _; rw [hy]; exact chg_ ho ha
theorem sApp_ {o o' : D} {dp : List D} (hp : eAll path env = .ok dp) (hx : m env = .ok x) (ho : eVar i env = .ok o) (ha : atPath (oApp x) dp o = .ok o') : sApp i path m env = .ok (.nx, setS env i o') := by
  unfold sApp; rw [hp]; show (noErr (m env)).bind _ = _; rw [hx]; exact chg_ ho ha
theorem sApp0_ {o' : D} {l : List D} (h0 : eVar i env = .ok (.lst l)) (hx : mx env = .ok (x, e)) {o : D} (ho : eVar i e = .ok o) (ha : oApp x o = .ok o') : sApp0 i mx env = .ok (.nx, setS e i o') := by
  unfold sApp0; rw [h0]; show (mx env).bind _ = _; rw [hx]; exact chg_ (dp := []) ho ha
theorem sAug_ {gf : FD} (ho : eVar i env = .ok (.fz gf)) (hx : mx env = .ok (y, e)) (hf : f (.fz gf) y = .ok z) : sAug f i mx env = .ok (.nx, setS e i z) := by
  unfold sAug; rw [ho]; show (mx env).bind _ = _; rw [hx]; show (f (.fz gf) y).bind _ = _; rw [hf]
theorem xMv_ (h : eVar i env = .ok d) : xMv i env = .ok (d, env.set i none) := by unfold xMv; rw [h]
theorem xCallM1 {u : List D → Res (D × List D)} {as : List Arg} {p : List (Nat ⊕ D) × Env} {d1 v : D} (ha : xArgs (.io i :: as) env = .ok p) (hf : fill p.1 p.2 = .ok ds) (hm : u ds = .ok (v, [d1])) (hi : ios as = []) : xCallM u (.io i :: as) env = .ok (v, setS p.2 i d1) := by
  unfold xCallM
  rw [ha]
  show (fill p.1 p.2).bind _ = _
  rw [hf]
  show (u ds).bind _ = _
  rw [hm]
  show (putBack (i :: ios as) [d1] p.2).bind _ = _
  rw [hi]
  rfl
theorem xAndT {q : D × Env} (h : mx env = .ok (.fz (.bl true), e)) (h2 : my e = .ok q) : xAnd mx my env = .ok q := by unfold xAnd; rw [h]; exact h2
theorem xAndF (h : mx env = .ok (.fz (.bl false), e)) : xAnd mx my env = .ok (.fz (.bl false), e) := by unfold xAnd; rw [h]; rfl
theorem xAll_c {ms : List MX} {q : List D × Env} (h : mx env = .ok (d, e)) (h2 : xAll ms e = .ok q) : xAll (mx :: ms) env = .ok (d :: q.1, q.2) := by
  show ((mx env).bind fun p => (xAll ms p.2).bind fun q => Res.ok (p.1 :: q.1, q.2)) = _
  rw [h]
  show ((xAll ms e).bind _) = _
  rw [h2]
theorem xCall_ {ms : List MX} {q : List D × Env} {u : List D → Res D} (h : xAll ms env = .ok q) (h2 : u q.1 = .ok z) : xCall u ms env = .ok (z, q.2) := by
  unfold xCall; rw [h]; show (u q.1).bind _ = _; rw [h2]
theorem xTup_ {ms : List MX} {q : List D × Env} (h : xAll ms env = .ok q) (h2 : allF q.1 = .ok fs) : xTup ms env = .ok (.fz (.tup fs), q.2) := by
  unfold xTup; rw [h]; show (allF q.1).bind _ = _; rw [h2]
theorem need_t {α : Type} {p : Prop} [Decidable p] {w : Res α} (h : p) : need p w = w := if_pos h
theorem lo62 {n : Int} (hn : -1000000 < n) : -(2 ^ 62) ≤ n := Int.le_trans (by decide) (Int.le_of_lt hn)
theorem hi62 {n : Int} (hn : n < 1000000) : n < 2 ^ 62 := Int.lt_trans hn (by decide)
theorem bind_to {α β : Type} {u : Res α} {v : α} {t : α → Res β} {w : Res β} (h : u = .ok v) (h2 : t v = w) : u.bind t = w := by rw [h]; exact h2
theorem xsR1_ {n : Nat} (h : mx env = .ok (.fz (.int (n : Int)), e)) (hn : n < 1000000) : xsR1 mx env = .ok (rangeL 0 n, e) := by
  unfold xsR1
  refine bind_to h (bind_to (v := (n : Int)) rfl ?_)
  refine (need_t ⟨lo62 (by omega), hi62 (by omega)⟩).trans ?_
  rw [Int.toNat_natCast]
theorem xsR2_ {m n : Int} (h : mx env = .ok (.fz (.int m), e)) (h2 : my e = .ok (.fz (.int n), e2)) (hm : -1000000 < m ∧ m < 1000000) (hn : -1000000 < n ∧ n < 1000000) : xsR2 mx my env = .ok (rangeL m (n - m).toNat, e2) := by
  unfold xsR2
  refine bind_to h (bind_to (v := m) rfl (bind_to h2 (bind_to (v := n) rfl ?_)))
  exact need_t ⟨lo62 hm.1, hi62 hm.2, lo62 hn.1, hi62 hn.2⟩
theorem srcR1_ {n : Nat} (h : m env = .ok (.fz (.int (n : Int)))) (hn : n < 1000000) : srcR1 m env = .ok (rangeL 0 n) := by
  unfold srcR1
  refine bind_to h (bind_to (v := (n : Int)) rfl ?_)
  refine (need_t ⟨lo62 (by omega), hi62 (by omega)⟩).trans ?_
  rw [Int.toNat_natCast]
theorem srcR2_ {p n : Int} (h : ma env = .ok (.fz (.int p))) (h2 : mb env = .ok (.fz (.int n))) (hm : -1000000 < p ∧ p < 1000000) (hn : -1000000 < n ∧ n < 1000000) : srcR2 ma mb env = .ok (rangeL p (n - p).toNat) := by
  unfold srcR2
  refine bind_to h (bind_to (v := p) rfl (bind_to h2 (bind_to (v := n) rfl ?_)))
  exact need_t ⟨lo62 hm.1, hi62 hm.2, lo62 hn.1, hi62 hn.2⟩
theorem xA_n : xArgs [] env = .ok ([], env) := rfl
theorem xA_io {as : List Arg} {q : List (Nat ⊕ D) × Env} (h : eVar j env = .ok d) (h2 : xArgs as env = .ok q) : xArgs (.io j :: as) env = .ok (.inl j :: q.1, q.2) := by
  show ((eVar j env).bind fun _ => (xArgs as env).bind fun q => Res.ok (Sum.inl j :: q.1, q.2)) = _
  rw [h, h2]
theorem xA_ro {as : List Arg} {q : List (Nat ⊕ D) × Env} (h : eVar j env = .ok d) (h2 : xArgs as env = .ok q) : xArgs (.ro j :: as) env = .ok (.inl j :: q.1, q.2) := by
  show ((eVar j env).bind fun _ => (xArgs as env).bind fun q => Res.ok (Sum.inl j :: q.1, q.2)) = _
  rw [h, h2]
theorem xA_ex {as : List Arg} {q : List (Nat ⊕ D) × Env} (h : mx env = .ok (d, e)) (h2 : xArgs as e = .ok q) : xArgs (.ex mx :: as) env = .ok (.inr d :: q.1, q.2) := by
  show ((mx env).bind fun p => (xArgs as p.2).bind fun q => Res.ok (Sum.inr p.1 :: q.1, q.2)) = _
  rw [h]
  show ((xArgs as e).bind _) = _
  rw [h2]
theorem fnP_rt {np n : Nat} {body : S} (hl : ds.length = np) (h : body (start n ds) = .ok (.rt d, e)) : fnP np n body ds = .ok d := by
  unfold fnP; rw [need, if_pos hl, h]
theorem fnM_rt {np n : Nat} {body : S} {d1 : D} (hl : ds.length = np) (h : body (start n ds) = .ok (.rt d, e)) (h0 : e[0]? = some (some d1)) : fnM np n [0] body ds = .ok (d, [d1]) := by
  unfold fnM; rw [need, if_pos hl, h]
  show ((eVar 0 e).bind fun d => (Res.ok []).bind fun ds => Res.ok (d :: ds)).bind _ = _
  unfold eVar
  rw [h0]
end
end VL
set_option Elab.async false
set_option linter.all false
set_option maxRecDepth 100000
set_option maxHeartbeats 8000000
/-! M59: mirrors, printed by gen.py. -/
namespace M59
open PySem VL
noncomputable section
/-- slots: 0 script, 1 cell -/
def b_law_begin : S := sSeq (sRet (xF (eLst [eComp [1] (srcE (eVar 0)) (.nm 1) (eYes) (eCall (c1 cInt) [eVar 1]), eC (.int 0), eC (.int 0), eC (.int 7)])))
  (sNx)
def m_law_begin : List D → Res D := fnP 1 2 b_law_begin
/-- slots: 0 d, 1 many, 2 size, 3 found, 4 cell -/
def b_law_draw : S := sSeq (sIf (xF (eBin oGt (eBin oIx (eVar 0) (eC (.int 2))) (eC (.int 0))))
  (sSeq (sSet 3 (xZ (eBin oIx (eVar 0) (eC (.int 2)))))
  (sSeq (sPut 0 [] (eC (.int 2)) (xF (eBin oDiv (eVar 3) (eVar 1))))
  (sSeq (sRet (xF (eBin oMod (eCall (c1 cInt) [eVar 3]) (eVar 1))))
  (sNx))))
  (sNx))
  (sSeq (sSet 2 (xF (eC (.int 0))))
  (sSeq (sIf (xF (eBin oLt (eBin oIx (eVar 0) (eC (.int 1))) (eCall (c1 cLen) [eBin oIx (eVar 0) (eC (.int 0))])))
  (sSeq (sSet 4 (xZ (eBin oIx (eBin oIx (eVar 0) (eC (.int 0))) (eBin oIx (eVar 0) (eC (.int 1))))))
  (sSeq (sSet 2 (xF (eBin oAdd (eBin oMul (eC (.int 2)) (eCall (c1 cAbs) [eVar 4])) (eCall (c1 cInt) [eBin oLt (eVar 4) (eC (.int 0))]))))
  (sNx)))
  (sNx))
  (sSeq (sAugP oAddI 0 [] (eC (.int 1)) (eC (.int 1)))
  (sSeq (sIf (xF (eBin oGe (eVar 2) (eBin oMul (eC (.int 2)) (eBin oPow (eC (.int 10)) (eC (.int 18))))))
  (sSeq (sSet 3 (xF (eBin oMod (eCall (c1 cInt) [eBin oDiv (eVar 2) (eC (.int 2))]) (eBin oShl (eC (.int 1)) (eC (.int 6000))))))
  (sSeq (sPut 0 [] (eC (.int 2)) (xF (eBin oDiv (eVar 3) (eVar 1))))
  (sSeq (sRet (xF (eBin oMod (eCall (c1 cInt) [eVar 3]) (eVar 1))))
  (sNx))))
  (sNx))
  (sSeq (sPut 0 [] (eC (.int 3)) (xF (eBin oMod (eCall (c1 cInt) [eBin oAdd (eBin oAdd (eBin oAdd (eBin oMul (eBin oIx (eVar 0) (eC (.int 3))) (eC (.int 48271))) (eBin oMul (eBin oMod (eCall (c1 cInt) [eVar 2]) (eC (.int 2147483629))) (eC (.int 16807)))) (eBin oMul (eBin oIx (eVar 0) (eC (.int 1))) (eC (.int 69621)))) (eC (.int 11))]) (eC (.int 2147483647)))))
  (sSeq (sRet (xF (eBin oMod (eCall (c1 cInt) [eBin oDiv (eBin oIx (eVar 0) (eC (.int 3))) (eC (.int 16))]) (eVar 1))))
  (sNx)))))))
def m_law_draw : List D → Res (D × List D) := fnM 2 5 [0] b_law_draw
/-- slots: 0 d, 1 many -/
def b_law_rare : S := sSeq (sRet (xBin oEq (xCallM m_law_draw [.io 0, .ro 1]) (xF (eBin oDiv (eVar 1) (eC (.int 2))))))
  (sNx)
def m_law_rare : List D → Res (D × List D) := fnM 2 2 [0] b_law_rare
/-- slots: 0 d, 1 editions, 2 most, 3 many, 4 places, 5 routes, 6 turn, 7 first, 8 second, 9 k -/
def b_law_firm : S := sSeq (sSet 3 (xBin oAdd (xF (eC (.int 2))) (xCallM m_law_draw [.io 0, .ex (xF (eBin oSub (eVar 2) (eC (.int 1))))])))
  (sSeq (sSet 4 (xCall (c1 cTuple) [xComp [9] (xsR1 (xZ (eVar 3))) (.nm 9) (xYes) (xCallM m_law_draw [.io 0, .ro 1])]))
  (sSeq (sSet 5 (xComp [9] (xsR2 (xF (eC (.int 1))) (xZ (eVar 3))) (.nm 9) (xYes) (xTup [xCallM m_law_draw [.io 0, .ro 9], xZ (eVar 9)])))
  (sSeq (sFor (srcR1 (eC (.int 2))) (.nm 6) [0, 5, 6, 7, 8] [6, 7, 8]
  (sSeq (sSet 7 (xCallM m_law_draw [.io 0, .ex (xF (eBin oSub (eVar 3) (eC (.int 1))))]))
  (sSeq (sSet 8 (xBin oAdd (xF (eBin oAdd (eVar 7) (eC (.int 1)))) (xCallM m_law_draw [.io 0, .ex (xF (eBin oSub (eBin oSub (eVar 3) (eC (.int 1))) (eVar 7)))])))
  (sSeq (sIf (xAnd (xF (eBin oNotIn (eTup [eVar 7, eVar 8]) (eVar 5))) (xBin oEq (xCallM m_law_draw [.io 0, .ex (xF (eC (.int 2)))]) (xF (eC (.int 1)))))
  (sSeq (sApp 5 [] (eTup [eVar 7, eVar 8]))
  (sNx))
  (sNx))
  (sNx)))))
  (sSeq (sRet (xF (eTup [eVar 4, eCall (c1 cTuple) [eCall (c1 cSorted) [eVar 5]]])))
  (sNx)))))
def m_law_firm : List D → Res (D × List D) := fnM 3 10 [0] b_law_firm
/-- slots: 0 firm, 1 near, 2 first, 3 second, 4 place, 5 row -/
def b_law_near : S := sSeq (sSet 1 (xF (eComp [4] (srcE (eBin oIx (eVar 0) (eC (.int 0)))) (.nm 4) (eYes) (eLst []))))
  (sSeq (sFor (srcE (eBin oIx (eVar 0) (eC (.int 1)))) (.tp [2, 3]) [1, 2, 3] [2, 3]
  (sSeq (sApp 1 [eVar 2] (eFz (eVar 3)))
  (sSeq (sApp 1 [eVar 3] (eFz (eVar 2)))
  (sNx))))
  (sSeq (sRet (xF (eComp [5] (srcE (eVar 1)) (.nm 5) (eYes) (eCall (c1 cSorted) [eVar 5]))))
  (sNx)))
def m_law_near : List D → Res D := fnP 1 6 b_law_near
/-- slots: 0 firm, 1 near, 2 pairs, 3 x, 4 y -/
def b_law_pairs : S := sSeq (sSet 1 (xF (eCall m_law_near [eVar 0])))
  (sSeq (sSet 2 (xF (eLst [])))
  (sSeq (sFor (srcR1 (eCall (c1 cLen) [eBin oIx (eVar 0) (eC (.int 0))])) (.nm 3) [2, 3, 4] [3, 4]
  (sSeq (sSet 2 (xF (eBin oAdd (eVar 2) (eComp [4] (srcE (eBin oIx (eVar 1) (eVar 3))) (.nm 4) (eYes) (eTup [eVar 3, eVar 4])))))
  (sNx)))
  (sSeq (sRet (xMv 2))
  (sNx))))
def m_law_pairs : List D → Res D := fnP 1 5 b_law_pairs
/-- slots: 0 value -/
def b_is_integer : S := sSeq (sRet (xZ (eAnd (eUn (fun d => .ok (.fz (.bl (isTy .int d)))) (eVar 0)) (eNot (eUn (fun d => .ok (.fz (.bl (isTy .bool d)))) (eVar 0))))))
  (sNx)
def m_is_integer : List D → Res D := fnP 1 1 b_is_integer
/-- slots: 0 value, 1 low, 2 high -/
def b_is_between : S := sSeq (sRet (xZ (eAnd (eCall m_is_integer [eVar 0]) (eChain oLe oLe (eVar 1) (eVar 0) (eVar 2)))))
  (sNx)
def m_is_between : List D → Res D := fnP 3 3 b_is_between
/-- slots: 0 value, 1 editions, 2 edition -/
def b_are_places : S := sSeq (sIf (xF (eOr (eNot (eUn (fun d => .ok (.fz (.bl (isTy .tuple d)))) (eVar 0))) (eNot (eChain oLe oLe (eC (.int 2)) (eCall (c1 cLen) [eVar 0]) (eC (.int 24))))))
  (sSeq (sRet (xF (eC (.bl false))))
  (sNx))
  (sNx))
  (sSeq (sFor (srcE (eVar 0)) (.nm 2) [2] [2]
  (sSeq (sIf (xF (eNot (eCall m_is_between [eVar 2, eC (.int 0), eBin oSub (eVar 1) (eC (.int 1))])))
  (sSeq (sRet (xF (eC (.bl false))))
  (sNx))
  (sNx))
  (sNx)))
  (sSeq (sRet (xF (eC (.bl true))))
  (sNx)))
def m_are_places : List D → Res D := fnP 2 3 b_are_places
/-- slots: 0 value, 1 many, 2 before, 3 route -/
def b_are_routes : S := sSeq (sIf (xF (eNot (eUn (fun d => .ok (.fz (.bl (isTy .tuple d)))) (eVar 0))))
  (sSeq (sRet (xF (eC (.bl false))))
  (sNx))
  (sNx))
  (sSeq (sSet 2 (xF (eTup [eUn oNeg (eC (.int 1)), eUn oNeg (eC (.int 1))])))
  (sSeq (sFor (srcE (eVar 0)) (.nm 3) [2, 3] [3]
  (sSeq (sIf (xF (eOr (eNot (eUn (fun d => .ok (.fz (.bl (isTy .tuple d)))) (eVar 3))) (eBin oNe (eCall (c1 cLen) [eVar 3]) (eC (.int 2)))))
  (sSeq (sRet (xF (eC (.bl false))))
  (sNx))
  (sNx))
  (sSeq (sIf (xF (eOr (eNot (eCall m_is_between [eBin oIx (eVar 3) (eC (.int 0)), eC (.int 0), eBin oSub (eVar 1) (eC (.int 1))])) (eNot (eCall m_is_between [eBin oIx (eVar 3) (eC (.int 1)), eC (.int 0), eBin oSub (eVar 1) (eC (.int 1))]))))
  (sSeq (sRet (xF (eC (.bl false))))
  (sNx))
  (sNx))
  (sSeq (sIf (xF (eOr (eBin oGe (eBin oIx (eVar 3) (eC (.int 0))) (eBin oIx (eVar 3) (eC (.int 1)))) (eBin oLe (eVar 3) (eVar 2))))
  (sSeq (sRet (xF (eC (.bl false))))
  (sNx))
  (sNx))
  (sSeq (sSet 2 (xMv 3))
  (sNx))))))
  (sSeq (sRet (xF (eC (.bl true))))
  (sNx))))
def m_are_routes : List D → Res D := fnP 2 4 b_are_routes
/-- slots: 0 firm, 1 near, 2 first, 3 second, 4 place, 5 row -/
def b_near_of : S := sSeq (sSet 1 (xF (eComp [4] (srcE (eBin oIx (eVar 0) (eC (.int 0)))) (.nm 4) (eYes) (eLst []))))
  (sSeq (sFor (srcE (eBin oIx (eVar 0) (eC (.int 1)))) (.tp [2, 3]) [1, 2, 3] [2, 3]
  (sSeq (sApp 1 [eVar 2] (eFz (eVar 3)))
  (sSeq (sApp 1 [eVar 3] (eFz (eVar 2)))
  (sNx))))
  (sSeq (sRet (xF (eCall (c1 cTuple) [eComp [5] (srcE (eVar 1)) (.nm 5) (eYes) (eCall (c1 cTuple) [eCall (c1 cSorted) [eVar 5]])])))
  (sNx)))
def m_near_of : List D → Res D := fnP 1 6 b_near_of
/-- slots: 0 near, 1 office, 2 found, 3 line, 4 at, 5 here, 6 other, 7 row -/
def b_ways_from : S := sSeq (sSet 2 (xF (eComp [7] (srcE (eVar 0)) (.nm 7) (eYes) (eC .non))))
  (sSeq (sPut 2 [] (eVar 1) (xF (eC (.int 0))))
  (sSeq (sSet 3 (xF (eLst [eFz (eVar 1)])))
  (sSeq (sSet 4 (xF (eC (.int 0))))
  (sSeq (sWhile (xF (eBin oLt (eVar 4) (eCall (c1 cLen) [eVar 3]))) [5, 6]
  (sSeq (sSet 5 (xZ (eBin oIx (eVar 3) (eVar 4))))
  (sSeq (sAug oAddI 4 (xF (eC (.int 1))))
  (sSeq (sFor (srcE (eBin oIx (eVar 0) (eVar 5))) (.nm 6) [2, 3, 6] [6]
  (sSeq (sIf (xF (eUn oIsN (eBin oIx (eVar 2) (eVar 6))))
  (sSeq (sPut 2 [] (eVar 6) (xF (eBin oAdd (eBin oIx (eVar 2) (eVar 5)) (eC (.int 1)))))
  (sSeq (sApp0 3 (xMv 6))
  (sNx)))
  (sNx))
  (sNx)))
  (sNx)))))
  (sSeq (sRet (xMv 2))
  (sNx))))))
def m_ways_from : List D → Res D := fnP 2 8 b_ways_from
/-- slots: 0 editions, 1 value -/
def b_firm_fault : S := sSeq (sIf (xF (eOr (eNot (eUn (fun d => .ok (.fz (.bl (isTy .tuple d)))) (eVar 1))) (eBin oNe (eCall (c1 cLen) [eVar 1]) (eC (.int 2)))))
  (sSeq (sRet (xF (eC (.str "firm"))))
  (sNx))
  (sNx))
  (sSeq (sIf (xF (eNot (eCall m_are_places [eBin oIx (eVar 1) (eC (.int 0)), eVar 0])))
  (sSeq (sRet (xF (eC (.str "places"))))
  (sNx))
  (sNx))
  (sSeq (sIf (xF (eNot (eCall m_are_routes [eBin oIx (eVar 1) (eC (.int 1)), eCall (c1 cLen) [eBin oIx (eVar 1) (eC (.int 0))]])))
  (sSeq (sRet (xF (eC (.str "routes"))))
  (sNx))
  (sNx))
  (sSeq (sIf (xF (eBin oIn (eC .non) (eCall m_ways_from [eCall m_near_of [eVar 1], eC (.int 0)])))
  (sSeq (sRet (xF (eC (.str "joined"))))
  (sNx))
  (sNx))
  (sSeq (sRet (xF (eC .non)))
  (sNx)))))
def m_firm_fault : List D → Res D := fnP 2 2 b_firm_fault
/-- slots: 0 book, 1 firm, 2 editions, 3 wrong -/
def b_check_firm : S := sSeq (sSet 2 (xF (eC (.int 2))))
  (sSeq (sIf (xF (eUn oNotN (eVar 0)))
  (sSeq (sNever)
  (sSeq (sSet 2 (xF (eCall (c1 cLen) [eBin oIx (eVar 0) (eC (.int 2))])))
  (sNx)))
  (sNx))
  (sSeq (sSet 3 (xF (eCall m_firm_fault [eVar 2, eVar 1])))
  (sSeq (sIf (xF (eUn oNotN (eVar 3)))
  (sSeq (sNever)
  (sNx))
  (sNx))
  (sSeq (sRet (xZ (eVar 1)))
  (sNx)))))
def m_check_firm : List D → Res D := fnP 2 4 b_check_firm
/-- slots: 0 firm, 1 near, 2 line, 3 seen, 4 pairs, 5 at, 6 here, 7 other -/
def b_tree_from : S := sSeq (sSet 1 (xF (eCall m_near_of [eVar 0])))
  (sSeq (sSet 2 (xF (eLst [eC (.int 0)])))
  (sSeq (sSet 3 (xF (eDic [(eC (.int 0), eC (.bl true))])))
  (sSeq (sSet 4 (xF (eLst [])))
  (sSeq (sSet 5 (xF (eC (.int 0))))
  (sSeq (sWhile (xF (eBin oLt (eVar 5) (eCall (c1 cLen) [eVar 2]))) [6, 7]
  (sSeq (sSet 6 (xZ (eBin oIx (eVar 2) (eVar 5))))
  (sSeq (sAug oAddI 5 (xF (eC (.int 1))))
  (sSeq (sFor (srcE (eBin oIx (eVar 1) (eVar 6))) (.nm 7) [2, 3, 4, 7] [7]
  (sSeq (sIf (xF (eBin oNotIn (eVar 7) (eVar 3)))
  (sSeq (sPut 3 [] (eVar 7) (xF (eC (.bl true))))
  (sSeq (sApp0 2 (xZ (eVar 7)))
  (sSeq (sApp 4 [] (eTup [eVar 7, eVar 6]))
  (sNx))))
  (sNx))
  (sNx)))
  (sNx)))))
  (sSeq (sRet (xMv 4))
  (sNx)))))))
def m_tree_from : List D → Res D := fnP 1 8 b_tree_from
/-- slots: 0 firm, 1 pairs, 2 inward, 3 outward, 4 office, 5 parent -/
def b_fewest_passes : S := sSeq (sExpr (xF (eCall m_check_firm [eC .non, eVar 0])))
  (sSeq (sSet 1 (xF (eCall m_tree_from [eVar 0])))
  (sSeq (sSet 2 (xF (eComp [4, 5] (srcE (eUn oRev (eVar 1))) (.tp [4, 5]) (eYes) (eTup [eVar 4, eVar 5]))))
  (sSeq (sSet 3 (xF (eComp [4, 5] (srcE (eVar 1)) (.tp [4, 5]) (eYes) (eTup [eVar 5, eVar 4]))))
  (sSeq (sRet (xF (eCall (c1 cTuple) [eBin oAdd (eVar 2) (eVar 3)])))
  (sNx)))))
def m_fewest_passes : List D → Res D := fnP 1 6 b_fewest_passes
/-- slots: 0 thing -/
def b_law_is_int : S := sSeq (sRet (xZ (eAnd (eUn (fun d => .ok (.fz (.bl (isTy .int d)))) (eVar 0)) (eNot (eUn (fun d => .ok (.fz (.bl (isTy .bool d)))) (eVar 0))))))
  (sNx)
def m_law_is_int : List D → Res D := fnP 1 1 b_law_is_int
/-- slots: 0 many, 1 passes, 2 rows, 3 x, 4 y, 5 z, 6 row -/
def b_law_all_know : S := sSeq (sSet 2 (xF (eComp [3] (srcR1 (eVar 0)) (.nm 3) (eYes) (eLst [eFz (eVar 3)]))))
  (sSeq (sFor (srcE (eVar 1)) (.tp [3, 4]) [2, 3, 4, 5] [3, 4, 5]
  (sSeq (sPut 2 [] (eVar 4) (xF (eBin oAdd (eBin oIx (eVar 2) (eVar 4)) (eComp [5] (srcE (eBin oIx (eVar 2) (eVar 3))) (.nm 5) (eBin oNotIn (eVar 5) (eBin oIx (eVar 2) (eVar 4))) (eFz (eVar 5))))))
  (sNx)))
  (sSeq (sRet (xF (eBin oEq (eCall (c1 cMin1) [eComp [6] (srcE (eVar 2)) (.nm 6) (eYes) (eCall (c1 cLen) [eVar 6])]) (eVar 0))))
  (sNx)))
def m_law_all_know : List D → Res D := fnP 2 7 b_law_all_know
/-- slots: 0 d, 1 row -/
def b_law_pick : S := sSeq (sRet (xIxV 1 (xCallM m_law_draw [.io 0, .ex (xF (eCall (c1 cLen) [eVar 1]))])))
  (sNx)
def m_law_pick : List D → Res (D × List D) := fnM 2 2 [0] b_law_pick
/-- slots: 0 firm, 1 many, 2 rows, 3 step, 4 longer, 5 row, 6 pair -/
def b_law_none_shorter : S := sSeq (sSet 1 (xF (eCall (c1 cLen) [eBin oIx (eVar 0) (eC (.int 0))])))
  (sSeq (sSet 2 (xF (eLst [eTup []])))
  (sSeq (sFor (srcR1 (eBin oSub (eBin oMul (eC (.int 2)) (eVar 1)) (eC (.int 3)))) (.nm 3) [2, 3, 4, 5, 6] [3, 4, 5, 6]
  (sSeq (sSet 4 (xF (eLst [])))
  (sSeq (sFor (srcE (eVar 2)) (.nm 5) [4, 5, 6] [5, 6]
  (sSeq (sSet 4 (xF (eBin oAdd (eVar 4) (eComp [6] (srcE (eCall m_law_pairs [eVar 0])) (.nm 6) (eYes) (eBin oAdd (eVar 5) (eTup [eVar 6]))))))
  (sNx)))
  (sSeq (sSet 2 (xMv 4))
  (sNx)))))
  (sSeq (sRet (xF (eNot (eCall (c1 cAny) [eComp [5] (srcE (eVar 2)) (.nm 5) (eYes) (eCall m_law_all_know [eVar 1, eVar 5])]))))
  (sNx))))
def m_law_none_shorter : List D → Res D := fnP 1 7 b_law_none_shorter
/-- slots: 0 script, 1 d, 2 most, 3 firm, 4 many, 5 pairs, 6 told, 7 row, 8 drawn, 9 k, 10 x -/
def b_law : S := sSeq (sSet 1 (xF (eCall m_law_begin [eVar 0])))
  (sSeq (sSet 2 (xF (eC (.int 6))))
  (sSeq (sIf (xCallM m_law_rare [.io 1, .ex (xF (eC (.int 16)))])
  (sSeq (sSet 2 (xF (eC (.int 24))))
  (sNx))
  (sNx))
  (sSeq (sSet 3 (xCallM m_law_firm [.io 1, .ex (xF (eC (.int 2))), .ro 2]))
  (sSeq (sSet 4 (xF (eCall (c1 cLen) [eBin oIx (eVar 3) (eC (.int 0))])))
  (sSeq (sSet 5 (xF (eCall m_law_pairs [eVar 3])))
  (sSeq (sSet 6 (xF (eCall m_fewest_passes [eVar 3])))
  (sSeq (sIf (xF (eOr (eNot (eUn (fun d => .ok (.fz (.bl (isTy .tuple d)))) (eVar 6))) (eBin oNe (eCall (c1 cLen) [eVar 6]) (eBin oSub (eBin oMul (eC (.int 2)) (eVar 4)) (eC (.int 2))))))
  (sSeq (sRet (xF (eC (.bl false))))
  (sNx))
  (sNx))
  (sSeq (sFor (srcE (eVar 6)) (.nm 7) [7, 10] [7, 10]
  (sSeq (sIf (xF (eOr (eNot (eUn (fun d => .ok (.fz (.bl (isTy .tuple d)))) (eVar 7))) (eOr (eBin oNe (eCall (c1 cLen) [eVar 7]) (eC (.int 2))) (eOr (eNot (eCall (c1 cAll) [eComp [10] (srcE (eVar 7)) (.nm 10) (eYes) (eCall m_law_is_int [eVar 10])])) (eBin oNotIn (eVar 7) (eVar 5))))))
  (sSeq (sRet (xF (eC (.bl false))))
  (sNx))
  (sNx))
  (sNx)))
  (sSeq (sIf (xF (eNot (eCall m_law_all_know [eVar 4, eVar 6])))
  (sSeq (sRet (xF (eC (.bl false))))
  (sNx))
  (sNx))
  (sSeq (sIf (xF (eCall (c1 cAny) [eComp [9] (srcR1 (eCall (c1 cLen) [eVar 6])) (.nm 9) (eYes) (eCall m_law_all_know [eVar 4, eBin oAdd (eCut (eVar 6) (none) (some (eVar 9))) (eCut (eVar 6) (some (eBin oAdd (eVar 9) (eC (.int 1)))) (none))])]))
  (sSeq (sRet (xF (eC (.bl false))))
  (sNx))
  (sNx))
  (sSeq (sSet 8 (xComp [9] (xsR1 (xF (eBin oSub (eBin oMul (eC (.int 2)) (eVar 4)) (eC (.int 3))))) (.nm 9) (xYes) (xCallM m_law_pick [.io 1, .ro 5])))
  (sSeq (sIf (xF (eOr (eCall m_law_all_know [eVar 4, eVar 8]) (eCall m_law_all_know [eVar 4, eCut (eVar 6) (some (eC (.int 1))) (none)])))
  (sSeq (sRet (xF (eC (.bl false))))
  (sNx))
  (sNx))
  (sSeq (sRet (xZ (eOr (eBin oGt (eVar 4) (eC (.int 3))) (eCall m_law_none_shorter [eVar 3]))))
  (sNx))))))))))))))
def m_law : List D → Res D := fnP 1 11 b_law
end
end M59
set_option Elab.async false
set_option linter.all false
/-! G59: passing on what one knows: 2n - 2 one-way passes are needed, and a tree does with them. Plain lists. -/
namespace G59
theorem len_le : ∀ {l m : List Nat}, l.Nodup → (∀ x ∈ l, x ∈ m) → l.length ≤ m.length
  | [], _, _, _ => Nat.zero_le _
  | x :: l, m, h, s => by
    have hx : x ∈ m := s x List.mem_cons_self
    have h2 := List.nodup_cons.mp h
    have ih := len_le (l := l) (m := m.erase x) h2.2 fun y hy => (List.mem_erase_of_ne (fun e : y = x => h2.1 (e ▸ hy))).mpr (s y (List.mem_cons_of_mem _ hy))
    rw [List.length_erase_of_mem hx] at ih
    have : 0 < m.length := List.length_pos_of_mem hx
    rw [List.length_cons]
    omega
theorem full_iff {n : Nat} {l : List Nat} (nd : l.Nodup) (b : ∀ x ∈ l, x < n) : l.length ≤ n ∧ (l.length = n ↔ ∀ z, z < n → z ∈ l) := by
  have h1 : l.length ≤ n := by
    have := len_le nd (m := List.range n) fun x hx => List.mem_range.mpr (b x hx)
    rwa [List.length_range] at this
  refine ⟨h1, fun e z hz => Classical.byContradiction fun hn => ?_, fun h => Nat.le_antisymm h1 ?_⟩
  · have := len_le (l := z :: l) (m := List.range n) (List.nodup_cons.mpr ⟨hn, nd⟩) fun x hx => by
      rcases List.mem_cons.mp hx with rfl | hx
      · exact List.mem_range.mpr hz
      · exact List.mem_range.mpr (b x hx)
    rw [List.length_range, List.length_cons] at this
    omega
  · have := len_le (l := List.range n) (m := l) List.nodup_range fun x hx => h x (List.mem_range.mp hx)
    rwa [List.length_range] at this
/-- one pass -/
def kstep (K : Nat → List Nat) (p : Nat × Nat) : Nat → List Nat := fun v => if v = p.2 then K p.2 ++ (K p.1).filter (fun z => !decide (z ∈ K p.2)) else K v
/-- what is known behind the passes -/
def Kn (ps : List (Nat × Nat)) : Nat → List Nat := ps.foldl kstep fun v => [v]
theorem mem_step {K : Nat → List Nat} {p : Nat × Nat} {v z : Nat} : z ∈ kstep K p v ↔ z ∈ K v ∨ (v = p.2 ∧ z ∈ K p.1) := by
  unfold kstep
  by_cases e : v = p.2
  · subst e
    simp only [if_true, List.mem_append, List.mem_filter, Bool.not_eq_true', decide_eq_false_iff_not, true_and]
    constructor
    · rintro (h | h)
      · exact .inl h
      · exact .inr h.1
    · rintro (h | h)
      · exact .inl h
      · by_cases c : z ∈ K p.2
        · exact .inl c
        · exact .inr ⟨h, c⟩
  · rw [if_neg e]
    exact ⟨.inl, fun h => h.elim id fun k => absurd k.1 e⟩
theorem step_nodup {K : Nat → List Nat} {p : Nat × Nat} (h : ∀ v, (K v).Nodup) (v : Nat) : (kstep K p v).Nodup := by
  unfold kstep
  by_cases e : v = p.2
  · rw [if_pos e]
    refine List.nodup_append.mpr ⟨h _, (h _).filter _, fun a ha b hb e => ?_⟩
    subst e
    have := (List.mem_filter.mp hb).2
    simp [ha] at this
  · rw [if_neg e]; exact h v
/-- told from the last pass on -/
def Kr : List (Nat × Nat) → Nat → List Nat
  | [], v => [v]
  | p :: r, v => kstep (Kr r) p v
theorem Kn_snoc (ps : List (Nat × Nat)) (p : Nat × Nat) : Kn (ps ++ [p]) = kstep (Kn ps) p := by
  unfold Kn
  rw [List.foldl_append]
  rfl
theorem Kr_eq : ∀ (r : List (Nat × Nat)), Kr r = Kn r.reverse
  | [] => rfl
  | p :: r => by
    rw [List.reverse_cons, Kn_snoc, ← Kr_eq r]
    rfl
theorem Kn_eq (ps : List (Nat × Nat)) : Kn ps = Kr ps.reverse := by rw [Kr_eq, List.reverse_reverse]
theorem Kr_nodup : ∀ (r : List (Nat × Nat)) (v : Nat), (Kr r v).Nodup
  | [], v => by unfold Kr; simp
  | p :: r, v => step_nodup (Kr_nodup r) v
theorem Kr_lt {n : Nat} : ∀ (r : List (Nat × Nat)), (∀ p ∈ r, p.1 < n ∧ p.2 < n) → ∀ v, v < n → ∀ z ∈ Kr r v, z < n
  | [], _, v, hv, z, hz => by
    have : z = v := by simpa [Kr] using hz
    omega
  | p :: r, h, v, hv, z, hz => by
    have ih := Kr_lt r fun q hq => h q (List.mem_cons_of_mem _ hq)
    rcases mem_step.mp (show z ∈ kstep (Kr r) p v from hz) with k | ⟨_, k⟩
    · exact ih v hv z k
    · exact ih p.1 (h p List.mem_cons_self).1 z k
theorem Kn_nodup (ps : List (Nat × Nat)) (v : Nat) : (Kn ps v).Nodup := by rw [Kn_eq]; exact Kr_nodup _ v
theorem Kn_lt {n : Nat} {ps : List (Nat × Nat)} (h : ∀ p ∈ ps, p.1 < n ∧ p.2 < n) {v : Nat} (hv : v < n) : ∀ z ∈ Kn ps v, z < n := by
  rw [Kn_eq]
  exact Kr_lt _ (fun p hp => h p (List.mem_reverse.mp hp)) v hv
def Full (n : Nat) (l : List Nat) : Prop := ∀ z, z < n → z ∈ l
/-! ### no fewer -/
theorem senders : ∀ (r : List (Nat × Nat)) (v z : Nat), z ∈ Kr r v → z = v ∨ z ∈ r.map (·.1)
  | [], v, z, h => .inl (by simpa [Kr] using h)
  | p :: r, v, z, h => by
    rcases mem_step.mp (show z ∈ kstep (Kr r) p v from h) with k | ⟨_, k⟩
    · exact (senders r v z k).imp id fun q => List.mem_cons_of_mem _ q
    · rcases senders r p.1 z k with e | q
      · exact .inr (by rw [e]; exact List.mem_cons_self)
      · exact .inr (List.mem_cons_of_mem _ q)
theorem receivers (r1 : List (Nat × Nat)) : ∀ (r2 : List (Nat × Nat)) (v : Nat), v ∉ r2.map (·.2) → Kr (r2 ++ r1) v = Kr r1 v
  | [], _, _ => rfl
  | p :: r2, v, h => by
    have h1 : v ≠ p.2 := fun e => h (by rw [e]; exact List.mem_cons_self)
    have ih := receivers r1 r2 v fun q => h (List.mem_cons_of_mem _ q)
    show kstep (Kr (r2 ++ r1)) p v = _
    unfold kstep
    rw [if_neg h1, ih]
theorem first_full {n : Nat} (hn : 2 ≤ n) : ∀ (r : List (Nat × Nat)), (∃ v, v < n ∧ Full n (Kr r v)) → ∃ r2 p r1, r = r2 ++ p :: r1 ∧ (∃ v, v < n ∧ Full n (Kr (p :: r1) v)) ∧ ¬ ∃ v, v < n ∧ Full n (Kr r1 v)
  | [], ⟨v, _, h⟩ => by
    have h0 : 0 = v := by simpa [Kr] using h 0 (by omega)
    have h1 : 1 = v := by simpa [Kr] using h 1 (by omega)
    omega
  | p :: r, h => by
    by_cases c : ∃ v, v < n ∧ Full n (Kr r v)
    · obtain ⟨r2, q, r1, e, h1, h2⟩ := first_full hn r c
      exact ⟨p :: r2, q, r1, by rw [e]; rfl, h1, h2⟩
    · exact ⟨[], p, r, rfl, h, c⟩
theorem others {n x : Nat} {l : List Nat} (h : ∀ z, z < n → z ≠ x → z ∈ l) : n - 1 ≤ l.length := by
  have := len_le (l := (List.range n).erase x) (m := l) (List.nodup_range.erase x) fun z hz => by
    have h1 := (List.Nodup.mem_erase_iff List.nodup_range).mp hz
    exact h z (List.mem_range.mp h1.2) h1.1
  rw [List.length_erase, List.length_range] at this
  split at this <;> omega
theorem no_fewer {n : Nat} (hn : 2 ≤ n) {ps : List (Nat × Nat)} (h : ∀ v, v < n → Full n (Kn ps v)) : 2 * n - 2 ≤ ps.length := by
  rw [Kn_eq] at h
  obtain ⟨r2, p, r1, e, ⟨x, hx, fx⟩, no⟩ := first_full hn ps.reverse ⟨0, by omega, h 0 (by omega)⟩
  have only : ∀ v, v < n → Full n (Kr (p :: r1) v) → v = p.2 := fun v hv fv => Classical.byContradiction fun c => no ⟨v, hv, by
    have e1 : Kr (p :: r1) v = Kr r1 v := by
      show kstep (Kr r1) p v = _
      unfold kstep
      rw [if_neg c]
    rw [← e1]; exact fv⟩
  have ex := only x hx fx
  have l1 : n - 1 ≤ ((p :: r1).map (·.1)).length := others (x := x) fun z hz hne => (senders (p :: r1) x z (fx z hz)).resolve_left hne
  have l2 : n - 1 ≤ (r2.map (·.2)).length := others (x := x) fun v hv hne => Classical.byContradiction fun c => by
    have k := receivers (p :: r1) r2 v c
    have fv := h v hv
    rw [e, k] at fv
    exact hne ((only v hv fv).trans ex.symm)
  have l3 := congrArg List.length e
  rw [List.length_reverse, List.length_append] at l3
  rw [List.length_map] at l1 l2
  omega
/-! ### a tree's passes -/
/-- each child's parent stands ahead -/
def TreeOk : List Nat → List (Nat × Nat) → Prop
  | _, [] => True
  | S, (c, p) :: b => p ∈ S ∧ TreeOk (c :: S) b
theorem TreeOk.mono : ∀ {T : List (Nat × Nat)} {S S' : List Nat}, (∀ x ∈ S, x ∈ S') → TreeOk S T → TreeOk S' T
  | [], _, _, _, _ => trivial
  | (c, p) :: b, S, S', h, ⟨h1, h2⟩ => ⟨h p h1, h2.mono fun x hx => by
    rcases List.mem_cons.mp hx with rfl | hx
    · exact List.mem_cons_self
    · exact List.mem_cons_of_mem _ (h x hx)⟩
theorem TreeOk.snoc : ∀ {T : List (Nat × Nat)} {S : List Nat} {c p : Nat}, TreeOk S T → (p ∈ S ∨ p ∈ T.map (·.1)) → TreeOk S (T ++ [(c, p)])
  | [], _, _, _, _, h => ⟨h.resolve_right (by simp), trivial⟩
  | (d, q) :: b, S, c, p, ⟨h1, h2⟩, h => ⟨h1, h2.snoc (by
    rcases h with h | h
    · exact .inl (List.mem_cons_of_mem _ h)
    · rcases List.mem_cons.mp h with e | h
      · exact .inl (by rw [e]; exact List.mem_cons_self)
      · exact .inr h)⟩
theorem TreeOk.last : ∀ {T : List (Nat × Nat)} {S : List Nat} {c p : Nat}, TreeOk S (T ++ [(c, p)]) → TreeOk S T ∧ (p ∈ S ∨ p ∈ T.map (·.1))
  | [], _, _, _, h => ⟨trivial, .inl h.1⟩
  | (d, q) :: b, S, c, p, ⟨h1, h2⟩ => by
    obtain ⟨k1, k2⟩ := TreeOk.last (T := b) (S := d :: S) h2
    refine ⟨⟨h1, k1⟩, ?_⟩
    rcases k2 with k | k
    · rcases List.mem_cons.mp k with rfl | k
      · exact .inr List.mem_cons_self
      · exact .inl k
    · exact .inr (List.mem_cons_of_mem _ k)
theorem inward {n : Nat} {K : Nat → List Nat} {S : List Nat} : ∀ (U : List (Nat × Nat)) (K : Nat → List Nat), TreeOk [0] U.reverse → (∀ z, z < n → ∃ v, (v = 0 ∨ v ∈ U.map (·.1)) ∧ z ∈ K v) → Full n (U.foldl kstep K 0)
  | [], K, _, h => fun z hz => by
    obtain ⟨v, hv, k⟩ := h z hz
    rcases hv with rfl | hv
    · exact k
    · cases hv
  | (c, p) :: b, K, t, h => by
    rw [List.reverse_cons] at t
    obtain ⟨t1, t2⟩ := t.last
    refine inward (K := K) (S := S) b (kstep K (c, p)) t1 fun z hz => ?_
    obtain ⟨v, hv, k⟩ := h z hz
    have hp : p = 0 ∨ p ∈ b.map (·.1) := by
      rcases t2 with t2 | t2
      · exact .inl (by simpa using t2)
      · refine .inr ?_
        rw [List.map_reverse] at t2
        exact List.mem_reverse.mp t2
    by_cases e : v = c
    · subst e
      exact ⟨p, hp, mem_step.mpr (.inr ⟨rfl, k⟩)⟩
    · refine ⟨v, ?_, mem_step.mpr (.inl k)⟩
      rcases hv with hv | hv
      · exact .inl hv
      · exact .inr ((List.mem_cons.mp hv).resolve_left e)
theorem outward {n : Nat} : ∀ (T : List (Nat × Nat)) (S : List Nat) (K : Nat → List Nat), TreeOk S T → (∀ v ∈ S, Full n (K v)) → ∀ v, (v ∈ S ∨ v ∈ T.map (·.1)) → Full n ((T.map fun q => (q.2, q.1)).foldl kstep K v)
  | [], S, K, _, h, v, hv => h v (hv.resolve_right (by simp))
  | (c, p) :: b, S, K, ⟨t1, t2⟩, h, v, hv => by
    refine outward b (c :: S) (kstep K (p, c)) t2 (fun u hu z hz => ?_) v ?_
    · rcases List.mem_cons.mp hu with rfl | hu
      · exact mem_step.mpr (.inr ⟨rfl, h p t1 z hz⟩)
      · exact mem_step.mpr (.inl (h u hu z hz))
    · rcases hv with hv | hv
      · exact .inl (List.mem_cons_of_mem _ hv)
      · rcases List.mem_cons.mp hv with e | hv
        · exact .inl (by rw [e]; exact List.mem_cons_self)
        · exact .inr hv
theorem enough {n : Nat} {T : List (Nat × Nat)} (t : TreeOk [0] T) (all : ∀ v, v < n → v = 0 ∨ v ∈ T.map (·.1)) : ∀ v, v < n → Full n (Kn (T.reverse ++ T.map fun q => (q.2, q.1)) v) := by
  intro v hv
  unfold Kn
  rw [List.foldl_append]
  refine outward T [0] _ t (fun u hu => ?_) v ?_
  · have e : u = 0 := by simpa using hu
    subst e
    refine inward (K := fun v => [v]) (S := []) T.reverse _ (by rw [List.reverse_reverse]; exact t) fun z hz => ⟨z, ?_, List.mem_singleton.mpr rfl⟩
    rcases all z hz with e | k
    · exact .inl e
    · exact .inr (by rw [List.map_reverse]; exact List.mem_reverse.mpr k)
  · rcases all v hv with e | k
    · exact .inl (by rw [e]; exact List.mem_singleton.mpr rfl)
    · exact .inr k
end G59
set_option Elab.async false
set_option linter.all false
set_option maxRecDepth 100000
set_option maxHeartbeats 4000000
/-! LA59: the drawing. -/
namespace L59
open PySem VL M59
def dcell (i : Int) : D := D.fz (.int i)
def DL (cells : List Int) (a b c : Int) : D := .lst [.lst (cells.map dcell), D.fz (.int a), D.fz (.int b), D.fz (.int c)]
def DS (d : D) : Prop := ∃ (cells : List Int) (a b c : Int), d = DL cells a b c ∧ 0 ≤ a
theorem begin_ok (ns : List Int) (h : ns.length ≤ 63) : ∃ d, m_law_begin [.fz (.scr ns)] = .ok d ∧ DS d := by
  refine ⟨DL ns 0 0 7, ?_, ns, 0, 0, 7, rfl, by decide⟩
  have e : eComp [1] (srcE (eVar 0)) (.nm 1) eYes (eCall (c1 cInt) [eVar 1]) (start 2 [.fz (.scr ns)]) = .ok (.lst (ns.map dcell)) :=
    eComp_all (gd := fun i => D.fz (.int i)) rfl (by omega) fun a ha => ⟨_, rfl, rfl⟩
  exact fnP_rt rfl (sSeqR (sRet_ (xF_ (eLst_ (eAll_c e rfl)))))
theorem dec_t {p : Prop} [Decidable p] (h : p) : Res.ok (D.fz (FD.bl (decide p))) = Res.ok (D.fz (FD.bl true)) := by rw [decide_eq_true h]
theorem dec_f {p : Prop} [Decidable p] (h : ¬p) : Res.ok (D.fz (FD.bl (decide p))) = Res.ok (D.fz (FD.bl false)) := by rw [decide_eq_false h]
theorem oDiv_ {i j : Int} (h : j ≠ 0) (h2 : j.natAbs < 1073741824) : oDiv (.fz (.int i)) (.fz (.int j)) = .ok (.fz (.int (i.fdiv j))) := if_pos ⟨h, h2⟩
theorem oMod_ {i j : Int} (h : j ≠ 0) : oMod (.fz (.int i)) (.fz (.int j)) = .ok (.fz (.int (i.fmod j))) := if_pos h
theorem oMul_ {i j : Int} (h : mulOk i j) : oMul (.fz (.int i)) (.fz (.int j)) = .ok (.fz (.int (i * j))) := if_pos h
theorem oShl_ {i j : Int} (h : powOk i j) : oShl (.fz (.int i)) (.fz (.int j)) = .ok (.fz (.int (i * 2 ^ j.toNat))) := if_pos h
theorem oPow_ {i j : Int} (h : powOk i j) : oPow (.fz (.int i)) (.fz (.int j)) = .ok (.fz (.int (i ^ j.toNat))) := if_pos h
theorem shl_ok : ∃ m, oShl (.fz (.int 1)) (.fz (.int 6000)) = .ok (.fz (.int m)) ∧ 0 < m := ⟨1 * 2 ^ (6000 : Int).toNat, oShl_ (by decide), by
  have : (0 : Int) < 2 ^ (6000 : Int).toNat := Int.pow_pos (by decide)
  omega⟩
theorem big_ok : ∃ m, eBin oMul (eC (.int 2)) (eBin oPow (eC (.int 10)) (eC (.int 18))) = fun _ => .ok (.fz (.int m)) := ⟨2 * 10 ^ (18 : Int).toNat, funext fun env => eBin_ rfl (eBin_ rfl rfl (oPow_ (by decide))) (oMul_ (.inl (by decide)))⟩
theorem mod_lt (x : Int) {m : Int} (h : 0 < m) : 0 ≤ x.fmod m ∧ x.fmod m < m := ⟨Int.fmod_nonneg_of_pos x h, Int.fmod_lt_of_pos x h⟩
theorem at_cell {cells : List Int} {a : Int} (h0 : 0 ≤ a) (h : a < cells.length) : ∃ x, oIx (.lst (cells.map dcell)) (.fz (.int a)) = .ok (.fz (.int x)) := by
  obtain ⟨n, rfl⟩ := Int.eq_ofNat_of_zero_le h0
  have hn : n < cells.length := by omega
  refine ⟨cells[n], ?_⟩
  show ofO (atI (cells.map dcell) (n : Int)) = _
  rw [atI_nat, List.getElem?_map, List.getElem?_eq_getElem hn]
  rfl
theorem draw_ok {d : D} {many : Int} (hd : DS d) (hm : 0 < many ∧ many < 1000000) : ∃ v d', m_law_draw [d, .fz (.int many)] = .ok (.fz (.int v), [d']) ∧ DS d' ∧ 0 ≤ v ∧ v < many := by
  obtain ⟨cells, a, b, c, rfl, ha⟩ := hd
  have hne : many ≠ 0 := by omega
  have hna : many.natAbs < 1073741824 := by omega
  by_cases hb : 0 < b
  · refine ⟨b.fmod many, DL cells a (b.fdiv many) c, ?_, ⟨cells, a, b.fdiv many, c, rfl, ha⟩, (mod_lt b hm.1).1, (mod_lt b hm.1).2⟩
    refine fnM_rt rfl (sSeqR (sIfT (xF_ (dec_t hb)) (sSeq_ (sSet_ (xZ_ rfl)) (sSeq_ (sPut_ (xF_ (eBin_ rfl rfl (oDiv_ hne hna))) rfl rfl rfl rfl) (sSeqR (sRet_ (xF_ (eBin_ rfl rfl (oMod_ hne))))))))) rfl
  · -- the first part is done with
    obtain ⟨big, ebig⟩ := big_ok
    obtain ⟨sh, esh, hsh⟩ := shl_ok
    let env0 : VL.Env := [some (DL cells a b c), some (.fz (.int many)), none, none, none]
    -- the size
    obtain ⟨size, cell, hsz⟩ : ∃ size cell, sIf (xF (eBin oLt (eBin oIx (eVar 0) (eC (.int 1))) (eCall (c1 cLen) [eBin oIx (eVar 0) (eC (.int 0))])))
        (sSeq (sSet 4 (xZ (eBin oIx (eBin oIx (eVar 0) (eC (.int 0))) (eBin oIx (eVar 0) (eC (.int 1))))))
        (sSeq (sSet 2 (xF (eBin oAdd (eBin oMul (eC (.int 2)) (eCall (c1 cAbs) [eVar 4])) (eCall (c1 cInt) [eBin oLt (eVar 4) (eC (.int 0))]))))
        (sNx)))
        (sNx) [some (DL cells a b c), some (.fz (.int many)), some (.fz (.int 0)), none, none] = .ok (.nx, [some (DL cells a b c), some (.fz (.int many)), some (.fz (.int size)), none, cell]) := by
      have elen : (eCall (c1 cLen) [eBin oIx (eVar 0) (eC (.int 0))]) [some (DL cells a b c), some (.fz (.int many)), some (.fz (.int 0)), none, none] = .ok (.fz (.int cells.length)) := by
        show Res.ok (D.fz (.int ((cells.map dcell).length : Nat))) = _
        rw [List.length_map]
      by_cases hl : a < cells.length
      · obtain ⟨x, ex⟩ := at_cell ha hl
        exact ⟨_, _, sIfT (xF_ (eBin_ rfl elen (dec_t hl))) (sSeq_ (sSet_ (xZ_ (eBin_ rfl rfl ex))) (sSeq_ (sSet_ (xF_ (eBin_ (eBin_ rfl rfl (oMul_ (.inl (by decide)))) rfl rfl))) rfl))⟩
      · exact ⟨_, _, sIfF (xF_ (eBin_ rfl elen (dec_f hl))) rfl⟩
    by_cases hbig : big ≤ size
    · have c1 : (eBin oGe (eVar 2) (eBin oMul (eC (.int 2)) (eBin oPow (eC (.int 10)) (eC (.int 18))))) [some (DL cells (a + 1) b c), some (.fz (.int many)), some (.fz (.int size)), none, cell] = .ok (.fz (.bl true)) := by
        rw [ebig]
        exact eBin_ rfl rfl (dec_t hbig)
      refine ⟨((size.fdiv 2).fmod sh).fmod many, DL cells (a + 1) (((size.fdiv 2).fmod sh).fdiv many) c, ?_, ⟨cells, a + 1, _, c, rfl, by omega⟩, (mod_lt _ hm.1).1, (mod_lt _ hm.1).2⟩
      refine fnM_rt rfl (sSeq_ (sIfF (xF_ (dec_f hb)) rfl) (sSeq_ (sSet_ rfl) (sSeq_ hsz (sSeq_ (sAugP_ rfl rfl rfl rfl rfl) (sSeqR (sIfT (xF_ c1) (sSeq_ (sSet_ (xF_ (eBin_ (eCall_ (eAll_c (eBin_ rfl rfl (oDiv_ (by decide) (by decide))) rfl) rfl) (eBin_ rfl rfl esh) (oMod_ (by omega))))) (sSeq_ (sPut_ (xF_ (eBin_ rfl rfl (oDiv_ hne hna))) rfl rfl rfl rfl) (sSeqR (sRet_ (xF_ (eBin_ rfl rfl (oMod_ hne)))))))))))) ) rfl
    · have c1 : (eBin oGe (eVar 2) (eBin oMul (eC (.int 2)) (eBin oPow (eC (.int 10)) (eC (.int 18))))) [some (DL cells (a + 1) b c), some (.fz (.int many)), some (.fz (.int size)), none, cell] = .ok (.fz (.bl false)) := by
        rw [ebig]
        exact eBin_ rfl rfl (dec_f hbig)
      have r1 : ∀ {i j : Int}, (-(2 ^ 64) < j ∧ j < 2 ^ 64) → oMul (.fz (.int i)) (.fz (.int j)) = .ok (.fz (.int (i * j))) := fun h => oMul_ (.inr h)
      let q : Int := (c * 48271 + size.fmod 2147483629 * 16807 + (a + 1) * 69621 + 11).fmod 2147483647
      refine ⟨(q.fdiv 16).fmod many, DL cells (a + 1) b q, ?_, ⟨cells, a + 1, b, q, rfl, by omega⟩, (mod_lt _ hm.1).1, (mod_lt _ hm.1).2⟩
      refine fnM_rt rfl (sSeq_ (sIfF (xF_ (dec_f hb)) rfl) (sSeq_ (sSet_ rfl) (sSeq_ hsz (sSeq_ (sAugP_ rfl rfl rfl rfl rfl) (sSeq_ (sIfF (xF_ c1) rfl) (sSeq_ (sPut_ (xF_ (eBin_ (eCall_ (eAll_c (eBin_ (eBin_ (eBin_ (eBin_ rfl rfl (r1 (by decide))) (eBin_ (eBin_ rfl rfl (oMod_ (by decide))) rfl (r1 (by decide))) rfl) (eBin_ rfl rfl (r1 (by decide))) rfl) rfl rfl) rfl) rfl) rfl (oMod_ (by decide)))) rfl rfl rfl rfl) (sSeqR (sRet_ (xF_ (eBin_ (eCall_ (eAll_c (eBin_ rfl rfl (oDiv_ (by decide) (by decide))) rfl) rfl) rfl (oMod_ hne)))))))))) ) rfl
theorem pyEq_int (i j : Int) : oEq (.fz (.int i)) (.fz (.int j)) = .ok (.fz (.bl (i == j))) := rfl
theorem rare_ok {d : D} {many : Int} (hd : DS d) (hm : 0 < many ∧ many < 1000000) : ∃ k d', m_law_rare [d, .fz (.int many)] = .ok (.fz (.bl k), [d']) ∧ DS d' := by
  obtain ⟨v, d', e, h, _⟩ := draw_ok hd hm
  exact ⟨_, d', fnM_rt rfl (sSeqR (sRet_ (xBin_ (xCallM1 rfl rfl e rfl) (xF_ (eBin_ rfl rfl (oDiv_ (by decide) (by decide)))) (pyEq_int _ _)))) rfl, h⟩
/-- one of the items of a list -/
theorem pick_ok {d : D} {fs : List FD} (hd : DS d) (h0 : 0 < fs.length) (h1 : fs.length < 1000000) : ∃ f d', m_law_pick [d, .lst (fs.map D.fz)] = .ok (.fz f, [d']) ∧ DS d' ∧ f ∈ fs := by
  obtain ⟨v, d', e, h, v0, v1⟩ := draw_ok (many := fs.length) hd ⟨by omega, by omega⟩
  obtain ⟨n, rfl⟩ := Int.eq_ofNat_of_zero_le v0
  have hn : n < fs.length := by omega
  refine ⟨fs[n], d', fnM_rt (e := [some d', some (.lst (fs.map D.fz))]) rfl (sSeqR (sRet_ ?_)) rfl, h, List.getElem_mem hn⟩
  · have el : (eCall (c1 cLen) [eVar 1]) [some d, some (.lst (fs.map D.fz))] = .ok (.fz (.int fs.length)) := by
      show Res.ok (D.fz (.int ((fs.map D.fz).length : Nat))) = _
      rw [List.length_map]
    have ec : xCallM m_law_draw [.io 0, .ex (xF (eCall (c1 cLen) [eVar 1]))] [some d, some (.lst (fs.map D.fz))] = .ok (.fz (.int n), [some d', some (.lst (fs.map D.fz))]) :=
      xCallM1 (xA_io rfl (xA_ex (xF_ el) xA_n)) rfl e rfl
    show xIxV 1 (xCallM m_law_draw [.io 0, .ex (xF (eCall (c1 cLen) [eVar 1]))]) [some d, some (.lst (fs.map D.fz))] = _
    unfold xIxV
    show ((xCallM m_law_draw [.io 0, .ex (xF (eCall (c1 cLen) [eVar 1]))] [some d, some (.lst (fs.map D.fz))]).bind _) = _
    rw [ec]
    show ((ofO (atI (fs.map D.fz) (n : Int))).bind fun d => d.fz?.bind fun f => Res.ok (D.fz f, _)) = _
    rw [atI_nat, List.getElem?_map, List.getElem?_eq_getElem hn]
    rfl
end L59
set_option Elab.async false
set_option linter.all false
set_option maxRecDepth 100000
set_option maxHeartbeats 4000000
/-! LB59: data of this law; the drawn firm. -/
namespace L59
open PySem VL M59
def dI (k : Nat) : FD := .int (k : Int)
def dP (p : Nat × Nat) : FD := .tup [dI p.1, dI p.2]
def zI (k : Nat) : D := .fz (dI k)
def zP (p : Nat × Nat) : D := .fz (dP p)
theorem rangeL_eq : ∀ (n : Nat) (lo : Int), rangeL lo n = (List.range n).map fun (k : Nat) => D.fz (.int (lo + (k : Int)))
  | 0, _ => rfl
  | n + 1, lo => by
    show D.fz (.int lo) :: rangeL (lo + 1) n = _
    rw [rangeL_eq n (lo + 1), List.range_succ_eq_map, List.map_cons, List.map_map]
    rw [show D.fz (.int lo) = D.fz (.int (lo + ((0 : Nat) : Int))) by simp]
    refine congrArg _ (List.map_congr_left fun k _ => ?_)
    show D.fz (.int (lo + 1 + (k : Int))) = D.fz (.int (lo + ((k + 1 : Nat) : Int)))
    congr 2
    omega
theorem range1 (n : Nat) : rangeL 1 n = (List.range n).map fun k => D.fz (dI (k + 1)) := by
  rw [rangeL_eq]
  refine List.map_congr_left fun k _ => ?_
  show D.fz (.int (1 + (k : Int))) = D.fz (.int ((k + 1 : Nat) : Int))
  congr 2
  omega
theorem range0 (n : Nat) : rangeL 0 n = (List.range n).map fun k => D.fz (dI k) := by
  rw [rangeL_eq]
  refine List.map_congr_left fun k _ => ?_
  show D.fz (.int (0 + (k : Int))) = D.fz (.int (k : Int))
  rw [Int.zero_add]
theorem allF_zP (rs : List (Nat × Nat)) : allF (rs.map zP) = .ok (rs.map dP) := allF_fz (g := dP) rs
theorem allF_zI (rs : List Nat) : allF (rs.map zI) = .ok (rs.map dI) := allF_fz (g := dI) rs
theorem pyEq_dI (a b : Nat) : pyEq (dI a) (dI b) = decide (a = b) := by
  show ((a : Int) == (b : Int)) = _
  rw [Bool.eq_iff_iff]
  simp only [beq_iff_eq, decide_eq_true_eq]
  omega
theorem pyEq_dP (p q : Nat × Nat) : pyEq (dP p) (dP q) = decide (p = q) := by
  show (pyEq (dI p.1) (dI q.1) && (pyEq (dI p.2) (dI q.2) && true)) = _
  rw [pyEq_dI, pyEq_dI, Bool.and_true, Bool.eq_iff_iff]
  simp only [Bool.and_eq_true, decide_eq_true_eq]
  exact ⟨fun h => Prod.ext h.1 h.2, fun h => by rw [h]; exact ⟨rfl, rfl⟩⟩
theorem okds_map {α : Type} {g : α → FD} (h : ∀ a, (g a).okd = true) : ∀ xs : List α, okds (xs.map g) = true
  | [] => rfl
  | x :: r => by
    show ((g x).okd && okds (r.map g)) = true
    rw [h x, okds_map h r]; rfl
theorem depths_map {α : Type} {g : α → FD} {k : Nat} (h : ∀ a, (g a).depth ≤ k) : ∀ xs : List α, depths (xs.map g) ≤ k
  | [] => Nat.zero_le _
  | x :: r => by
    show max (g x).depth (depths (r.map g)) ≤ k
    exact Nat.max_le.mpr ⟨h x, depths_map h r⟩
theorem okqs_map {α : Type} {g : α → FD} (h : ∀ a, (g a).okd = true) (h2 : ∀ a, (g a).depth ≤ 60) (xs : List α) : okqs (xs.map g) = true := by
  unfold okqs
  rw [okds_map h xs, decide_eq_true (depths_map h2 xs)]; rfl
theorem dP_okd (p : Nat × Nat) : (dP p).okd = true := rfl
theorem dP_depth (p : Nat × Nat) : (dP p).depth ≤ 60 := by
  have e : (dP p).depth = 1 := rfl
  omega
theorem dP_okq (p : Nat × Nat) : (dP p).okq = true := rfl
theorem any_dP (rs : List (Nat × Nat)) (p : Nat × Nat) : ((rs.map dP).any fun g => pyEq g (dP p)) = decide (p ∈ rs) := by
  rw [List.any_map, Bool.eq_iff_iff, List.any_eq_true, decide_eq_true_eq]
  constructor
  · rintro ⟨q, hq, e⟩
    have e : pyEq (dP q) (dP p) = true := e
    rw [pyEq_dP, decide_eq_true_eq] at e
    rw [← e]; exact hq
  · intro h
    exact ⟨p, h, by show pyEq (dP p) (dP p) = true; rw [pyEq_dP, decide_eq_true rfl]⟩
theorem any_dI (rs : List Nat) (p : Nat) : ((rs.map dI).any fun g => pyEq g (dI p)) = decide (p ∈ rs) := by
  rw [List.any_map, Bool.eq_iff_iff, List.any_eq_true, decide_eq_true_eq]
  constructor
  · rintro ⟨q, hq, e⟩
    have e : pyEq (dI q) (dI p) = true := e
    rw [pyEq_dI, decide_eq_true_eq] at e
    rw [← e]; exact hq
  · intro h
    exact ⟨p, h, by show pyEq (dI p) (dI p) = true; rw [pyEq_dI, decide_eq_true rfl]⟩
theorem notIn_zP (rs : List (Nat × Nat)) (p : Nat × Nat) : oNotIn (zP p) (.lst (rs.map zP)) = .ok (.fz (.bl (!decide (p ∈ rs)))) := by
  show (((allF (rs.map zP)).bind fun fs => need ((dP p).okq = true ∧ okqs fs = true) (.ok (fs.any fun g => pyEq g (dP p)))).bind fun b => Res.ok (D.fz (.bl (!b)))) = _
  rw [allF_zP]
  show (need ((dP p).okq = true ∧ okqs (rs.map dP) = true) (.ok ((rs.map dP).any fun g => pyEq g (dP p)))).bind _ = _
  rw [need, if_pos ⟨dP_okq p, okqs_map dP_okd dP_depth rs⟩, any_dP]
/-! ### sorted -/
def leN (p q : Nat × Nat) : Bool := leP ((p.1 : Int), (p.2 : Int)) ((q.1 : Int), (q.2 : Int))
def castP (p : Nat × Nat) : Int × Int := ((p.1 : Int), (p.2 : Int))
theorem pairs_dP : ∀ rs : List (Nat × Nat), pairs? (rs.map dP) = .ok (rs.map castP)
  | [] => rfl
  | p :: r => by
    show (pairs? (r.map dP)).bind (fun is => Res.ok (((p.1 : Int), (p.2 : Int)) :: is)) = _
    rw [pairs_dP r]; rfl
theorem sort_zP (rs : List (Nat × Nat)) : cSorted (.lst (rs.map zP)) = .ok (.lst ((rs.mergeSort leN).map zP)) := by
  show ((allF (rs.map zP)).bind fun fs => (sortF fs).bind fun gs => Res.ok (D.lst (gs.map D.fz))) = _
  rw [allF_zP]
  show ((sortF (rs.map dP)).bind fun gs => Res.ok (D.lst (gs.map D.fz))) = _
  have e : sortF (rs.map dP) = .ok ((rs.mergeSort leN).map dP) := by
    cases rs with
    | nil =>
      rw [List.mergeSort_nil]
      show Res.ok ((([] : List Int).mergeSort _).map FD.int) = _
      rw [List.mergeSort_nil]; rfl
    | cons p r =>
      unfold sortF
      rw [if_neg (by show ¬ (isInts (dP p :: r.map dP)) = true; exact Bool.false_ne_true), pairs_dP]
      show Res.ok (((((p :: r).map castP).mergeSort leP)).map fun p => FD.tup [.int p.1, .int p.2]) = _
      rw [← List.map_mergeSort (r := leN) (s := leP) (f := castP) (l := p :: r) (fun a _ b _ => rfl), List.map_map]
      rfl
  rw [e]
  show Res.ok (D.lst (((rs.mergeSort leN).map dP).map D.fz)) = _
  rw [List.map_map]; rfl
theorem leN_trans (a b c : Nat × Nat) (h1 : leN a b = true) (h2 : leN b c = true) : leN a c = true := by
  unfold leN leP at *
  simp only [Bool.or_eq_true, Bool.and_eq_true, decide_eq_true_eq] at *
  omega
theorem leN_total (a b : Nat × Nat) : (leN a b || leN b a) = true := by
  unfold leN leP
  simp only [Bool.or_eq_true, Bool.and_eq_true, decide_eq_true_eq]
  omega
theorem ints_dI : ∀ rs : List Nat, ints? (rs.map dI) = .ok (rs.map fun (k : Nat) => (k : Int))
  | [] => rfl
  | p :: r => by
    show (ints? (r.map dI)).bind (fun is => Res.ok ((p : Int) :: is)) = _
    rw [ints_dI r]; rfl
theorem isInts_dI : ∀ rs : List Nat, isInts (rs.map dI) = true
  | [] => rfl
  | p :: r => isInts_dI r
def leI (a b : Nat) : Bool := decide (a ≤ b)
theorem sort_zI (rs : List Nat) : cSorted (.lst (rs.map zI)) = .ok (.lst ((rs.mergeSort leI).map zI)) := by
  show ((allF (rs.map zI)).bind fun fs => (sortF fs).bind fun gs => Res.ok (D.lst (gs.map D.fz))) = _
  rw [allF_zI]
  show ((sortF (rs.map dI)).bind fun gs => Res.ok (D.lst (gs.map D.fz))) = _
  have e : sortF (rs.map dI) = .ok ((rs.mergeSort leI).map dI) := by
    unfold sortF
    rw [if_pos (isInts_dI rs), ints_dI]
    show Res.ok (((rs.map fun (k : Nat) => (k : Int)).mergeSort fun a b => decide (a ≤ b)).map FD.int) = _
    rw [← List.map_mergeSort (r := leI) (s := fun a b => decide (a ≤ b)) (f := fun (k : Nat) => (k : Int)) (l := rs) (fun a _ b _ => by
      show decide (a ≤ b) = decide ((a : Int) ≤ (b : Int))
      exact decide_eq_decide.mpr (by omega)), List.map_map]
    rfl
  rw [e]
  show Res.ok (D.lst (((rs.mergeSort leI).map dI).map D.fz)) = _
  rw [List.map_map]; rfl
/-! ### the firm -/
structure FirmOk (n : Nat) (places : List Int) (rs : List (Nat × Nat)) : Prop where
  n2 : 2 ≤ n
  n24 : n ≤ 24
  pl : places.length = n
  pv : ∀ v ∈ places, 0 ≤ v ∧ v < 2
  rv : ∀ p ∈ rs, p.1 < p.2 ∧ p.2 < n
  nd : rs.Nodup
  srt : rs.Pairwise fun p q => leN p q = true
  tree : ∀ k, 1 ≤ k → k < n → ∃ i, i < k ∧ (i, k) ∈ rs
  few : rs.length ≤ n + 1
def firmD (places : List Int) (rs : List (Nat × Nat)) : D := .fz (.tup [.tup (places.map FD.int), .tup (rs.map dP)])
theorem firm_ok {d : D} {most : Int} (hd : DS d) (h2 : 2 ≤ most) (h24 : most ≤ 24) : ∃ n places rs d', m_law_firm [d, .fz (.int 2), .fz (.int most)] = .ok (firmD places rs, [d']) ∧ DS d' ∧ FirmOk n places rs ∧ (n : Int) ≤ most := by
  -- the offices
  obtain ⟨v, d1, e1, hd1, v0, v1⟩ := draw_ok (many := most - 1) hd ⟨by omega, by omega⟩
  obtain ⟨m, rfl⟩ := Int.eq_ofNat_of_zero_le v0
  let n : Nat := m + 2
  have hn : ((2 : Int) + (m : Int)) = (n : Int) := by show _ = ((m + 2 : Nat) : Int); omega
  let two : Option D := some (.fz (.int 2))
  let mo : Option D := some (.fz (.int most))
  let nn : Option D := some (zI n)
  have s1 : sSet 3 (xBin oAdd (xF (eC (.int 2))) (xCallM m_law_draw [.io 0, .ex (xF (eBin oSub (eVar 2) (eC (.int 1))))])) (start 10 [d, .fz (.int 2), .fz (.int most)]) = .ok (.nx, [some d1, two, mo, nn, none, none, none, none, none, none]) := by
    refine sSet_ (d := zI n) (e := [some d1, two, mo, none, none, none, none, none, none, none]) (xBin_ (xF_ rfl) (xCallM1 (xA_io rfl (xA_ex (xF_ rfl) xA_n)) rfl e1 rfl) ?_)
    show Res.ok (D.fz (.int (2 + (m : Int)))) = _
    rw [hn]; rfl
  -- their places
  obtain ⟨ys, e', ⟨d2, pl, rfl, rfl, hd2, hpl, hpv⟩, hc⟩ := xComp_rel (α := Nat) (tg := .nm 9) (g := dI) (own := [9]) (src := xsR1 (xZ (eVar 3))) (elt := xCallM m_law_draw [.io 0, .ro 1]) (xs := List.range n) (env := [some d1, two, mo, nn, none, none, none, none, none, none]) (env0 := [some d1, two, mo, nn, none, none, none, none, none, none])
    (fun pre acc e => ∃ d2 pl, e = [some d2, two, mo, nn, none, none, none, none, none, none] ∧ acc = pl.map dcell ∧ DS d2 ∧ pl.length = pre.length ∧ ∀ v ∈ pl, 0 ≤ v ∧ v < 2)
    (by rw [xsR1_ (n := n) (xZ_ rfl) (by omega), range0])
    (by rw [List.length_range]; omega)
    ⟨d1, [], rfl, rfl, hd1, rfl, fun v h => by cases h⟩
    (fun pre a post acc e he ⟨d2, pl, h1, h2, h3, h4, h5⟩ => by
      subst h1 h2
      obtain ⟨v, d3, e3, hd3, w0, w1⟩ := draw_ok (many := 2) h3 ⟨by decide, by decide⟩
      exact ⟨_, _, _, rfl, xCallM1 (xA_io rfl (xA_ro rfl xA_n)) rfl e3 rfl, d3, pl ++ [v], rfl, by rw [List.map_append]; rfl, hd3, by simp [h4], fun u hu => by
        rcases List.mem_append.mp hu with hu | hu
        · exact h5 u hu
        · have : u = v := by simpa using hu
          subst this; exact ⟨w0, w1⟩⟩)
  let plD : Option D := some (.fz (.tup (pl.map FD.int)))
  have s2 : sSet 4 (xCall (c1 cTuple) [xComp [9] (xsR1 (xZ (eVar 3))) (.nm 9) (xYes) (xCallM m_law_draw [.io 0, .ro 1])]) [some d1, two, mo, nn, none, none, none, none, none, none] = .ok (.nx, [some d2, two, mo, nn, plD, none, none, none, none, none]) := by
    refine sSet_ (d := .fz (.tup (pl.map FD.int))) (e := [some d2, two, mo, nn, none, none, none, none, none, none]) (xCall_ (q := ([.lst (pl.map dcell)], [some d2, two, mo, nn, none, none, none, none, none, none])) (xAll_c (q := ([], [some d2, two, mo, nn, none, none, none, none, none, none])) (hc.trans rfl) rfl) ?_)
    show ((allF (pl.map dcell)).bind fun fs => Res.ok (D.fz (.tup fs))) = _
    rw [show pl.map dcell = pl.map fun a => D.fz (FD.int a) from rfl, allF_fz]
  -- a tree
  obtain ⟨ys, e', ⟨d3, rs, rfl, rfl, hd3, hrs, hrv⟩, hc⟩ := xComp_rel (α := Nat) (tg := .nm 9) (g := fun j => dI (j + 1)) (own := [9]) (src := xsR2 (xF (eC (.int 1))) (xZ (eVar 3))) (elt := xTup [xCallM m_law_draw [.io 0, .ro 9], xZ (eVar 9)]) (xs := List.range (n - 1)) (env := [some d2, two, mo, nn, plD, none, none, none, none, none]) (env0 := [some d2, two, mo, nn, plD, none, none, none, none, none])
    (fun pre acc e => ∃ d3 rs, e = [some d3, two, mo, nn, plD, none, none, none, none, none] ∧ acc = rs.map zP ∧ DS d3 ∧ rs.map (·.2) = pre.map (· + 1) ∧ ∀ p ∈ rs, p.1 < p.2)
    (by
      rw [xsR2_ (m := 1) (n := (n : Int)) (xF_ rfl) (xZ_ rfl) (by omega) (by omega), show ((n : Int) - 1).toNat = n - 1 by omega, range1])
    (by rw [List.length_range]; omega)
    ⟨d2, [], rfl, rfl, hd2, rfl, fun v h => by cases h⟩
    (fun pre a post acc e he ⟨d3, rs, h1, h2, h3, h4, h5⟩ => by
      subst h1 h2
      have ha : a < n - 1 := by
        have : a ∈ List.range (n - 1) := by rw [he]; simp
        exact List.mem_range.mp this
      obtain ⟨v, d4, e4, hd4, w0, w1⟩ := draw_ok (many := ((a + 1 : Nat) : Int)) h3 ⟨by omega, by omega⟩
      obtain ⟨i, rfl⟩ := Int.eq_ofNat_of_zero_le w0
      have hcall : xCallM m_law_draw [.io 0, .ro 9] [some d3, two, mo, nn, plD, none, none, none, none, some (zI (a + 1))] = .ok (zI i, [some d4, two, mo, nn, plD, none, none, none, none, some (zI (a + 1))]) := xCallM1 (xA_io rfl (xA_ro rfl xA_n)) rfl e4 rfl
      have hz : xAll [xZ (eVar 9)] [some d4, two, mo, nn, plD, none, none, none, none, some (zI (a + 1))] = .ok ([zI (a + 1)], [some d4, two, mo, nn, plD, none, none, none, none, some (zI (a + 1))]) := rfl
      refine ⟨[some d3, two, mo, nn, plD, none, none, none, none, some (zI (a + 1))], zP (i, a + 1), [some d4, two, mo, nn, plD, none, none, none, none, some (zI (a + 1))], rfl, xTup_ (fs := [dI i, dI (a + 1)]) (xAll_c hcall hz) rfl, d4, rs ++ [(i, a + 1)], rfl, by rw [List.map_append]; rfl, hd4, by rw [List.map_append, List.map_append, h4]; rfl, fun u hu => ?_⟩
      rcases List.mem_append.mp hu with hu | hu
      · exact h5 u hu
      · have : u = (i, a + 1) := by simpa using hu
        subst this
        show i < a + 1
        omega)
  have s3 : sSet 5 (xComp [9] (xsR2 (xF (eC (.int 1))) (xZ (eVar 3))) (.nm 9) (xYes) (xTup [xCallM m_law_draw [.io 0, .ro 9], xZ (eVar 9)])) [some d2, two, mo, nn, plD, none, none, none, none, none] = .ok (.nx, [some d3, two, mo, nn, plD, some (.lst (rs.map zP)), none, none, none, none]) :=
    sSet_ (d := .lst (rs.map zP)) (e := [some d3, two, mo, nn, plD, none, none, none, none, none]) (hc.trans rfl)
  have hsnd : rs.map (·.2) = (List.range (n - 1)).map (· + 1) := hrs
  have hlen : rs.length = n - 1 := by
    have := congrArg List.length hsnd
    simpa using this
  have hnd : rs.Nodup := by
    have : (rs.map (·.2)).Nodup := by
      rw [hsnd]
      exact List.pairwise_map.mpr (List.nodup_range.imp fun h e => h (Nat.succ.inj e))
    exact (List.pairwise_map.mp this).imp fun h e => h (congrArg _ e)
  have htree : ∀ k, 1 ≤ k → k < n → ∃ i, i < k ∧ (i, k) ∈ rs := fun k h1 h2 => by
    have : k ∈ rs.map (·.2) := by
      rw [hsnd]
      exact List.mem_map.mpr ⟨k - 1, List.mem_range.mpr (by omega), by omega⟩
    obtain ⟨p, hp, e⟩ := List.mem_map.mp this
    have e : p.2 = k := e
    subst e
    exact ⟨p.1, hrv p hp, hp⟩
  have hr2 : ∀ p ∈ rs, p.1 < p.2 ∧ p.2 < n := fun p hp => ⟨hrv p hp, by
    have : p.2 ∈ rs.map (·.2) := List.mem_map.mpr ⟨p, hp, rfl⟩
    rw [hsnd] at this
    obtain ⟨j, hj, e⟩ := List.mem_map.mp this
    have := List.mem_range.mp hj
    omega⟩
  -- up to two rings
  let G : List (Nat × Nat) → Prop := fun r => r.Nodup ∧ (∀ p ∈ r, p.1 < p.2 ∧ p.2 < n) ∧ ∀ k, 1 ≤ k → k < n → ∃ i, i < k ∧ (i, k) ∈ r
  obtain ⟨e', ⟨d4, r4, rfl, hd4, ⟨g1, g2, g3⟩, hl4⟩, s4⟩ := sFor_rel (α := Nat) (tg := .nm 6) (g := dI) (kill := [6, 7, 8]) (mods := [0, 5, 6, 7, 8]) (src := srcR1 (eC (.int 2))) (xs := List.range 2) (env := [some d3, two, mo, nn, plD, some (.lst (rs.map zP)), none, none, none, none])
    (body := sSeq (sSet 7 (xCallM m_law_draw [.io 0, .ex (xF (eBin oSub (eVar 3) (eC (.int 1))))]))
      (sSeq (sSet 8 (xBin oAdd (xF (eBin oAdd (eVar 7) (eC (.int 1)))) (xCallM m_law_draw [.io 0, .ex (xF (eBin oSub (eBin oSub (eVar 3) (eC (.int 1))) (eVar 7)))])))
      (sSeq (sIf (xAnd (xF (eBin oNotIn (eTup [eVar 7, eVar 8]) (eVar 5))) (xBin oEq (xCallM m_law_draw [.io 0, .ex (xF (eC (.int 2)))]) (xF (eC (.int 1)))))
      (sSeq (sApp 5 [] (eTup [eVar 7, eVar 8]))
      (sNx))
      (sNx))
      (sNx))))
    (fun pre e => ∃ d4 r4, e = [some d4, two, mo, nn, plD, some (.lst (r4.map zP)), none, none, none, none] ∧ DS d4 ∧ G r4 ∧ r4.length ≤ n - 1 + pre.length)
    (by rw [srcR1_ (n := 2) rfl (by decide), range0])
    ⟨d3, rs, rfl, hd3, ⟨hnd, hr2, htree⟩, by rw [hlen]; exact Nat.le_refl _⟩
    (fun pre a post e he ⟨d4, r4, h1, h2, ⟨g1, g2, g3⟩, h4⟩ => by
      subst h1
      obtain ⟨v, d5, e5, hd5, w0, w1⟩ := draw_ok (many := (n : Int) - 1) h2 ⟨by omega, by omega⟩
      obtain ⟨i, rfl⟩ := Int.eq_ofNat_of_zero_le w0
      obtain ⟨v, d6, e6, hd6, u0, u1⟩ := draw_ok (many := (n : Int) - 1 - (i : Int)) hd5 ⟨by omega, by omega⟩
      obtain ⟨j, rfl⟩ := Int.eq_ofNat_of_zero_le u0
      let R4 : Option D := some (.lst (r4.map zP))
      let t : Option D := some (zI a)
      have t1 : sSet 7 (xCallM m_law_draw [.io 0, .ex (xF (eBin oSub (eVar 3) (eC (.int 1))))]) [some d4, two, mo, nn, plD, R4, t, none, none, none] = .ok (.nx, [some d5, two, mo, nn, plD, R4, t, some (zI i), none, none]) :=
        sSet_ (d := zI i) (e := [some d5, two, mo, nn, plD, R4, t, none, none, none]) (xCallM1 (xA_io rfl (xA_ex (xF_ rfl) xA_n)) rfl e5 rfl)
      have t2 : sSet 8 (xBin oAdd (xF (eBin oAdd (eVar 7) (eC (.int 1)))) (xCallM m_law_draw [.io 0, .ex (xF (eBin oSub (eBin oSub (eVar 3) (eC (.int 1))) (eVar 7)))])) [some d5, two, mo, nn, plD, R4, t, some (zI i), none, none] = .ok (.nx, [some d6, two, mo, nn, plD, R4, t, some (zI i), some (zI (i + 1 + j)), none]) :=
        sSet_ (d := zI (i + 1 + j)) (e := [some d6, two, mo, nn, plD, R4, t, some (zI i), none, none]) (xBin_ (xF_ rfl) (xCallM1 (xA_io rfl (xA_ex (xF_ rfl) xA_n)) rfl e6 rfl) rfl)
      let E : VL.Env := [some d6, two, mo, nn, plD, R4, t, some (zI i), some (zI (i + 1 + j)), none]
      have hin : (eBin oNotIn (eTup [eVar 7, eVar 8]) (eVar 5)) E = .ok (.fz (.bl (!decide ((i, i + 1 + j) ∈ r4)))) := eBin_ (x := zP (i, i + 1 + j)) (y := .lst (r4.map zP)) rfl rfl (notIn_zP r4 _)
      by_cases c : (i, i + 1 + j) ∈ r4
      · rw [decide_eq_true c] at hin
        refine ⟨_, E, rfl, sSeq_ t1 (sSeq_ t2 (sSeq_ (sIfF (xAndF (xF_ hin)) rfl) rfl)), d6, r4, rfl, hd6, ⟨g1, g2, g3⟩, ?_⟩
        rw [List.length_append]; omega
      · rw [decide_eq_false c] at hin
        obtain ⟨b, d7, e7, hd7, _⟩ := draw_ok (many := 2) hd6 ⟨by decide, by decide⟩
        have hc : xAnd (xF (eBin oNotIn (eTup [eVar 7, eVar 8]) (eVar 5))) (xBin oEq (xCallM m_law_draw [.io 0, .ex (xF (eC (.int 2)))]) (xF (eC (.int 1)))) E = .ok (.fz (.bl (b == 1)), [some d7, two, mo, nn, plD, R4, t, some (zI i), some (zI (i + 1 + j)), none]) :=
          xAndT (xF_ hin) (xBin_ (xCallM1 (xA_io rfl (xA_ex (xF_ rfl) xA_n)) rfl e7 rfl) (xF_ rfl) (pyEq_int _ _))
        cases hb : (b == 1) with
        | false =>
          rw [hb] at hc
          refine ⟨_, [some d7, two, mo, nn, plD, R4, t, some (zI i), some (zI (i + 1 + j)), none], rfl, sSeq_ t1 (sSeq_ t2 (sSeq_ (sIfF hc rfl) rfl)), d7, r4, rfl, hd7, ⟨g1, g2, g3⟩, ?_⟩
          rw [List.length_append]; omega
        | true =>
          rw [hb] at hc
          have hap : oApp (zP (i, i + 1 + j)) (.lst (r4.map zP)) = .ok (.lst ((r4 ++ [(i, i + 1 + j)]).map zP)) := by
            show need ((r4.map zP).length < 16777216) (Res.ok (D.lst (r4.map zP ++ [zP (i, i + 1 + j)]))) = _
            have hp2 : pre.length ≤ 2 := by
              have := congrArg List.length he
              rw [List.length_range, List.length_append] at this
              omega
            rw [need_t (by rw [List.length_map]; omega), List.map_append]; rfl
          refine ⟨_, [some d7, two, mo, nn, plD, some (.lst ((r4 ++ [(i, i + 1 + j)]).map zP)), t, some (zI i), some (zI (i + 1 + j)), none], rfl, sSeq_ t1 (sSeq_ t2 (sSeq_ (sIfT hc (sSeq_ (sApp_ rfl (x := zP (i, i + 1 + j)) rfl (o := .lst (r4.map zP)) rfl hap) rfl)) rfl)), d7, r4 ++ [(i, i + 1 + j)], rfl, hd7, ⟨?_, fun p hp => ?_, fun k h1 h2 => ?_⟩, ?_⟩
          · exact List.nodup_append.mpr ⟨g1, by simp, fun x hx y hy e => by
              have : y = (i, i + 1 + j) := by simpa using hy
              subst this; subst e; exact c hx⟩
          · rcases List.mem_append.mp hp with hp | hp
            · exact g2 p hp
            · have : p = (i, i + 1 + j) := by simpa using hp
              subst this
              show i < i + 1 + j ∧ i + 1 + j < n
              omega
          · obtain ⟨q, h3, h4⟩ := g3 k h1 h2
            exact ⟨q, h3, List.mem_append_left _ h4⟩
          · rw [List.length_append, List.length_append]
            show r4.length + 1 ≤ n - 1 + (pre.length + 1)
            omega)
  have s5 : sRet (xF (eTup [eVar 4, eCall (c1 cTuple) [eCall (c1 cSorted) [eVar 5]]])) [some d4, two, mo, nn, plD, some (.lst (r4.map zP)), none, none, none, none] = .ok (.rt (firmD pl (r4.mergeSort leN)), [some d4, two, mo, nn, plD, some (.lst (r4.map zP)), none, none, none, none]) := by
    refine sRet_ (xF_ (eTup_ (ds := [.fz (.tup (pl.map FD.int)), .fz (.tup ((r4.mergeSort leN).map dP))]) (eAll_c rfl (eAll_c (eCall_ (ds := [.lst ((r4.mergeSort leN).map zP)]) (eAll_c (eCall_ (ds := [.lst (r4.map zP)]) rfl (sort_zP r4)) rfl) ?_) rfl)) rfl))
    show ((allF ((r4.mergeSort leN).map zP)).bind fun fs => Res.ok (D.fz (.tup fs))) = _
    rw [allF_zP]
  have perm := List.mergeSort_perm r4 leN
  refine ⟨n, pl, r4.mergeSort leN, d4, fnM_rt rfl (sSeq_ s1 (sSeq_ s2 (sSeq_ s3 (sSeq_ s4 (sSeqR s5))))) rfl, hd4, ⟨by omega, by omega, ?_, hpv, fun p hp => g2 p (perm.mem_iff.mp hp), perm.nodup_iff.mpr g1, List.pairwise_mergeSort leN_trans leN_total r4, fun k h1 h2 => ?_, ?_⟩, by omega⟩
  · rw [hpl, List.length_range]
  · obtain ⟨i, h3, h4⟩ := g3 k h1 h2
    exact ⟨i, h3, perm.mem_iff.mpr h4⟩
  · rw [perm.length_eq]
    have := hl4
    rw [List.length_range] at this
    omega
end L59
set_option Elab.async false
set_option linter.all false
set_option maxRecDepth 100000
set_option maxHeartbeats 4000000
/-! LC59: neighbours, pairs, who knows what. -/
namespace L59
open PySem VL M59 G59
/-! ### rows -/
def rowsD (n : Nat) (N : Nat → List Nat) : List D := (List.range n).map fun v => D.lst ((N v).map zI)
theorem rowsD_len (n : Nat) (N : Nat → List Nat) : (rowsD n N).length = n := by unfold rowsD; simp
theorem rowsD_at {n i : Nat} (N : Nat → List Nat) (h : i < n) : (rowsD n N)[i]? = some (.lst ((N i).map zI)) := by
  unfold rowsD
  rw [List.getElem?_map, List.getElem?_range h]; rfl
theorem rowsD_ix {n i : Nat} (N : Nat → List Nat) (h : i < n) : oIx (.lst (rowsD n N)) (zI i) = .ok (.lst ((N i).map zI)) := by
  show ofO (atI (rowsD n N) (i : Int)) = _
  rw [atI_nat, rowsD_at N h]; rfl
theorem map_set {α : Type} {n i : Nat} {f : Nat → α} {x : α} (h : i < n) : ((List.range n).map f).set i x = (List.range n).map fun v => if v = i then x else f v := by
  apply List.ext_getElem?
  intro j
  by_cases e : i = j
  · subst e
    rw [List.getElem?_set_self (by simpa using h), List.getElem?_map, List.getElem?_range h]
    simp
  · rw [List.getElem?_set_ne e, List.getElem?_map, List.getElem?_map]
    by_cases hj : j < n
    · rw [List.getElem?_range hj]
      show some (f j) = some (if j = i then x else f j)
      rw [if_neg (fun z => e z.symm)]
    · rw [List.getElem?_eq_none_iff.mpr (by simpa using hj)]; rfl
theorem rowsD_set {n i : Nat} (N : Nat → List Nat) (l : List Nat) (h : i < n) : (rowsD n N).set i (.lst (l.map zI)) = rowsD n fun v => if v = i then l else N v := by
  unfold rowsD
  rw [map_set h]
  refine List.map_congr_left fun v _ => ?_
  show (if v = i then D.lst (l.map zI) else D.lst ((N v).map zI)) = D.lst ((if v = i then l else N v).map zI)
  by_cases e : v = i
  · rw [if_pos e, if_pos e]
  · rw [if_neg e, if_neg e]
theorem rowsD_put {n i : Nat} (N : Nat → List Nat) (l : List Nat) (h : i < n) : oPut (.lst (rowsD n N)) (zI i) (.lst (l.map zI)) = .ok (.lst (rowsD n fun v => if v = i then l else N v)) := by
  show (ofO (ixN (rowsD n N).length (i : Int))).bind (fun j => Res.ok (D.lst ((rowsD n N).set j (.lst (l.map zI))))) = _
  have e : ixN (rowsD n N).length (i : Int) = some i := by
    unfold ixN
    rw [if_pos (Int.natCast_nonneg i), if_pos (by rw [rowsD_len]; omega), Int.toNat_natCast]
  rw [e]
  show Res.ok (D.lst ((rowsD n N).set i (.lst (l.map zI)))) = _
  rw [rowsD_set N l h]
theorem app_row {n i x : Nat} (N : Nat → List Nat) (h : i < n) (hl : (N i).length < 16777216) : atPath (oApp (zI x)) [zI i] (.lst (rowsD n N)) = .ok (.lst (rowsD n fun v => if v = i then N v ++ [x] else N v)) := by
  refine bind_to (rowsD_ix N h) (bind_to (v := .lst ((N i ++ [x]).map zI)) ?_ ?_)
  · show need (((N i).map zI).length < 16777216) (Res.ok (D.lst ((N i).map zI ++ [zI x]))) = _
    rw [need_t (by rw [List.length_map]; exact hl), List.map_append]; rfl
  · rw [rowsD_put N _ h]
    refine congrArg (fun N => Res.ok (D.lst (rowsD n N))) (funext fun v => ?_)
    by_cases e : v = i
    · rw [if_pos e, if_pos e, e]
    · rw [if_neg e, if_neg e]
/-! ### neighbours -/
def addN (N : Nat → List Nat) (p : Nat × Nat) : Nat → List Nat := fun v => if v = p.2 then (if v = p.1 then N v ++ [p.2] else N v) ++ [p.1] else (if v = p.1 then N v ++ [p.2] else N v)
def nb (rs : List (Nat × Nat)) : Nat → List Nat := rs.foldl addN fun _ => []
theorem nb_snoc (rs : List (Nat × Nat)) (p : Nat × Nat) : nb (rs ++ [p]) = addN (nb rs) p := by unfold nb; rw [List.foldl_append]; rfl
theorem mem_addN {N : Nat → List Nat} {p : Nat × Nat} {v w : Nat} : w ∈ addN N p v ↔ w ∈ N v ∨ (v = p.1 ∧ w = p.2) ∨ (v = p.2 ∧ w = p.1) := by
  unfold addN
  by_cases e1 : v = p.2 <;> by_cases e2 : v = p.1
  · rw [if_pos e1, if_pos e2]; simp [e1, e2, or_assoc]; simp [← e1, ← e2]
  · rw [if_pos e1, if_neg e2]; simp [e1, e2]; simp [← e1, e2]
  · rw [if_neg e1, if_pos e2]; simp [e1, e2]; simp [← e2, e1]
  · rw [if_neg e1, if_neg e2]; simp [e1, e2]
theorem mem_foldN : ∀ (rs : List (Nat × Nat)) (N : Nat → List Nat) (v w : Nat), w ∈ rs.foldl addN N v ↔ w ∈ N v ∨ (v, w) ∈ rs ∨ (w, v) ∈ rs
  | [], N, v, w => by simp
  | p :: r, N, v, w => by
    rw [List.foldl_cons, mem_foldN r, mem_addN]
    obtain ⟨a, b⟩ := p
    simp only [List.mem_cons, Prod.mk.injEq]
    constructor
    · rintro ((h | h | h) | h | h)
      · exact .inl h
      · exact .inr (.inl (.inl h))
      · exact .inr (.inr (.inl ⟨h.2, h.1⟩))
      · exact .inr (.inl (.inr h))
      · exact .inr (.inr (.inr h))
    · rintro (h | (h | h) | (h | h))
      · exact .inl (.inl h)
      · exact .inl (.inr (.inl h))
      · exact .inr (.inl h)
      · exact .inl (.inr (.inr ⟨h.2, h.1⟩))
      · exact .inr (.inr h)
theorem mem_nb {rs : List (Nat × Nat)} {v w : Nat} : w ∈ nb rs v ↔ (v, w) ∈ rs ∨ (w, v) ∈ rs := by
  unfold nb
  rw [mem_foldN]; simp
theorem len_addN (N : Nat → List Nat) (p : Nat × Nat) (v : Nat) : (addN N p v).length ≤ (N v).length + 2 := by
  unfold addN
  split <;> split <;> simp
theorem len_foldN : ∀ (rs : List (Nat × Nat)) (N : Nat → List Nat) (v : Nat), (rs.foldl addN N v).length ≤ (N v).length + 2 * rs.length
  | [], N, v => by simp
  | p :: r, N, v => by
    rw [List.foldl_cons]
    have h1 := len_foldN r (addN N p) v
    have h2 := len_addN N p v
    rw [List.length_cons]; omega
theorem len_nb (rs : List (Nat × Nat)) (v : Nat) : (nb rs v).length ≤ 2 * rs.length := by
  have := len_foldN rs (fun _ => []) v
  simpa [nb] using this
def nbs (rs : List (Nat × Nat)) (v : Nat) : List Nat := (nb rs v).mergeSort leI
theorem mem_nbs {rs : List (Nat × Nat)} {v w : Nat} : w ∈ nbs rs v ↔ (v, w) ∈ rs ∨ (w, v) ∈ rs := by
  unfold nbs
  rw [List.mem_mergeSort]; exact mem_nb
theorem len_nbs (rs : List (Nat × Nat)) (v : Nat) : (nbs rs v).length ≤ 2 * rs.length := by
  unfold nbs
  rw [List.length_mergeSort]; exact len_nb rs v
/-- the rows as they are filled: law and program alike -/
def nearBody : S := sSeq (sApp 1 [eVar 2] (eFz (eVar 3))) (sSeq (sApp 1 [eVar 3] (eFz (eVar 2))) sNx)
theorem fill_ok {n : Nat} {pl : List Int} {rs : List (Nat × Nat)} (F : FirmOk n pl rs) : ∃ e1, (sSet 1 (xF (eComp [4] (srcE (eBin oIx (eVar 0) (eC (.int 0)))) (.nm 4) (eYes) (eLst [])))) (start 6 [firmD pl rs]) = .ok (.nx, e1) ∧
    sFor (srcE (eBin oIx (eVar 0) (eC (.int 1)))) (.tp [2, 3]) [1, 2, 3] [2, 3] nearBody e1 = .ok (.nx, [some (firmD pl rs), some (.lst (rowsD n (nb rs))), none, none, none, none]) := by
  have hc : eComp [4] (srcE (eBin oIx (eVar 0) (eC (.int 0)))) (.nm 4) (eYes) (eLst []) (start 6 [firmD pl rs]) = .ok (.lst (pl.map fun _ => D.lst [])) :=
    eComp_all (gd := fun i => D.fz (.int i)) (by show Res.ok ((pl.map FD.int).map D.fz) = _; rw [List.map_map]; rfl) (by rw [F.pl]; have := F.n24; omega) fun a ha => ⟨_, rfl, rfl⟩
  have h0 : (pl.map fun _ => D.lst []) = rowsD n fun _ => [] := by
    unfold rowsD
    rw [List.map_const', show (List.range n).map (fun v => D.lst (((fun _ => []) v : List Nat).map zI)) = (List.range n).map (fun _ => D.lst []) from rfl, List.map_const', F.pl, List.length_range]
  rw [h0] at hc
  refine ⟨[some (firmD pl rs), some (.lst (rowsD n fun _ => [])), none, none, none, none], sSet_ (xF_ hc), ?_⟩
  obtain ⟨e', h1, h2⟩ := sFor_rel (α := Nat × Nat) (tg := .tp [2, 3]) (g := dP) (kill := [2, 3]) (mods := [1, 2, 3]) (src := srcE (eBin oIx (eVar 0) (eC (.int 1)))) (xs := rs) (env := [some (firmD pl rs), some (.lst (rowsD n fun _ => [])), none, none, none, none]) (body := nearBody)
    (fun pre e => e = [some (firmD pl rs), some (.lst (rowsD n (nb pre))), none, none, none, none])
    (by show Res.ok ((rs.map dP).map D.fz) = _; rw [List.map_map]; rfl) rfl
    (fun pre p post e he hR => by
      subst hR
      have hp := F.rv p (by rw [he]; simp)
      have hl : 2 * pre.length + 2 < 16777216 := by
        have := congrArg List.length he
        rw [List.length_append] at this
        have := F.few
        have := F.n24
        omega
      refine ⟨_, [some (firmD pl rs), some (.lst (rowsD n (nb (pre ++ [p])))), some (zI p.1), some (zI p.2), none, none], rfl, sSeq_ (sApp_ (dp := [zI p.1]) (x := zI p.2) rfl rfl rfl (app_row (nb pre) (by omega) (by have := len_nb pre p.1; omega))) (sSeq_ (sApp_ (dp := [zI p.2]) (x := zI p.1) rfl rfl rfl (app_row _ hp.2 (by
        show (if p.2 = p.1 then nb pre p.2 ++ [p.2] else nb pre p.2).length < 16777216
        rw [if_neg (by omega)]
        have := len_nb pre p.2
        omega))) ?_), rfl⟩
      rw [nb_snoc]
      rfl)
  rw [h2, h1]
theorem law_near_ok {n : Nat} {pl : List Int} {rs : List (Nat × Nat)} (F : FirmOk n pl rs) : m_law_near [firmD pl rs] = .ok (.lst (rowsD n (nbs rs))) := by
  obtain ⟨e1, h1, h2⟩ := fill_ok F
  refine fnP_rt rfl (sSeq_ h1 (sSeq_ h2 (sSeqR (sRet_ (xF_ ?_)))))
  · exact eComp_all (α := Nat) (gd := fun v => D.lst ((nb rs v).map zI)) (h := fun v => D.lst ((nbs rs v).map zI)) (xs := List.range n) rfl (by rw [List.length_range]; have := F.n24; omega) fun v hv => ⟨_, rfl, eCall_ rfl (sort_zI (nb rs v))⟩
def nearD (n : Nat) (rs : List (Nat × Nat)) : FD := .tup ((List.range n).map fun v => FD.tup ((nbs rs v).map dI))
theorem near_of_ok {n : Nat} {pl : List Int} {rs : List (Nat × Nat)} (F : FirmOk n pl rs) : m_near_of [firmD pl rs] = .ok (.fz (nearD n rs)) := by
  obtain ⟨e1, h1, h2⟩ := fill_ok F
  have hc : eComp [5] (srcE (eVar 1)) (.nm 5) (eYes) (eCall (c1 cTuple) [eCall (c1 cSorted) [eVar 5]]) [some (firmD pl rs), some (.lst (rowsD n (nb rs))), none, none, none, none] = .ok (.lst ((List.range n).map fun v => D.fz (FD.tup ((nbs rs v).map dI)))) :=
    eComp_all (α := Nat) (gd := fun v => D.lst ((nb rs v).map zI)) (xs := List.range n) rfl (by rw [List.length_range]; have := F.n24; omega) fun v hv => ⟨_, rfl, eCall_ (eAll_c (eCall_ rfl (sort_zI (nb rs v))) rfl) (by
      show ((allF ((nbs rs v).map zI)).bind fun fs => Res.ok (D.fz (.tup fs))) = _
      rw [allF_zI])⟩
  refine fnP_rt rfl (sSeq_ h1 (sSeq_ h2 (sSeqR (sRet_ (xF_ (eCall_ (eAll_c hc rfl) ?_))))))
  show ((allF ((List.range n).map fun v => D.fz (FD.tup ((nbs rs v).map dI)))).bind fun fs => Res.ok (D.fz (.tup fs))) = _
  rw [allF_fz]; rfl
/-! ### pairs -/
def PR (n : Nat) (rs : List (Nat × Nat)) : List (Nat × Nat) := (List.range n).flatMap fun x => (nbs rs x).map fun y => (x, y)
theorem mem_PR {n : Nat} {rs : List (Nat × Nat)} {p : Nat × Nat} : p ∈ PR n rs ↔ p.1 < n ∧ ((p.1, p.2) ∈ rs ∨ (p.2, p.1) ∈ rs) := by
  unfold PR
  rw [List.mem_flatMap]
  constructor
  · rintro ⟨x, hx, h⟩
    obtain ⟨y, hy, e⟩ := List.mem_map.mp h
    subst e
    exact ⟨List.mem_range.mp hx, mem_nbs.mp hy⟩
  · rintro ⟨h1, h2⟩
    exact ⟨p.1, List.mem_range.mpr h1, List.mem_map.mpr ⟨p.2, mem_nbs.mpr h2, rfl⟩⟩
theorem len_flat (rs : List (Nat × Nat)) : ∀ l : List Nat, (l.flatMap fun x => (nbs rs x).map fun y => (x, y)).length ≤ l.length * (2 * rs.length)
  | [] => by simp
  | x :: l => by
    rw [List.flatMap_cons, List.length_append, List.length_map, List.length_cons, Nat.succ_mul]
    have := len_nbs rs x
    have := len_flat rs l
    omega
theorem len_firm {n : Nat} {pl : List Int} {rs : List (Nat × Nat)} (F : FirmOk n pl rs) {e : VL.Env} : (eCall (c1 cLen) [eBin oIx (eVar 0) (eC (.int 0))]) (some (firmD pl rs) :: e) = .ok (.fz (.int (n : Int))) := by
  refine eCall_ (ds := [.fz (.tup (pl.map FD.int))]) rfl ?_
  show Res.ok (D.fz (.int ((pl.map FD.int).length : Nat))) = _
  rw [List.length_map, F.pl]
theorem add_zP {a b : List (Nat × Nat)} (h : a.length + b.length ≤ 16777216) : oAdd (.lst (a.map zP)) (.lst (b.map zP)) = .ok (.lst ((a ++ b).map zP)) := by
  show ((allF (a.map zP)).bind fun fs => (allF (b.map zP)).bind fun gs => need ((a.map zP).length + (b.map zP).length ≤ 16777216) (Res.ok (D.lst ((fs ++ gs).map D.fz)))) = _
  rw [allF_zP, allF_zP]
  show need _ (Res.ok (D.lst ((a.map dP ++ b.map dP).map D.fz))) = _
  rw [need_t (by rw [List.length_map, List.length_map]; exact h), ← List.map_append, List.map_map]; rfl
theorem add_zI {a b : List Nat} (h : a.length + b.length ≤ 16777216) : oAdd (.lst (a.map zI)) (.lst (b.map zI)) = .ok (.lst ((a ++ b).map zI)) := by
  show ((allF (a.map zI)).bind fun fs => (allF (b.map zI)).bind fun gs => need ((a.map zI).length + (b.map zI).length ≤ 16777216) (Res.ok (D.lst ((fs ++ gs).map D.fz)))) = _
  rw [allF_zI, allF_zI]
  show need _ (Res.ok (D.lst ((a.map dI ++ b.map dI).map D.fz))) = _
  rw [need_t (by rw [List.length_map, List.length_map]; exact h), ← List.map_append, List.map_map]; rfl
theorem law_pairs_ok {n : Nat} {pl : List Int} {rs : List (Nat × Nat)} (F : FirmOk n pl rs) : m_law_pairs [firmD pl rs] = .ok (.lst ((PR n rs).map zP)) := by
  have hf := F.few
  have h24 := F.n24
  let nr : Option D := some (.lst (rowsD n (nbs rs)))
  obtain ⟨e', h1, h2⟩ := sFor_rel (α := Nat) (tg := .nm 3) (g := dI) (kill := [3, 4]) (mods := [2, 3, 4]) (src := srcR1 (eCall (c1 cLen) [eBin oIx (eVar 0) (eC (.int 0))])) (xs := List.range n) (env := [some (firmD pl rs), nr, some (.lst []), none, none])
    (body := sSeq (sSet 2 (xF (eBin oAdd (eVar 2) (eComp [4] (srcE (eBin oIx (eVar 1) (eVar 3))) (.nm 4) (eYes) (eTup [eVar 3, eVar 4]))))) (sNx))
    (fun pre e => e = [some (firmD pl rs), nr, some (.lst ((pre.flatMap fun x => (nbs rs x).map fun y => (x, y)).map zP)), none, none])
    (by exact (srcR1_ (n := n) (len_firm F) (by omega)).trans (by rw [range0])) rfl
    (fun pre a post e he hR => by
      subst hR
      have ha : a < n := by
        have : a ∈ List.range n := by rw [he]; simp
        exact List.mem_range.mp this
      have hpre : pre.length ≤ n := by
        have := congrArg List.length he
        rw [List.length_range, List.length_append] at this
        omega
      have hc : eComp [4] (srcE (eBin oIx (eVar 1) (eVar 3))) (.nm 4) (eYes) (eTup [eVar 3, eVar 4]) [some (firmD pl rs), nr, some (.lst ((pre.flatMap fun x => (nbs rs x).map fun y => (x, y)).map zP)), some (zI a), none] = .ok (.lst (((nbs rs a).map fun y => (a, y)).map zP)) := by
        rw [List.map_map]
        refine eComp_all (α := Nat) (gd := zI) (xs := nbs rs a) (by
          show ((eBin oIx (eVar 1) (eVar 3) _).bind items) = _
          rw [eBin_ (x := .lst (rowsD n (nbs rs))) (y := zI a) rfl rfl (rowsD_ix _ ha)]; rfl) (by have := len_nbs rs a; omega) fun y hy => ⟨_, rfl, rfl⟩
      refine ⟨_, [some (firmD pl rs), nr, some (.lst (((pre ++ [a]).flatMap fun x => (nbs rs x).map fun y => (x, y)).map zP)), some (zI a), none], rfl, sSeq_ (sSet_ (xF_ (eBin_ rfl hc (add_zP ?_)))) ?_, rfl⟩
      · have h1 := len_flat rs pre
        have h2 := len_nbs rs a
        rw [List.length_map]
        have h3 : pre.length * (2 * rs.length) ≤ 24 * 50 := Nat.mul_le_mul (by omega) (by omega)
        omega
      · rw [List.flatMap_append]
        simp only [List.flatMap_cons, List.flatMap_nil, List.append_nil]
        rfl)
  refine fnP_rt rfl (sSeq_ (sSet_ (xF_ (eCall_ rfl (law_near_ok F)))) (sSeq_ (sSet_ rfl) (sSeq_ h2 (sSeqR (sRet_ (e := [some (firmD pl rs), nr, none, none, none]) ?_)))))
  rw [h1]; rfl
end L59
set_option Elab.async false
set_option linter.all false
set_option maxRecDepth 100000
set_option maxHeartbeats 4000000
/-! LD59: who knows all. -/
namespace L59
open PySem VL M59 G59
theorem least_of : ∀ (r : List Int) (m : Int), leastI m r ∈ m :: r ∧ ∀ y ∈ m :: r, leastI m r ≤ y
  | [], m => ⟨by simp [leastI], fun y h => by
    have e : y = m := by simpa using h
    rw [e]; exact Int.le_refl _⟩
  | x :: r, m => by
    unfold leastI
    obtain ⟨h1, h2⟩ := least_of r (if x < m then x else m)
    have hc : (if x < m then x else m) ≤ m ∧ (if x < m then x else m) ≤ x ∧ ((if x < m then x else m) = x ∨ (if x < m then x else m) = m) := by
      by_cases c : x < m
      · rw [if_pos c]; exact ⟨Int.le_of_lt c, Int.le_refl _, .inl rfl⟩
      · rw [if_neg c]; exact ⟨Int.le_refl _, by omega, .inr rfl⟩
    refine ⟨?_, fun y hy => ?_⟩
    · rcases List.mem_cons.mp h1 with e | h1
      · rw [e]
        rcases hc.2.2 with e2 | e2
        · rw [e2]; simp
        · rw [e2]; simp
      · exact List.mem_cons_of_mem _ (List.mem_cons_of_mem _ h1)
    · have h0 := h2 _ List.mem_cons_self
      rcases List.mem_cons.mp hy with rfl | hy
      · omega
      · rcases List.mem_cons.mp hy with rfl | hy
        · omega
        · exact h2 y (List.mem_cons_of_mem _ hy)
def knowB (n : Nat) (ps : List (Nat × Nat)) : Bool := decide (∀ v, v < n → (Kn ps v).length = n)
theorem notIn_zI (rs : List Nat) (p : Nat) : oNotIn (zI p) (.lst (rs.map zI)) = .ok (.fz (.bl (!decide (p ∈ rs)))) := by
  show (((allF (rs.map zI)).bind fun fs => need ((dI p).okq = true ∧ okqs fs = true) (.ok (fs.any fun g => pyEq g (dI p)))).bind fun b => Res.ok (D.fz (.bl (!b)))) = _
  rw [allF_zI]
  show (need ((dI p).okq = true ∧ okqs (rs.map dI) = true) (.ok ((rs.map dI).any fun g => pyEq g (dI p)))).bind _ = _
  rw [need, if_pos ⟨rfl, okqs_map (fun _ => rfl) (fun _ => Nat.zero_le _) rs⟩, any_dI]
theorem min_ok {n : Nat} {L : Nat → Nat} (hn : 0 < n) (hL : ∀ v, v < n → L v ≤ n) : ∃ m : Int, cMin1 (.lst ((List.range n).map fun v => zI (L v))) = .ok (.fz (.int m)) ∧ (m == (n : Int)) = decide (∀ v, v < n → L v = n) := by
  have e0 : (List.range n).map (fun v => zI (L v)) = ((List.range n).map L).map zI := by rw [List.map_map]; rfl
  rw [e0]
  show ∃ m : Int, ((allF (((List.range n).map L).map zI)).bind fun fs => (ints? fs).bind fun is => match is with
    | [] => Res.bad
    | m :: r => Res.ok (D.fz (.int (leastI m r)))) = _ ∧ _
  rw [allF_zI]
  show ∃ m : Int, ((ints? (((List.range n).map L).map dI)).bind fun is => match is with
    | [] => Res.bad
    | m :: r => Res.ok (D.fz (.int (leastI m r)))) = _ ∧ _
  rw [ints_dI]
  cases hl : ((List.range n).map L).map (fun (k : Nat) => (k : Int)) with
  | nil =>
    have := congrArg List.length hl
    simp at this
    omega
  | cons m r =>
    obtain ⟨h1, h2⟩ := least_of r m
    refine ⟨leastI m r, rfl, ?_⟩
    rw [← hl] at h1 h2
    obtain ⟨k, hk, e1⟩ := List.mem_map.mp h1
    obtain ⟨v, hv, e2⟩ := List.mem_map.mp hk
    rw [Bool.eq_iff_iff, beq_iff_eq, decide_eq_true_eq]
    constructor
    · intro h v hv
      have := h2 ((L v : Nat) : Int) (List.mem_map.mpr ⟨L v, List.mem_map.mpr ⟨v, List.mem_range.mpr hv, rfl⟩, rfl⟩)
      have := hL v hv
      omega
    · intro h
      have := h v (List.mem_range.mp hv)
      omega
theorem know_ok {n : Nat} {X : D} {ps : List (Nat × Nat)} (hn : 0 < n) (h24 : n ≤ 24) (hX : items X = .ok (ps.map zP)) (hps : ∀ p ∈ ps, p.1 < n ∧ p.2 < n) : m_law_all_know [zI n, X] = .ok (.fz (.bl (knowB n ps))) := by
  have c1' : eComp [3] (srcR1 (eVar 0)) (.nm 3) (eYes) (eLst [eFz (eVar 3)]) (start 7 [zI n, X]) = .ok (.lst (rowsD n fun v => [v])) :=
    eComp_all (α := Nat) (gd := zI) (h := fun v => D.lst ([v].map zI)) (xs := List.range n) ((srcR1_ (n := n) rfl (by omega)).trans (by rw [range0]; rfl)) (by rw [List.length_range]; omega) fun v hv => ⟨_, rfl, rfl⟩
  obtain ⟨e', h1, h2⟩ := sFor_rel (α := Nat × Nat) (tg := .tp [3, 4]) (g := dP) (kill := [3, 4, 5]) (mods := [2, 3, 4, 5]) (src := srcE (eVar 1)) (xs := ps) (env := [some (zI n), some X, some (.lst (rowsD n fun v => [v])), none, none, none, none])
    (body := sSeq (sPut 2 [] (eVar 4) (xF (eBin oAdd (eBin oIx (eVar 2) (eVar 4)) (eComp [5] (srcE (eBin oIx (eVar 2) (eVar 3))) (.nm 5) (eBin oNotIn (eVar 5) (eBin oIx (eVar 2) (eVar 4))) (eFz (eVar 5)))))) (sNx))
    (fun pre e => e = [some (zI n), some X, some (.lst (rowsD n (Kn pre))), none, none, none, none])
    (by show items X = _; rw [hX]; rfl) rfl
    (fun pre p post e he hR => by
      subst hR
      have hp := hps p (by rw [he]; simp)
      have hpre : ∀ q ∈ pre, q.1 < n ∧ q.2 < n := fun q hq => hps q (by rw [he]; simp [hq])
      let E : VL.Env := [some (zI n), some X, some (.lst (rowsD n (Kn pre))), some (zI p.1), some (zI p.2), none, none]
      have i1 : eBin oIx (eVar 2) (eVar 3) E = .ok (.lst ((Kn pre p.1).map zI)) := eBin_ (x := .lst (rowsD n (Kn pre))) (y := zI p.1) rfl rfl (rowsD_ix _ hp.1)
      have i2 : eBin oIx (eVar 2) (eVar 4) E = .ok (.lst ((Kn pre p.2).map zI)) := eBin_ (x := .lst (rowsD n (Kn pre))) (y := zI p.2) rfl rfl (rowsD_ix _ hp.2)
      have l1 : (Kn pre p.1).length ≤ n := (full_iff (Kn_nodup pre p.1) (Kn_lt hpre hp.1)).1
      have l2 : (Kn pre p.2).length ≤ n := (full_iff (Kn_nodup pre p.2) (Kn_lt hpre hp.2)).1
      have hc : eComp [5] (srcE (eBin oIx (eVar 2) (eVar 3))) (.nm 5) (eBin oNotIn (eVar 5) (eBin oIx (eVar 2) (eVar 4))) (eFz (eVar 5)) E = .ok (.lst (((Kn pre p.1).filter fun z => !decide (z ∈ Kn pre p.2)).map zI)) := by
        refine eComp_map (α := Nat) (gd := zI) (xs := Kn pre p.1) (by show ((eBin oIx (eVar 2) (eVar 3) E).bind items) = _; rw [i1]; rfl) (by omega) fun z hz => ⟨[some (zI n), some X, some (.lst (rowsD n (Kn pre))), some (zI p.1), some (zI p.2), some (zI z), none], rfl, ?_, fun _ => rfl⟩
        exact eBin_ (x := zI z) rfl (eBin_ (x := .lst (rowsD n (Kn pre))) (y := zI p.2) rfl rfl (rowsD_ix _ hp.2)) (notIn_zI _ _)
      have hadd : oAdd (.lst ((Kn pre p.2).map zI)) (.lst (((Kn pre p.1).filter fun z => !decide (z ∈ Kn pre p.2)).map zI)) = _ := add_zI (by
        have := List.length_filter_le (fun z => !decide (z ∈ Kn pre p.2)) (Kn pre p.1)
        omega)
      refine ⟨E, [some (zI n), some X, some (.lst (rowsD n (Kn (pre ++ [p])))), some (zI p.1), some (zI p.2), none, none], rfl, sSeq_ (sPut_ (dp := []) (xF_ (eBin_ i2 hc hadd)) rfl rfl rfl (rowsD_put _ _ hp.2)) ?_, rfl⟩
      have e1 : (fun v => if v = p.2 then Kn pre p.2 ++ (Kn pre p.1).filter (fun z => !decide (z ∈ Kn pre p.2)) else Kn pre v) = Kn (pre ++ [p]) := by rw [Kn_snoc]; rfl
      rw [e1]
      rfl)
  subst h1
  have hlen : ∀ v, v < n → (Kn ps v).length ≤ n := fun v hv => (full_iff (Kn_nodup ps v) (Kn_lt hps hv)).1
  obtain ⟨m, hm, hb⟩ := min_ok (L := fun v => (Kn ps v).length) hn hlen
  have c2' : eComp [6] (srcE (eVar 2)) (.nm 6) (eYes) (eCall (c1 cLen) [eVar 6]) [some (zI n), some X, some (.lst (rowsD n (Kn ps))), none, none, none, none] = .ok (.lst ((List.range n).map fun v => zI (Kn ps v).length)) :=
    eComp_all (α := Nat) (gd := fun v => D.lst ((Kn ps v).map zI)) (xs := List.range n) rfl (by rw [List.length_range]; omega) fun v hv => ⟨_, rfl, by
      refine eCall_ (ds := [.lst ((Kn ps v).map zI)]) rfl ?_
      show Res.ok (D.fz (.int (((Kn ps v).map zI).length : Nat))) = _
      rw [List.length_map]; rfl⟩
  refine fnP_rt rfl (sSeq_ (sSet_ (xF_ c1')) (sSeq_ h2 (sSeqR (sRet_ (e := [some (zI n), some X, some (.lst (rowsD n (Kn ps))), none, none, none, none]) (xF_ (eBin_ (eCall_ (eAll_c c2' rfl) hm) rfl ?_))))))
  show Res.ok (D.fz (.bl (m == (n : Int)))) = _
  rw [hb]; rfl
theorem know_no {n : Nat} {ps : List (Nat × Nat)} (hn : 2 ≤ n) (hps : ∀ p ∈ ps, p.1 < n ∧ p.2 < n) (h : ps.length < 2 * n - 2) : knowB n ps = false := by
  refine decide_eq_false fun k => ?_
  have := no_fewer hn (ps := ps) fun v hv z hz => (full_iff (Kn_nodup ps v) (Kn_lt hps hv)).2.mp (k v hv) z hz
  omega
theorem know_yes {n : Nat} {T : List (Nat × Nat)} (hps : ∀ p ∈ T, p.1 < n ∧ p.2 < n) (t : TreeOk [0] T) (all : ∀ v, v < n → v = 0 ∨ v ∈ T.map (·.1)) : knowB n (T.reverse ++ T.map fun q => (q.2, q.1)) = true := by
  refine decide_eq_true fun v hv => ?_
  refine (full_iff (Kn_nodup _ v) (Kn_lt (fun p hp => ?_) hv)).2.mpr (enough t all v hv)
  rcases List.mem_append.mp hp with hp | hp
  · exact hps p (List.mem_reverse.mp hp)
  · obtain ⟨q, hq, e⟩ := List.mem_map.mp hp
    subst e
    exact ⟨(hps q hq).2, (hps q hq).1⟩
end L59
set_option Elab.async false
set_option linter.all false
set_option maxRecDepth 100000
set_option maxHeartbeats 4000000
/-! LE59: the two searches. -/
namespace L59
open PySem VL M59 G59
theorem reached {n : Nat} {pl : List Int} {rs : List (Nat × Nat)} (F : FirmOk n pl rs) {line : List Nat} (h0 : 0 ∈ line) (cl : ∀ v ∈ line, ∀ w ∈ nbs rs v, w ∈ line) : ∀ (m k : Nat), k ≤ m → k < n → k ∈ line
  | 0, k, h, _ => by have e : k = 0 := by omega
                     rw [e]; exact h0
  | m + 1, k, h, hk => by
    by_cases e : k = 0
    · rw [e]; exact h0
    · obtain ⟨i, h1, h2⟩ := F.tree k (by omega) hk
      exact cl i (reached F h0 cl m i (by omega) (by omega)) k (mem_nbs.mpr (.inl h2))
theorem nbs_lt {n : Nat} {pl : List Int} {rs : List (Nat × Nat)} (F : FirmOk n pl rs) {v w : Nat} (h : w ∈ nbs rs v) : w < n := by
  rcases mem_nbs.mp h with h | h
  · exact (F.rv _ h).2
  · have := F.rv _ h
    exact Nat.lt_trans this.1 this.2
theorem near_ix {n : Nat} {rs : List (Nat × Nat)} {v : Nat} (h : v < n) : oIx (.fz (nearD n rs)) (zI v) = .ok (.fz (.tup ((nbs rs v).map dI))) := by
  show (ofO (atI ((List.range n).map fun v => FD.tup ((nbs rs v).map dI)) (v : Int))).bind (fun f => Res.ok (D.fz f)) = _
  rw [atI_nat, List.getElem?_map, List.getElem?_range h]; rfl
theorem line_ix {line : List Nat} {i : Nat} (h : i < line.length) : oIx (.lst (line.map zI)) (zI i) = .ok (zI line[i]) := by
  show ofO (atI (line.map zI) (i : Int)) = _
  rw [atI_nat, List.getElem?_map, List.getElem?_eq_getElem h]; rfl
theorem lt_len {line : List Nat} {i : Nat} : oLt (zI i) (.fz (.int ((line.map zI).length : Nat))) = .ok (.fz (.bl (decide (i < line.length)))) := by
  rw [List.length_map]
  show Res.ok (D.fz (.bl (decide ((i : Int) < (line.length : Int))))) = _
  rw [decide_eq_decide.mpr (by omega : ((i : Int) < (line.length : Int)) ↔ i < line.length)]
theorem inc {i : Nat} : oAddI (zI i) (.fz (.int 1)) = .ok (zI (i + 1)) := rfl
theorem app_zI {line : List Nat} {w : Nat} (h : line.length < 1000) : oApp (zI w) (.lst (line.map zI)) = .ok (.lst ((line ++ [w]).map zI)) := by
  show need ((line.map zI).length < 16777216) (Res.ok (D.lst (line.map zI ++ [zI w]))) = _
  rw [need_t (by rw [List.length_map]; omega), List.map_append]; rfl
/-! ### ways_from -/
def optD : Option Nat → D
  | none => .fz .non
  | some i => zI i
def foundD (n : Nat) (fd : Nat → Option Nat) : D := .lst ((List.range n).map fun v => optD (fd v))
theorem found_ix {n v : Nat} (fd : Nat → Option Nat) (h : v < n) : oIx (foundD n fd) (zI v) = .ok (optD (fd v)) := by
  show ofO (atI ((List.range n).map fun v => optD (fd v)) (v : Int)) = _
  rw [atI_nat, List.getElem?_map, List.getElem?_range h]; rfl
theorem found_put {n v i : Nat} (fd : Nat → Option Nat) (h : v < n) : oPut (foundD n fd) (zI v) (zI i) = .ok (foundD n fun u => if u = v then some i else fd u) := by
  show (ofO (ixN ((List.range n).map fun v => optD (fd v)).length (v : Int))).bind (fun j => Res.ok (D.lst (((List.range n).map fun v => optD (fd v)).set j (zI i)))) = _
  have e : ixN ((List.range n).map fun v => optD (fd v)).length (v : Int) = some v := by
    unfold ixN
    rw [if_pos (Int.natCast_nonneg v), if_pos (by rw [List.length_map, List.length_range]; omega), Int.toNat_natCast]
  rw [e]
  show Res.ok (D.lst (((List.range n).map fun v => optD (fd v)).set v (zI i))) = _
  rw [map_set h]
  refine congrArg (fun l => Res.ok (D.lst l)) (List.map_congr_left fun u _ => ?_)
  show (if u = v then zI i else optD (fd u)) = optD (if u = v then some i else fd u)
  by_cases c : u = v
  · rw [if_pos c, if_pos c]; rfl
  · rw [if_neg c, if_neg c]
structure WI (n : Nat) (fd : Nat → Option Nat) (line : List Nat) : Prop where
  nd : line.Nodup
  lt : ∀ v ∈ line, v < n
  z : 0 ∈ line
  iff : ∀ v, v < n → ((fd v).isSome = true ↔ v ∈ line)
theorem WI.len {n : Nat} {fd : Nat → Option Nat} {line : List Nat} (h : WI n fd line) : line.length ≤ n := (full_iff h.nd h.lt).1
theorem ways_ok {n : Nat} {pl : List Int} {rs : List (Nat × Nat)} (F : FirmOk n pl rs) : ∃ fd : Nat → Option Nat, m_ways_from [.fz (nearD n rs), .fz (.int 0)] = .ok (foundD n fd) ∧ ∀ v, v < n → (fd v).isSome = true := by
  have h24 := F.n24
  have h2 := F.n2
  let nr : Option D := some (.fz (nearD n rs))
  let z : Option D := some (zI 0)
  have c1' : eComp [7] (srcE (eVar 0)) (.nm 7) (eYes) (eC .non) (start 8 [.fz (nearD n rs), .fz (.int 0)]) = .ok (foundD n fun _ => none) :=
    eComp_all (α := Nat) (gd := fun v => D.fz (FD.tup ((nbs rs v).map dI))) (h := fun v => optD none) (xs := List.range n) (by
      show Res.ok (((List.range n).map fun v => FD.tup ((nbs rs v).map dI)).map D.fz) = _
      rw [List.map_map]; rfl) (by rw [List.length_range]; omega) fun v hv => ⟨_, rfl, rfl⟩
  let ENV : (Nat → Option Nat) → List Nat → Nat → Option D → VL.Env := fun fd line a hr => [nr, z, some (foundD n fd), some (.lst (line.map zI)), some (zI a), hr, none, none]
  let inner : S := sSeq (sIf (xF (eUn oIsN (eBin oIx (eVar 2) (eVar 6))))
    (sSeq (sPut 2 [] (eVar 6) (xF (eBin oAdd (eBin oIx (eVar 2) (eVar 5)) (eC (.int 1))))) (sSeq (sApp0 3 (xMv 6)) (sNx))) (sNx)) (sNx)
  obtain ⟨e', ⟨fd, line, a, rfl, I, hal, cl⟩, hend, hwh⟩ := sWhile_rel (kill := [5, 6]) (c := xF (eBin oLt (eVar 4) (eCall (c1 cLen) [eVar 3]))) (env := ENV (fun u => if u = 0 then some 0 else none) [0] 0 none)
    (body := sSeq (sSet 5 (xZ (eBin oIx (eVar 3) (eVar 4)))) (sSeq (sAug oAddI 4 (xF (eC (.int 1)))) (sSeq (sFor (srcE (eBin oIx (eVar 0) (eVar 5))) (.nm 6) [2, 3, 6] [6] inner) (sNx))))
    (fun e => ∃ fd line a, e = ENV fd line a none ∧ WI n fd line ∧ a ≤ line.length ∧ ∀ v ∈ line.take a, ∀ w ∈ nbs rs v, w ∈ line)
    (fun (e : VL.Env) => match e[4]? with
      | some (some (D.fz (FD.int i))) => n - i.toNat
      | _ => 0)
    ⟨_, [0], 0, rfl, ⟨by simp, fun v hv => by have : v = 0 := by simpa using hv
                                              omega, by simp, fun v hv => by
      by_cases e : v = 0
      · simp [e]
      · simp [e]⟩, Nat.zero_le _, fun v hv => by simp at hv⟩
    (fun e ⟨fd, line, a, he, I, hal, cl⟩ _ => by
      subst he
      have hll := I.len
      by_cases c : a < line.length
      · refine .inr ⟨xF_ (eBin_ (y := .fz (.int ((line.map zI).length : Nat))) rfl rfl (lt_len.trans (by rw [decide_eq_true c]))), ?_⟩
        have hh : line[a] ∈ line := List.getElem_mem c
        have hhn : line[a] < n := I.lt _ hh
        obtain ⟨e', ⟨fd2, line2, rfl, I2, ⟨more, em⟩, hw⟩, hf⟩ := sFor_rel (α := Nat) (tg := .nm 6) (g := dI) (kill := [6]) (mods := [2, 3, 6]) (src := srcE (eBin oIx (eVar 0) (eVar 5))) (xs := nbs rs line[a]) (env := ENV fd line (a + 1) (some (zI line[a]))) (body := inner)
          (fun pre e => ∃ fd2 line2, e = ENV fd2 line2 (a + 1) (some (zI line[a])) ∧ WI n fd2 line2 ∧ (∃ more, line2 = line ++ more) ∧ ∀ w ∈ pre, w ∈ line2)
          (by
            show ((eBin oIx (eVar 0) (eVar 5) _).bind items) = _
            rw [eBin_ (x := .fz (nearD n rs)) (y := zI line[a]) rfl rfl (near_ix hhn)]
            show Res.ok (((nbs rs line[a]).map dI).map D.fz) = _
            rw [List.map_map]; rfl)
          ⟨fd, line, rfl, I, ⟨[], by simp⟩, fun w hw => by cases hw⟩
          (fun pre w post e he ⟨fd2, line2, h1, I2, ⟨more, em⟩, hw⟩ => by
            subst h1
            have hwn : w < n := nbs_lt F (v := line[a]) (by rw [he]; simp)
            have hl2 := I2.len
            let E : VL.Env := [nr, z, some (foundD n fd2), some (.lst (line2.map zI)), some (zI (a + 1)), some (zI line[a]), some (zI w), none]
            have hit : eBin oIx (eVar 2) (eVar 6) E = .ok (optD (fd2 w)) := eBin_ (x := foundD n fd2) (y := zI w) rfl rfl (found_ix fd2 hwn)
            cases hfw : fd2 w with
            | some k =>
              rw [hfw] at hit
              refine ⟨E, E, rfl, sSeq_ (sIfF (xF_ (eUn_ hit rfl)) rfl) rfl, fd2, line2, rfl, I2, ⟨more, em⟩, fun u hu => ?_⟩
              rcases List.mem_append.mp hu with hu | hu
              · exact hw u hu
              · have : u = w := by simpa using hu
                subst this
                exact (I2.iff u hwn).mp (by rw [hfw]; rfl)
            | none =>
              rw [hfw] at hit
              have hwl : w ∉ line2 := fun hm => by
                have := (I2.iff w hwn).mpr hm
                rw [hfw] at this; cases this
              have hs : (fd2 line[a]).isSome = true := (I2.iff _ hhn).mpr (by rw [em]; exact List.mem_append_left _ hh)
              obtain ⟨dist, hdist⟩ := Option.isSome_iff_exists.mp hs
              have hx : eBin oAdd (eBin oIx (eVar 2) (eVar 5)) (eC (.int 1)) E = .ok (zI (dist + 1)) := eBin_ (x := zI dist) (eBin_ (x := foundD n fd2) (y := zI line[a]) rfl rfl ((found_ix fd2 hhn).trans (by rw [hdist]; rfl))) rfl rfl
              let fd3 : Nat → Option Nat := fun u => if u = w then some (dist + 1) else fd2 u
              refine ⟨E, [nr, z, some (foundD n fd3), some (.lst ((line2 ++ [w]).map zI)), some (zI (a + 1)), some (zI line[a]), none, none], rfl, sSeq_ (sIfT (xF_ (eUn_ hit rfl)) (sSeq_ (sPut_ (dp := []) (xF_ hx) rfl rfl rfl (found_put fd2 hwn)) (sSeq_ (sApp0_ (l := line2.map zI) (x := zI w) rfl (xMv_ rfl) (o := .lst (line2.map zI)) rfl (app_zI (by omega))) rfl))) rfl, fd3, line2 ++ [w], rfl, ⟨?_, fun v hv => ?_, List.mem_append_left _ I2.z, fun v hv => ?_⟩, ⟨more ++ [w], by rw [em]; simp⟩, fun u hu => ?_⟩
              · exact List.nodup_append.mpr ⟨I2.nd, by simp, fun x hxm y hy e => by
                  have : y = w := by simpa using hy
                  subst this; subst e; exact hwl hxm⟩
              · rcases List.mem_append.mp hv with hv | hv
                · exact I2.lt v hv
                · have : v = w := by simpa using hv
                  subst this; exact hwn
              · show (if v = w then some (dist + 1) else fd2 v).isSome = true ↔ v ∈ line2 ++ [w]
                by_cases e : v = w
                · rw [if_pos e]; simp [e]
                · rw [if_neg e, I2.iff v hv]; simp [e]
              · rcases List.mem_append.mp hu with hu | hu
                · exact List.mem_append_left _ (hw u hu)
                · exact List.mem_append_right _ hu)
        refine ⟨ENV fd2 line2 (a + 1) (some (zI line[a])), sSeq_ (sSet_ (xZ_ (f := dI line[a]) (eBin_ (x := .lst (line.map zI)) (y := zI a) rfl rfl (line_ix c)))) (sSeq_ (sAug_ (gf := dI a) rfl (xF_ rfl) inc) (sSeq_ hf rfl)), ⟨fd2, line2, a + 1, rfl, I2, by rw [em, List.length_append]; omega, fun v hv w hw2 => ?_⟩, ?_⟩
        · rw [em, List.take_append_of_le_length (by omega), List.take_succ_eq_append_getElem c] at hv
          rcases List.mem_append.mp hv with hv | hv
          · rw [em]; exact List.mem_append_left _ (cl v hv w hw2)
          · have : v = line[a] := by simpa using hv
            subst this
            exact hw w hw2
        · show n - ((a + 1 : Nat) : Int).toNat < n - ((a : Nat) : Int).toNat
          rw [Int.toNat_natCast, Int.toNat_natCast]; omega
      · exact .inl (xF_ (eBin_ (y := .fz (.int ((line.map zI).length : Nat))) rfl rfl (lt_len.trans (by rw [decide_eq_false c])))))
  have hc : ¬ a < line.length := fun c => by
    have h1 : xF (eBin oLt (eVar 4) (eCall (c1 cLen) [eVar 3])) (ENV fd line a none) = .ok (.fz (.bl true), ENV fd line a none) := xF_ (eBin_ (y := .fz (.int ((line.map zI).length : Nat))) rfl rfl (lt_len.trans (by rw [decide_eq_true c])))
    rw [h1] at hend
    cases hend
  rw [List.take_of_length_le (by omega)] at cl
  refine ⟨fd, fnP_rt rfl (sSeq_ (sSet_ (xF_ c1')) (sSeq_ (sPut_ (dp := []) (xF_ rfl) rfl rfl rfl (found_put (v := 0) (i := 0) _ (by omega))) (sSeq_ (sSet_ rfl) (sSeq_ (sSet_ rfl) (sSeq_ hwh (sSeqR (sRet_ (xMv_ rfl)))))))), fun v hv => (I.iff v hv).mpr (reached F I.z cl v v (Nat.le_refl _) hv)⟩
end L59
set_option Elab.async false
set_option linter.all false
set_option maxRecDepth 100000
set_option maxHeartbeats 4000000
/-! LF59: tree_from. -/
namespace L59
open PySem VL M59 G59
def seenD (line : List Nat) : D := .dic (line.map fun (v : Nat) => ((Sum.inl (v : Int) : Key), D.fz (.bl true)))
theorem seen_any : ∀ (line : List Nat) (w : Nat), ((line.map fun (v : Nat) => ((Sum.inl (v : Int) : Key), D.fz (.bl true))).any fun kv => decide (kv.1 = (Sum.inl (w : Int) : Key))) = decide (w ∈ line)
  | [], w => by simp
  | v :: r, w => by
    rw [List.map_cons, List.any_cons, seen_any r w, Bool.eq_iff_iff]
    simp only [Bool.or_eq_true, decide_eq_true_eq, List.mem_cons]
    constructor
    · rintro (h | h)
      · exact .inl (by have := Sum.inl.inj h; omega)
      · exact .inr h
    · rintro (h | h)
      · exact .inl (by rw [h])
      · exact .inr h
theorem seen_val : ∀ (line : List Nat) (w : Nat), (valV (line.map fun (v : Nat) => ((Sum.inl (v : Int) : Key), D.fz (.bl true))) (Sum.inl (w : Int) : Key)).isSome = decide (w ∈ line) := fun line w => by
  rw [← seen_any]
  unfold valV
  rw [Option.isSome_map, List.isSome_find?]
theorem seen_notIn (line : List Nat) (w : Nat) : oNotIn (zI w) (seenD line) = .ok (.fz (.bl (!decide (w ∈ line)))) := by
  show Res.ok (D.fz (.bl (!(valV (line.map fun (v : Nat) => ((Sum.inl (v : Int) : Key), D.fz (.bl true))) (Sum.inl (w : Int) : Key)).isSome))) = _
  rw [seen_val]
theorem seen_put {line : List Nat} {w : Nat} (h : w ∉ line) (hl : line.length < 1000) : oPut (seenD line) (zI w) (.fz (.bl true)) = .ok (seenD (line ++ [w])) := by
  show need ((line.map fun (v : Nat) => ((Sum.inl (v : Int) : Key), D.fz (.bl true))).length < 16777216) (Res.ok (D.dic (putK (line.map fun (v : Nat) => ((Sum.inl (v : Int) : Key), D.fz (.bl true))) (Sum.inl (w : Int) : Key) (.fz (.bl true))))) = _
  rw [need_t (by rw [List.length_map]; omega)]
  unfold putK
  rw [if_neg (by rw [seen_any, decide_eq_false h]; exact Bool.false_ne_true)]
  unfold seenD
  rw [List.map_append]; rfl
theorem app_zP {line : List (Nat × Nat)} {w : Nat × Nat} (h : line.length < 1000) : oApp (zP w) (.lst (line.map zP)) = .ok (.lst ((line ++ [w]).map zP)) := by
  show need ((line.map zP).length < 16777216) (Res.ok (D.lst (line.map zP ++ [zP w]))) = _
  rw [need_t (by rw [List.length_map]; omega), List.map_append]; rfl
structure TI (n : Nat) (rs T : List (Nat × Nat)) : Prop where
  nd : (0 :: T.map (·.1)).Nodup
  lt : ∀ p ∈ T, p.1 < n ∧ p.2 < n
  tree : TreeOk [0] T
  adj : ∀ p ∈ T, (p.1, p.2) ∈ rs ∨ (p.2, p.1) ∈ rs
def lineT (T : List (Nat × Nat)) : List Nat := 0 :: T.map (·.1)
theorem lineT_snoc (T : List (Nat × Nat)) (p : Nat × Nat) : lineT (T ++ [p]) = lineT T ++ [p.1] := by unfold lineT; simp
theorem TI.ltl {n : Nat} {rs T : List (Nat × Nat)} (h : TI n rs T) (hn : 2 ≤ n) : ∀ v ∈ lineT T, v < n := fun v hv => by
  rcases List.mem_cons.mp hv with e | hv
  · omega
  · obtain ⟨p, hp, e⟩ := List.mem_map.mp hv
    rw [← e]; exact (h.lt p hp).1
theorem TI.len {n : Nat} {rs T : List (Nat × Nat)} (h : TI n rs T) (hn : 2 ≤ n) : (lineT T).length ≤ n := (full_iff h.nd (h.ltl hn)).1
theorem tree_ok {n : Nat} {pl : List Int} {rs : List (Nat × Nat)} (F : FirmOk n pl rs) : ∃ T, m_tree_from [firmD pl rs] = .ok (.lst (T.map zP)) ∧ TI n rs T ∧ ∀ v, v < n → v ∈ lineT T := by
  have h24 := F.n24
  have h2 := F.n2
  let fm : Option D := some (firmD pl rs)
  let nr : Option D := some (.fz (nearD n rs))
  let ENV : List (Nat × Nat) → Nat → Option D → Option D → VL.Env := fun T a hr o => [fm, nr, some (.lst ((lineT T).map zI)), some (seenD (lineT T)), some (.lst (T.map zP)), some (zI a), hr, o]
  let inner : S := sSeq (sIf (xF (eBin oNotIn (eVar 7) (eVar 3)))
    (sSeq (sPut 3 [] (eVar 7) (xF (eC (.bl true)))) (sSeq (sApp0 2 (xZ (eVar 7))) (sSeq (sApp 4 [] (eTup [eVar 7, eVar 6])) (sNx)))) (sNx)) (sNx)
  obtain ⟨e', ⟨T, a, rfl, I, hal, cl⟩, hend, hwh⟩ := sWhile_rel (kill := [6, 7]) (c := xF (eBin oLt (eVar 5) (eCall (c1 cLen) [eVar 2]))) (env := ENV [] 0 none none)
    (body := sSeq (sSet 6 (xZ (eBin oIx (eVar 2) (eVar 5)))) (sSeq (sAug oAddI 5 (xF (eC (.int 1)))) (sSeq (sFor (srcE (eBin oIx (eVar 1) (eVar 6))) (.nm 7) [2, 3, 4, 7] [7] inner) (sNx))))
    (fun e => ∃ T a, e = ENV T a none none ∧ TI n rs T ∧ a ≤ (lineT T).length ∧ ∀ v ∈ (lineT T).take a, ∀ w ∈ nbs rs v, w ∈ lineT T)
    (fun (e : VL.Env) => match e[5]? with
      | some (some (D.fz (FD.int i))) => n - i.toNat
      | _ => 0)
    ⟨[], 0, rfl, ⟨by simp, fun p hp => (by cases hp), trivial, fun p hp => (by cases hp)⟩, Nat.zero_le _, fun v hv => by simp at hv⟩
    (fun e ⟨T, a, he, I, hal, cl⟩ _ => by
      subst he
      have hll := I.len h2
      by_cases c : a < (lineT T).length
      · refine .inr ⟨xF_ (eBin_ (y := .fz (.int (((lineT T).map zI).length : Nat))) rfl rfl (lt_len.trans (by rw [decide_eq_true c]))), ?_⟩
        generalize hh0 : (lineT T)[a] = here
        have hh : here ∈ lineT T := by rw [← hh0]; exact List.getElem_mem c
        have hhn : here < n := I.ltl h2 _ hh
        obtain ⟨e', ⟨T2, rfl, I2, ⟨more, em⟩, hw⟩, hf⟩ := sFor_rel (α := Nat) (tg := .nm 7) (g := dI) (kill := [7]) (mods := [2, 3, 4, 7]) (src := srcE (eBin oIx (eVar 1) (eVar 6))) (xs := nbs rs here) (env := ENV T (a + 1) (some (zI here)) none) (body := inner)
          (fun pre e => ∃ T2, e = ENV T2 (a + 1) (some (zI here)) none ∧ TI n rs T2 ∧ (∃ more, lineT T2 = lineT T ++ more) ∧ ∀ w ∈ pre, w ∈ lineT T2)
          (by
            show ((eBin oIx (eVar 1) (eVar 6) _).bind items) = _
            rw [eBin_ (x := .fz (nearD n rs)) (y := zI here) rfl rfl (near_ix hhn)]
            show Res.ok (((nbs rs here).map dI).map D.fz) = _
            rw [List.map_map]; rfl)
          ⟨T, rfl, I, ⟨[], by simp⟩, fun w hw => by cases hw⟩
          (fun pre w post e he ⟨T2, h1, I2, ⟨more, em⟩, hw⟩ => by
            subst h1
            have hwb : w ∈ nbs rs here := by rw [he]; simp
            have hwn : w < n := nbs_lt F hwb
            have hl2 := I2.len h2
            have hT2 : T2.length < 1000 := by
              have : (lineT T2).length = T2.length + 1 := by unfold lineT; simp
              omega
            have hin : eBin oNotIn (eVar 7) (eVar 3) (ENV T2 (a + 1) (some (zI here)) (some (zI w))) = .ok (.fz (.bl (!decide (w ∈ lineT T2)))) := eBin_ (x := zI w) (y := seenD (lineT T2)) rfl rfl (seen_notIn _ _)
            by_cases hwl : w ∈ lineT T2
            · rw [decide_eq_true hwl] at hin
              refine ⟨_, ENV T2 (a + 1) (some (zI here)) (some (zI w)), rfl, sSeq_ (sIfF (xF_ hin) rfl) rfl, T2, rfl, I2, ⟨more, em⟩, fun u hu => ?_⟩
              rcases List.mem_append.mp hu with hu | hu
              · exact hw u hu
              · have : u = w := by simpa using hu
                subst this
                exact hwl
            · rw [decide_eq_false hwl] at hin
              have hh2 : here ∈ lineT T2 := by rw [em]; exact List.mem_append_left _ hh
              have e1 : lineT (T2 ++ [(w, here)]) = lineT T2 ++ [w] := lineT_snoc T2 (w, here)
              refine ⟨_, ENV (T2 ++ [(w, here)]) (a + 1) (some (zI here)) (some (zI w)), rfl, sSeq_ (sIfT (xF_ hin) (sSeq_ (sPut_ (dp := []) (xF_ rfl) rfl rfl rfl (seen_put hwl (by omega))) (sSeq_ (sApp0_ (l := (lineT T2).map zI) (x := zI w) rfl (xZ_ rfl) (o := .lst ((lineT T2).map zI)) rfl (app_zI (by omega))) (sSeq_ (sApp_ (dp := []) (x := zP (w, here)) rfl rfl (o := .lst (T2.map zP)) rfl (app_zP hT2)) ?_)))) rfl, T2 ++ [(w, here)], rfl, ⟨?_, fun p hp => ?_, I2.tree.snoc ?_, fun p hp => ?_⟩, ⟨more ++ [w], by rw [e1, em]; simp⟩, fun u hu => ?_⟩
              · show Res.ok (Fl.nx, ([fm, nr, some (.lst ((lineT T2 ++ [w]).map zI)), some (seenD (lineT T2 ++ [w])), some (.lst ((T2 ++ [(w, here)]).map zP)), some (zI (a + 1)), some (zI here), some (zI w)] : VL.Env)) = _
                rw [← e1]
              · show (lineT (T2 ++ [(w, here)])).Nodup
                rw [e1]
                exact List.nodup_append.mpr ⟨I2.nd, by simp, fun x hxm y hy e => by
                  have : y = w := by simpa using hy
                  subst this; subst e; exact hwl hxm⟩
              · rcases List.mem_append.mp hp with hp | hp
                · exact I2.lt p hp
                · have : p = (w, here) := by simpa using hp
                  subst this; exact ⟨hwn, hhn⟩
              · rcases List.mem_cons.mp hh2 with e | k
                · exact .inl (by rw [e]; simp)
                · exact .inr k
              · rcases List.mem_append.mp hp with hp | hp
                · exact I2.adj p hp
                · have : p = (w, here) := by simpa using hp
                  subst this
                  exact (mem_nbs.mp hwb).symm
              · rw [e1]
                rcases List.mem_append.mp hu with hu | hu
                · exact List.mem_append_left _ (hw u hu)
                · exact List.mem_append_right _ hu)
        refine ⟨ENV T2 (a + 1) (some (zI here)) none, sSeq_ (sSet_ (xZ_ (f := dI here) (eBin_ (x := .lst ((lineT T).map zI)) (y := zI a) rfl rfl ((line_ix c).trans (by rw [hh0]; rfl))))) (sSeq_ (sAug_ (gf := dI a) rfl (xF_ rfl) inc) (sSeq_ hf rfl)), ⟨T2, a + 1, rfl, I2, by rw [em, List.length_append]; omega, fun v hv w hw2 => ?_⟩, ?_⟩
        · rw [em, List.take_append_of_le_length (by omega), List.take_succ_eq_append_getElem c] at hv
          rcases List.mem_append.mp hv with hv | hv
          · rw [em]; exact List.mem_append_left _ (cl v hv w hw2)
          · have e3 : v = here := by rw [← hh0]; simpa using hv
            rw [e3] at hw2
            exact hw w hw2
        · show n - ((a + 1 : Nat) : Int).toNat < n - ((a : Nat) : Int).toNat
          rw [Int.toNat_natCast, Int.toNat_natCast]; omega
      · exact .inl (xF_ (eBin_ (y := .fz (.int (((lineT T).map zI).length : Nat))) rfl rfl (lt_len.trans (by rw [decide_eq_false c])))))
  have hc : ¬ a < (lineT T).length := fun c => by
    have h1 : xF (eBin oLt (eVar 5) (eCall (c1 cLen) [eVar 2])) (ENV T a none none) = .ok (.fz (.bl true), ENV T a none none) := xF_ (eBin_ (y := .fz (.int (((lineT T).map zI).length : Nat))) rfl rfl (lt_len.trans (by rw [decide_eq_true c])))
    rw [h1] at hend
    cases hend
  rw [List.take_of_length_le (by omega)] at cl
  refine ⟨T, fnP_rt rfl (sSeq_ (sSet_ (xF_ (eCall_ rfl (near_of_ok F)))) (sSeq_ (sSet_ rfl) (sSeq_ (sSet_ rfl) (sSeq_ (sSet_ rfl) (sSeq_ (sSet_ rfl) (sSeq_ hwh (sSeqR (sRet_ (xMv_ rfl))))))))), I, fun v hv => reached F List.mem_cons_self cl v v (Nat.le_refl _) hv⟩
end L59
set_option Elab.async false
set_option linter.all false
set_option maxRecDepth 100000
set_option maxHeartbeats 4000000
/-! LG59: the program's checks; fewest_passes. -/
namespace L59
open PySem VL M59 G59
theorem between_ok {i lo hi : Int} (h1 : lo ≤ i) (h2 : i ≤ hi) : m_is_between [.fz (.int i), .fz (.int lo), .fz (.int hi)] = .ok (.fz (.bl true)) :=
  fnP_rt rfl (sSeqR (sRet_ (xZ_ (eAndT (eCall_ (z := .fz (.bl true)) rfl rfl) (eChain_ rfl rfl (dec_t h1) rfl (dec_t h2))))))
theorem places_ok {n : Nat} {pl : List Int} {rs : List (Nat × Nat)} (F : FirmOk n pl rs) : m_are_places [.fz (.tup (pl.map FD.int)), .fz (.int 2)] = .ok (.fz (.bl true)) := by
  have h24 := F.n24
  have h2 := F.n2
  obtain ⟨e', h1, hf⟩ := sFor_rel (α := Int) (tg := .nm 2) (g := FD.int) (kill := [2]) (mods := [2]) (src := srcE (eVar 0)) (xs := pl) (env := [some (.fz (.tup (pl.map FD.int))), some (.fz (.int 2)), none])
    (body := sSeq (sIf (xF (eNot (eCall m_is_between [eVar 2, eC (.int 0), eBin oSub (eVar 1) (eC (.int 1))]))) (sSeq (sRet (xF (eC (.bl false)))) (sNx)) (sNx)) (sNx))
    (fun pre e => e = [some (.fz (.tup (pl.map FD.int))), some (.fz (.int 2)), none])
    (by show Res.ok ((pl.map FD.int).map D.fz) = _; rw [List.map_map]; rfl) rfl
    (fun pre a post e he hR => by
      subst hR
      have hv := F.pv a (by rw [he]; simp)
      exact ⟨_, [some (.fz (.tup (pl.map FD.int))), some (.fz (.int 2)), some (.fz (.int a))], rfl, sSeq_ (sIfF (xF_ (eNot_ (eCall_ rfl (between_ok hv.1 (by show a ≤ 2 - 1; omega))))) rfl) rfl, rfl⟩)
  have hlen : (eCall (c1 cLen) [eVar 0]) (start 3 [.fz (.tup (pl.map FD.int)), .fz (.int 2)]) = .ok (.fz (.int (n : Int))) := by
    refine eCall_ (ds := [.fz (.tup (pl.map FD.int))]) rfl ?_
    show Res.ok (D.fz (.int ((pl.map FD.int).length : Nat))) = _
    rw [List.length_map, F.pl]
  have hch : (eChain oLe oLe (eC (.int 2)) (eCall (c1 cLen) [eVar 0]) (eC (.int 24))) (start 3 [.fz (.tup (pl.map FD.int)), .fz (.int 2)]) = .ok (.fz (.bl true)) :=
    eChain_ (x := .fz (.int 2)) (y := .fz (.int (n : Int))) (d := .fz (.int 24)) rfl hlen (dec_t (p := (2 : Int) ≤ (n : Int)) (by omega)) rfl (dec_t (p := (n : Int) ≤ (24 : Int)) (by omega))
  exact fnP_rt rfl (sSeq_ (sIfF (xF_ (eOrF (eNot_ (k := true) rfl) (eNot_ (k := true) hch))) rfl) (sSeq_ hf (sSeqR (sRet_ (xF_ rfl)))))
theorem lex_lt {p q : Nat × Nat} (h : leN p q = true) (hne : p ≠ q) : VL.lexLt [(p.1 : Int), (p.2 : Int)] [(q.1 : Int), (q.2 : Int)] = true := by
  unfold leN leP at h
  simp only [Bool.or_eq_true, Bool.and_eq_true, decide_eq_true_eq] at h
  unfold VL.lexLt
  by_cases e : (p.1 : Int) = (q.1 : Int)
  · rw [if_pos e]
    unfold VL.lexLt
    have hn : ¬ (p.2 : Int) = (q.2 : Int) := fun e2 => hne (Prod.ext (by omega) (by omega))
    rw [if_neg hn, decide_eq_true_eq]
    omega
  · rw [if_neg e, decide_eq_true_eq]
    omega
theorem routes_ok {n : Nat} {pl : List Int} {rs : List (Nat × Nat)} (F : FirmOk n pl rs) : m_are_routes [.fz (.tup (rs.map dP)), .fz (.int (n : Int))] = .ok (.fz (.bl true)) := by
  let V : Option D := some (.fz (.tup (rs.map dP)))
  let nn : Option D := some (.fz (.int (n : Int)))
  obtain ⟨e', ⟨a, b, rfl, _⟩, hf⟩ := sFor_rel (α := Nat × Nat) (tg := .nm 3) (g := dP) (kill := [3]) (mods := [2, 3]) (src := srcE (eVar 0)) (xs := rs) (env := [V, nn, some (.fz (.tup [.int (-1), .int (-1)])), none])
    (body := sSeq (sIf (xF (eOr (eNot (eUn (fun d => .ok (.fz (.bl (isTy .tuple d)))) (eVar 3))) (eBin oNe (eCall (c1 cLen) [eVar 3]) (eC (.int 2)))))
      (sSeq (sRet (xF (eC (.bl false)))) (sNx)) (sNx))
      (sSeq (sIf (xF (eOr (eNot (eCall m_is_between [eBin oIx (eVar 3) (eC (.int 0)), eC (.int 0), eBin oSub (eVar 1) (eC (.int 1))])) (eNot (eCall m_is_between [eBin oIx (eVar 3) (eC (.int 1)), eC (.int 0), eBin oSub (eVar 1) (eC (.int 1))]))))
      (sSeq (sRet (xF (eC (.bl false)))) (sNx)) (sNx))
      (sSeq (sIf (xF (eOr (eBin oGe (eBin oIx (eVar 3) (eC (.int 0))) (eBin oIx (eVar 3) (eC (.int 1)))) (eBin oLe (eVar 3) (eVar 2))))
      (sSeq (sRet (xF (eC (.bl false)))) (sNx)) (sNx))
      (sSeq (sSet 2 (xMv 3)) (sNx)))))
    (fun pre e => ∃ a b : Int, e = [V, nn, some (.fz (.tup [.int a, .int b])), none] ∧ ∀ post, rs = pre ++ post → ∀ q ∈ post, VL.lexLt [a, b] [(q.1 : Int), (q.2 : Int)] = true)
    (by show Res.ok ((rs.map dP).map D.fz) = _; rw [List.map_map]; rfl)
    ⟨-1, -1, rfl, fun post _ q _ => by
      unfold VL.lexLt
      rw [if_neg (by omega), decide_eq_true_eq]; omega⟩
    (fun pre p post e he ⟨a, b, h1, h2⟩ => by
      subst h1
      have hp := F.rv p (by rw [he]; simp)
      have hlt := h2 (p :: post) he p List.mem_cons_self
      let E : VL.Env := [V, nn, some (.fz (.tup [.int a, .int b])), some (zP p)]
      have c3 : (eBin oLe (eVar 3) (eVar 2)) E = .ok (.fz (.bl false)) := by
        refine eBin_ (x := zP p) (y := .fz (.tup [.int a, .int b])) rfl rfl ?_
        show Res.ok (D.fz (.bl (!VL.lexLt [a, b] [(p.1 : Int), (p.2 : Int)]))) = _
        rw [hlt]; rfl
      refine ⟨E, [V, nn, some (zP p), none], rfl, sSeq_ (sIfF (xF_ (eOrF (eNot_ (k := true) rfl) rfl)) rfl) (sSeq_ (sIfF (xF_ (eOrF (eNot_ (eCall_ rfl (between_ok (by show (0 : Int) ≤ (p.1 : Int); omega) (by show (p.1 : Int) ≤ (n : Int) - 1; omega)))) (eNot_ (eCall_ rfl (between_ok (by show (0 : Int) ≤ (p.2 : Int); omega) (by show (p.2 : Int) ≤ (n : Int) - 1; omega)))))) rfl)
        (sSeq_ (sIfF (xF_ (eOrF (eBin_ (x := .fz (.int (p.1 : Int))) (y := .fz (.int (p.2 : Int))) rfl rfl (dec_f (by omega))) c3)) rfl) (sSeq_ (sSet_ (xMv_ rfl)) rfl))), p.1, p.2, rfl, fun post2 he2 q hq => ?_⟩
      have epost : post2 = post := by
        have : pre ++ p :: post = pre ++ p :: post2 := by rw [← he, he2]; simp
        have := List.append_cancel_left this
        exact ((List.cons.inj this).2).symm
      subst epost
      have hs := F.srt
      have hn := F.nd
      rw [he] at hs hn
      have hs2 := (List.pairwise_cons.mp (List.pairwise_append.mp hs).2.1).1 q hq
      have hn2 := (List.nodup_cons.mp (List.nodup_append.mp hn).2.1).1
      exact lex_lt hs2 fun e => hn2 (e ▸ hq))
  exact fnP_rt rfl (sSeq_ (sIfF (xF_ (eNot_ (k := true) rfl)) rfl) (sSeq_ (sSet_ (xF_ rfl)) (sSeq_ hf (sSeqR (sRet_ (xF_ rfl))))))
def optF : Option Nat → FD
  | none => .non
  | some i => dI i
theorem none_in {n : Nat} {fd : Nat → Option Nat} (h : ∀ v, v < n → (fd v).isSome = true) : oIn (.fz .non) (foundD n fd) = .ok (.fz (.bl false)) := by
  have e0 : (List.range n).map (fun v => optD (fd v)) = (List.range n).map fun v => D.fz (optF (fd v)) := List.map_congr_left fun v _ => by cases fd v <;> rfl
  show (((allF ((List.range n).map fun v => optD (fd v))).bind fun fs => need (FD.okq .non = true ∧ okqs fs = true) (.ok (fs.any fun g => pyEq g .non))).bind fun b => Res.ok (D.fz (.bl b))) = _
  rw [e0, allF_fz]
  show ((need (FD.okq .non = true ∧ okqs ((List.range n).map fun v => optF (fd v)) = true) (Res.ok (((List.range n).map fun v => optF (fd v)).any fun g => pyEq g .non))).bind fun b => Res.ok (D.fz (.bl b))) = _
  rw [need_t ⟨rfl, okqs_map (fun v => by cases fd v <;> rfl) (fun v => by cases fd v <;> exact Nat.zero_le _) _⟩]
  show Res.ok (D.fz (.bl (((List.range n).map fun v => optF (fd v)).any fun g => pyEq g .non))) = _
  have e1 : (((List.range n).map fun v => optF (fd v)).any fun g => pyEq g .non) = false := by
    rw [List.any_map, List.any_eq_false]
    intro v hv
    obtain ⟨i, hi⟩ := Option.isSome_iff_exists.mp (h v (List.mem_range.mp hv))
    show ¬ pyEq (optF (fd v)) .non = true
    rw [hi]
    exact Bool.false_ne_true
  rw [e1]
theorem fault_ok {n : Nat} {pl : List Int} {rs : List (Nat × Nat)} (F : FirmOk n pl rs) : m_firm_fault [.fz (.int 2), firmD pl rs] = .ok (.fz .non) := by
  obtain ⟨fd, h1, h2⟩ := ways_ok F
  have hlen : (eCall (c1 cLen) [eBin oIx (eVar 1) (eC (.int 0))]) (start 2 [.fz (.int 2), firmD pl rs]) = .ok (.fz (.int (n : Int))) := by
    refine eCall_ (ds := [.fz (.tup (pl.map FD.int))]) rfl ?_
    show Res.ok (D.fz (.int ((pl.map FD.int).length : Nat))) = _
    rw [List.length_map, F.pl]
  exact fnP_rt rfl (sSeq_ (sIfF (xF_ (eOrF (eNot_ (k := true) rfl) rfl)) rfl) (sSeq_ (sIfF (xF_ (eNot_ (eCall_ (ds := [.fz (.tup (pl.map FD.int)), .fz (.int 2)]) rfl (places_ok F)))) rfl) (sSeq_ (sIfF (xF_ (eNot_ (eCall_ (ds := [.fz (.tup (rs.map dP)), .fz (.int (n : Int))]) (eAll_c rfl (eAll_c hlen rfl)) (routes_ok F)))) rfl)
    (sSeq_ (sIfF (xF_ (eBin_ rfl (eCall_ (eAll_c (eCall_ (ds := [firmD pl rs]) rfl (near_of_ok F)) rfl) h1) (none_in h2))) rfl) (sSeqR (sRet_ (xF_ rfl)))))))
theorem check_ok {n : Nat} {pl : List Int} {rs : List (Nat × Nat)} (F : FirmOk n pl rs) : m_check_firm [.fz .non, firmD pl rs] = .ok (firmD pl rs) :=
  fnP_rt rfl (sSeq_ (sSet_ (xF_ rfl)) (sSeq_ (sIfF (xF_ rfl) rfl) (sSeq_ (sSet_ (xF_ (eCall_ (ds := [.fz (.int 2), firmD pl rs]) rfl (fault_ok F)))) (sSeq_ (sIfF (xF_ rfl) rfl) (sSeqR (sRet_ (xZ_ rfl)))))))
def told (T : List (Nat × Nat)) : List (Nat × Nat) := T.reverse ++ T.map fun q => (q.2, q.1)
theorem fewest_ok {n : Nat} {pl : List Int} {rs : List (Nat × Nat)} (F : FirmOk n pl rs) : ∃ T, m_fewest_passes [firmD pl rs] = .ok (.fz (.tup ((told T).map dP))) ∧ TI n rs T ∧ (∀ v, v < n → v ∈ lineT T) ∧ T.length = n - 1 := by
  obtain ⟨T, h1, I, hall⟩ := tree_ok F
  have hl := I.len F.n2
  have hT : T.length = n - 1 := by
    have h3 := (full_iff I.nd (I.ltl F.n2)).2.mpr hall
    have h4 : (lineT T).length = T.length + 1 := by unfold lineT; simp
    have h5 : (0 :: T.map (·.1)).length = T.length + 1 := by simp
    omega
  have h24 := F.n24
  have c1' : eComp [4, 5] (srcE (eUn oRev (eVar 1))) (.tp [4, 5]) (eYes) (eTup [eVar 4, eVar 5]) [some (firmD pl rs), some (.lst (T.map zP)), none, none, none, none] = .ok (.lst (T.reverse.map zP)) :=
    eComp_all (α := Nat × Nat) (gd := zP) (xs := T.reverse) (by
      show (oRev (.lst (T.map zP))).bind items = _
      have e : oRev (.lst (T.map zP)) = .ok (.lst (T.reverse.map zP)) := by
        show ((allF (T.map zP)).bind fun fs => Res.ok (D.lst (fs.reverse.map D.fz))) = _
        rw [allF_zP]
        show Res.ok (D.lst ((T.map dP).reverse.map D.fz)) = _
        rw [← List.map_reverse, List.map_map]; rfl
      rw [e]; rfl) (by rw [List.length_reverse]; omega) fun p hp => ⟨_, rfl, rfl⟩
  have c2' : eComp [4, 5] (srcE (eVar 1)) (.tp [4, 5]) (eYes) (eTup [eVar 5, eVar 4]) [some (firmD pl rs), some (.lst (T.map zP)), some (.lst (T.reverse.map zP)), none, none, none] = .ok (.lst ((T.map fun q => (q.2, q.1)).map zP)) := by
    rw [List.map_map]
    exact eComp_all (α := Nat × Nat) (gd := zP) (xs := T) rfl (by omega) fun p hp => ⟨_, rfl, rfl⟩
  refine ⟨T, fnP_rt rfl (sSeq_ (sExpr_ (xF_ (eCall_ (ds := [.fz .non, firmD pl rs]) rfl (check_ok F)))) (sSeq_ (sSet_ (xF_ (eCall_ (ds := [firmD pl rs]) rfl h1))) (sSeq_ (sSet_ (xF_ c1')) (sSeq_ (sSet_ (xF_ c2')) (sSeqR (sRet_ (xF_ (eCall_ (eAll_c (eBin_ (x := .lst (T.reverse.map zP)) (y := .lst ((T.map fun q => (q.2, q.1)).map zP)) rfl rfl (add_zP ?_)) rfl) ?_)))))))), I, hall, hT⟩
  · rw [List.length_reverse, List.length_map]; omega
  · show ((allF ((told T).map zP)).bind fun fs => Res.ok (D.fz (.tup fs))) = _
    rw [allF_zP]
end L59
set_option Elab.async false
set_option linter.all false
set_option maxRecDepth 100000
set_option maxHeartbeats 4000000
/-! LH59: all shorter rows; the law. -/
namespace L59
open PySem VL M59 G59
theorem add_map {α : Type} {g : α → FD} {a b : List α} (h : a.length + b.length ≤ 16777216) : oAdd (.lst (a.map fun x => D.fz (g x))) (.lst (b.map fun x => D.fz (g x))) = .ok (.lst ((a ++ b).map fun x => D.fz (g x))) := by
  show ((allF (a.map fun x => D.fz (g x))).bind fun fs => (allF (b.map fun x => D.fz (g x))).bind fun gs => need ((a.map fun x => D.fz (g x)).length + (b.map fun x => D.fz (g x)).length ≤ 16777216) (Res.ok (D.lst ((fs ++ gs).map D.fz)))) = _
  rw [allF_fz, allF_fz]
  show need _ (Res.ok (D.lst ((a.map g ++ b.map g).map D.fz))) = _
  rw [need_t (by rw [List.length_map, List.length_map]; exact h), ← List.map_append, List.map_map]; rfl
theorem bools_of {α : Type} (b : α → Bool) : ∀ L : List α, bools? (L.map fun r => FD.bl (b r)) = .ok (L.map b)
  | [] => rfl
  | x :: r => by
    show (bools? (r.map fun r => FD.bl (b r))).bind (fun bs => Res.ok (b x :: bs)) = _
    rw [bools_of b r]; rfl
theorem any_ok {α : Type} {b : α → Bool} {L : List α} (h : ∀ r ∈ L, b r = false) : cAny (.lst (L.map fun r => D.fz (FD.bl (b r)))) = .ok (.fz (.bl false)) := by
  show ((allF (L.map fun r => D.fz (FD.bl (b r)))).bind fun fs => (bools? fs).bind fun bs => Res.ok (D.fz (.bl (bs.any id)))) = _
  rw [allF_fz (g := fun r => FD.bl (b r))]
  show ((bools? (L.map fun r => FD.bl (b r))).bind fun bs => Res.ok (D.fz (.bl (bs.any id)))) = _
  rw [bools_of]
  show Res.ok (D.fz (.bl ((L.map b).any id))) = _
  have e : (L.map b).any id = false := by
    rw [List.any_map, List.any_eq_false]
    intro r hr
    show ¬ b r = true
    rw [h r hr]; exact Bool.false_ne_true
  rw [e]
/-! ### all rows of passes -/
def dR (r : List (Nat × Nat)) : FD := .tup (r.map dP)
def zR (r : List (Nat × Nat)) : D := .fz (dR r)
def grow (P : List (Nat × Nat)) (L : List (List (Nat × Nat))) : List (List (Nat × Nat)) := L.flatMap fun r => P.map fun p => r ++ [p]
def Lk (P : List (Nat × Nat)) : Nat → List (List (Nat × Nat))
  | 0 => [[]]
  | k + 1 => grow P (Lk P k)
theorem grow_len (P : List (Nat × Nat)) : ∀ L, (grow P L).length = L.length * P.length
  | [] => by simp [grow]
  | r :: L => by
    have ih := grow_len P L
    unfold grow at *
    rw [List.flatMap_cons, List.length_append, List.length_map, ih, List.length_cons, Nat.succ_mul]
    omega
theorem Lk_mem (P : List (Nat × Nat)) : ∀ (k : Nat) (r : List (Nat × Nat)), r ∈ Lk P k → r.length = k ∧ ∀ p ∈ r, p ∈ P
  | 0, r, h => by
    have e : r = [] := by simpa [Lk] using h
    subst e
    exact ⟨rfl, fun p hp => by cases hp⟩
  | k + 1, r, h => by
    obtain ⟨q, hq, h⟩ := List.mem_flatMap.mp (show r ∈ (Lk P k).flatMap fun r => P.map fun p => r ++ [p] from h)
    obtain ⟨p, hp, e⟩ := List.mem_map.mp h
    subst e
    obtain ⟨h1, h2⟩ := Lk_mem P k q hq
    refine ⟨by rw [List.length_append, h1]; rfl, fun x hx => ?_⟩
    rcases List.mem_append.mp hx with hx | hx
    · exact h2 x hx
    · have : x = p := by simpa using hx
      subst this; exact hp
theorem PR_len {n : Nat} {pl : List Int} {rs : List (Nat × Nat)} (F : FirmOk n pl rs) : (PR n rs).length ≤ n * (2 * (n + 1)) := by
  have h := len_flat rs (List.range n)
  rw [List.length_range] at h
  have : n * (2 * rs.length) ≤ n * (2 * (n + 1)) := Nat.mul_le_mul_left _ (by have := F.few; omega)
  exact Nat.le_trans h this
theorem PR_lt {n : Nat} {pl : List Int} {rs : List (Nat × Nat)} (F : FirmOk n pl rs) {p : Nat × Nat} (h : p ∈ PR n rs) : p.1 < n ∧ p.2 < n := by
  obtain ⟨h1, h2⟩ := mem_PR.mp h
  refine ⟨h1, ?_⟩
  rcases h2 with h2 | h2
  · exact (F.rv _ h2).2
  · have := F.rv _ h2
    exact Nat.lt_trans this.1 this.2
theorem two_n {n : Nat} {k : Nat} (hn : 2 ≤ n) (hk : k ≤ 3) (i : Nat) {env : VL.Env} (h : eVar i env = .ok (.fz (.int (n : Int)))) : (eBin oSub (eBin oMul (eC (.int 2)) (eVar i)) (eC (.int (k : Int)))) env = .ok (.fz (.int ((2 * n - k : Nat) : Int))) := by
  refine eBin_ (x := .fz (.int (2 * (n : Int)))) (y := .fz (.int (k : Int))) (eBin_ rfl h (oMul_ (.inl (by decide)))) rfl ?_
  show Res.ok (D.fz (.int (2 * (n : Int) - (k : Int)))) = _
  rw [show (2 * (n : Int) - (k : Int)) = ((2 * n - k : Nat) : Int) by omega]
theorem none_ok {n : Nat} {pl : List Int} {rs : List (Nat × Nat)} (F : FirmOk n pl rs) (h3 : n ≤ 3) : m_law_none_shorter [firmD pl rs] = .ok (.fz (.bl true)) := by
  have h2 := F.n2
  have hP : (PR n rs).length ≤ 24 := Nat.le_trans (PR_len F) (by
    have : n * (2 * (n + 1)) ≤ 3 * 8 := Nat.mul_le_mul h3 (by omega)
    exact this)
  have hLk : ∀ k, k ≤ 3 → (Lk (PR n rs) k).length ≤ 24 ^ k := by
    intro k
    induction k with
    | zero => intro _; exact Nat.le_refl _
    | succ k ih =>
      intro hk
      show (grow _ _).length ≤ _
      rw [grow_len, Nat.pow_succ]
      exact Nat.mul_le_mul (ih (by omega)) hP
  have hpow : ∀ k, k ≤ 3 → 24 ^ k ≤ 13824 := fun k hk => Nat.le_trans (Nat.pow_le_pow_right (by decide) hk) (by decide)
  let fm : Option D := some (firmD pl rs)
  let nn : Option D := some (.fz (.int (n : Int)))
  obtain ⟨e', h1, hf⟩ := sFor_rel (α := Nat) (tg := .nm 3) (g := dI) (kill := [3, 4, 5, 6]) (mods := [2, 3, 4, 5, 6]) (src := srcR1 (eBin oSub (eBin oMul (eC (.int 2)) (eVar 1)) (eC (.int 3)))) (xs := List.range (2 * n - 3)) (env := [fm, nn, some (.lst [zR []]), none, none, none, none])
    (body := sSeq (sSet 4 (xF (eLst []))) (sSeq (sFor (srcE (eVar 2)) (.nm 5) [4, 5, 6] [5, 6] (sSeq (sSet 4 (xF (eBin oAdd (eVar 4) (eComp [6] (srcE (eCall m_law_pairs [eVar 0])) (.nm 6) (eYes) (eBin oAdd (eVar 5) (eTup [eVar 6])))))) (sNx))) (sSeq (sSet 2 (xMv 4)) (sNx))))
    (fun pre e => e = [fm, nn, some (.lst ((Lk (PR n rs) pre.length).map zR)), none, none, none, none])
    (by exact (srcR1_ (n := 2 * n - 3) (two_n (k := 3) h2 (by omega) 1 rfl) (by omega)).trans (by rw [range0])) rfl
    (fun pre a post e he hR => by
      subst hR
      have hk : pre.length + 1 ≤ 3 := by
        have := congrArg List.length he
        rw [List.length_range, List.length_append, List.length_cons] at this
        omega
      obtain ⟨e', h1, hg⟩ := sFor_rel (α := List (Nat × Nat)) (tg := .nm 5) (g := dR) (kill := [5, 6]) (mods := [4, 5, 6]) (src := srcE (eVar 2)) (xs := Lk (PR n rs) pre.length) (env := [fm, nn, some (.lst ((Lk (PR n rs) pre.length).map zR)), some (zI a), some (.lst []), none, none])
        (body := sSeq (sSet 4 (xF (eBin oAdd (eVar 4) (eComp [6] (srcE (eCall m_law_pairs [eVar 0])) (.nm 6) (eYes) (eBin oAdd (eVar 5) (eTup [eVar 6])))))) (sNx))
        (fun pr e => e = [fm, nn, some (.lst ((Lk (PR n rs) pre.length).map zR)), some (zI a), some (.lst ((grow (PR n rs) pr).map zR)), none, none])
        rfl rfl
        (fun pr r po e he2 hR => by
          subst hR
          obtain ⟨hr1, hr2⟩ := Lk_mem (PR n rs) pre.length r (by rw [he2]; simp)
          let E : VL.Env := [fm, nn, some (.lst ((Lk (PR n rs) pre.length).map zR)), some (zI a), some (.lst ((grow (PR n rs) pr).map zR)), some (zR r), none]
          have hc : eComp [6] (srcE (eCall m_law_pairs [eVar 0])) (.nm 6) (eYes) (eBin oAdd (eVar 5) (eTup [eVar 6])) E = .ok (.lst (((PR n rs).map fun p => r ++ [p]).map zR)) := by
            rw [List.map_map]
            refine eComp_all (α := Nat × Nat) (gd := zP) (xs := PR n rs) (by
              show ((eCall m_law_pairs [eVar 0] E).bind items) = _
              rw [eCall_ (ds := [firmD pl rs]) rfl (law_pairs_ok F)]; rfl) (by omega) fun p hp => ⟨[fm, nn, some (.lst ((Lk (PR n rs) pre.length).map zR)), some (zI a), some (.lst ((grow (PR n rs) pr).map zR)), some (zR r), some (zP p)], rfl, eBin_ (x := zR r) (y := .fz (.tup [dP p])) rfl rfl ?_⟩
            show need ((r.map dP).length + 1 ≤ 16777216) (Res.ok (D.fz (.tup (r.map dP ++ [dP p])))) = Res.ok (D.fz (.tup ((r ++ [p]).map dP)))
            rw [need_t (by rw [List.length_map]; omega), List.map_append]; rfl
          have hgl : (grow (PR n rs) pr).length ≤ 13824 := by
            rw [grow_len]
            have hl1 : pr.length ≤ (Lk (PR n rs) pre.length).length := by
              have := congrArg List.length he2
              rw [List.length_append] at this
              omega
            have := hLk pre.length (by omega)
            have h5 : pr.length * (PR n rs).length ≤ 24 ^ pre.length * 24 := Nat.mul_le_mul (by omega) hP
            have h6 := hpow (pre.length + 1) (by omega)
            rw [Nat.pow_succ] at h6
            omega
          refine ⟨E, [fm, nn, some (.lst ((Lk (PR n rs) pre.length).map zR)), some (zI a), some (.lst ((grow (PR n rs) (pr ++ [r])).map zR)), some (zR r), none], rfl, sSeq_ (sSet_ (xF_ (eBin_ (x := .lst ((grow (PR n rs) pr).map zR)) (y := .lst (((PR n rs).map fun p => r ++ [p]).map zR)) rfl hc (add_map (g := dR) (by rw [List.length_map]; omega))))) ?_, rfl⟩
          have e7 : grow (PR n rs) pr ++ (PR n rs).map (fun p => r ++ [p]) = grow (PR n rs) (pr ++ [r]) := by
            unfold grow
            rw [List.flatMap_append]
            simp only [List.flatMap_cons, List.flatMap_nil, List.append_nil]
          rw [e7]
          rfl)
      subst h1
      refine ⟨_, [fm, nn, some (.lst ((Lk (PR n rs) (pre ++ [a]).length).map zR)), some (zI a), none, none, none], rfl, sSeq_ (sSet_ rfl) (sSeq_ hg (sSeq_ (sSet_ (xMv_ rfl)) ?_)), rfl⟩
      have e8 : (pre ++ [a]).length = pre.length + 1 := by simp
      rw [e8]
      rfl)
  subst h1
  have hend : (List.range (2 * n - 3)).length = 2 * n - 3 := List.length_range
  rw [hend] at hf
  have hlast := hLk (2 * n - 3) (by omega)
  have hlast2 := hpow (2 * n - 3) (by omega)
  have hc : eComp [5] (srcE (eVar 2)) (.nm 5) (eYes) (eCall m_law_all_know [eVar 1, eVar 5]) [fm, nn, some (.lst ((Lk (PR n rs) (2 * n - 3)).map zR)), none, none, none, none] = .ok (.lst ((Lk (PR n rs) (2 * n - 3)).map fun r => D.fz (.bl (knowB n r)))) :=
    eComp_all (α := List (Nat × Nat)) (gd := zR) (xs := Lk (PR n rs) (2 * n - 3)) rfl (by omega) fun r hr => ⟨_, rfl, eCall_ (ds := [zI n, zR r]) rfl (know_ok (by omega) (by omega) (by
      show Res.ok ((r.map dP).map D.fz) = _
      rw [List.map_map]; rfl) fun p hp => PR_lt F ((Lk_mem _ _ r hr).2 p hp))⟩
  exact fnP_rt rfl (sSeq_ (sSet_ (xF_ (len_firm F))) (sSeq_ (sSet_ (d := .lst [zR []]) rfl) (sSeq_ hf (sSeqR (sRet_ (xF_ (eNot_ (k := false) (eCall_ (eAll_c hc rfl) (any_ok fun r hr => know_no h2 (fun p hp => PR_lt F ((Lk_mem _ _ r hr).2 p hp)) (by rw [(Lk_mem _ _ r hr).1]; omega))))))))))
end L59
set_option Elab.async false
set_option linter.all false
set_option maxRecDepth 100000
set_option maxHeartbeats 4000000
/-! L59: the law, in plain Lean. -/
namespace L59
open PySem VL M59 G59
theorem cut_map {α β : Type} (g : α → β) (xs : List α) (lo hi : Option Int) : cut (xs.map g) lo hi = (cut xs lo hi).map g := by
  unfold cut
  rw [List.length_map, List.map_take, List.map_drop]
theorem cut_mem {α : Type} {xs : List α} {lo hi : Option Int} {x : α} (h : x ∈ cut xs lo hi) : x ∈ xs := List.mem_of_mem_drop (List.mem_of_mem_take h)
theorem sIx_s (n d k : Nat) : sIx n d (some (k : Int)) = min k n := by
  show (if (k : Int) < 0 then ((k : Int) + (n : Int)).toNat else min (k : Int).toNat n) = _
  rw [if_neg (by omega), Int.toNat_natCast]
theorem cut_lo {α : Type} {xs : List α} {k : Nat} (h : k < xs.length) : (cut xs none (some (k : Int))).length = k := by
  show ((xs.drop 0).take (sIx xs.length xs.length (some (k : Int)) - 0)).length = k
  rw [sIx_s, List.length_take, List.length_drop]
  omega
theorem cut_hi {α : Type} {xs : List α} {k : Nat} (h : k < xs.length) : (cut xs (some ((k : Int) + 1)) none).length = xs.length - (k + 1) := by
  have e : (k : Int) + 1 = ((k + 1 : Nat) : Int) := by omega
  rw [e]
  show ((xs.drop (sIx xs.length 0 (some ((k + 1 : Nat) : Int)))).take (xs.length - sIx xs.length 0 (some ((k + 1 : Nat) : Int)))).length = _
  rw [sIx_s, List.length_take, List.length_drop]
  omega
theorem notIn_PR {n : Nat} {rs : List (Nat × Nat)} {p : Nat × Nat} (h : p ∈ PR n rs) : oNotIn (zP p) (.lst ((PR n rs).map zP)) = .ok (.fz (.bl false)) := by
  rw [notIn_zP, decide_eq_true h]; rfl
theorem all_two (p : Nat × Nat) : cAll (.lst [.fz (.bl true), .fz (.bl true)]) = .ok (.fz (.bl true)) := rfl
theorem law_true (ns : List Int) (h : ns.length ≤ 63) : m_law [.fz (.scr ns)] = .ok (.fz (.bl true)) := by
  obtain ⟨d, hb, hd⟩ := begin_ok ns h
  obtain ⟨k, d1, hr, hd1⟩ := rare_ok (many := 16) hd ⟨by decide, by decide⟩
  let sc : Option D := some (.fz (.scr ns))
  -- most
  obtain ⟨most, hm2, hm24, s3⟩ : ∃ most : Int, 2 ≤ most ∧ most ≤ 24 ∧ sIf (xCallM m_law_rare [.io 1, .ex (xF (eC (.int 16)))]) (sSeq (sSet 2 (xF (eC (.int 24)))) (sNx)) (sNx) [sc, some d, some (.fz (.int 6)), none, none, none, none, none, none, none, none] = .ok (.nx, [sc, some d1, some (.fz (.int most)), none, none, none, none, none, none, none, none]) := by
    have hc : xCallM m_law_rare [.io 1, .ex (xF (eC (.int 16)))] [sc, some d, some (.fz (.int 6)), none, none, none, none, none, none, none, none] = .ok (.fz (.bl k), [sc, some d1, some (.fz (.int 6)), none, none, none, none, none, none, none, none]) :=
      xCallM1 (xA_io rfl (xA_ex (xF_ rfl) xA_n)) rfl hr rfl
    cases k with
    | true => exact ⟨24, by decide, by decide, sIfT hc rfl⟩
    | false => exact ⟨6, by decide, by decide, sIfF hc rfl⟩
  obtain ⟨n, pl, rs, d2, hf, hd2, F, hn⟩ := firm_ok hd1 hm2 hm24
  obtain ⟨T, ht, I, hall, hTl⟩ := fewest_ok F
  have h2 := F.n2
  have h24 := F.n24
  have htl : (told T).length = 2 * n - 2 := by
    unfold told
    rw [List.length_append, List.length_reverse, List.length_map, hTl]; omega
  have hTlt := I.lt
  have htlt : ∀ p ∈ told T, p.1 < n ∧ p.2 < n := fun p hp => by
    rcases List.mem_append.mp hp with hp | hp
    · exact I.lt p (List.mem_reverse.mp hp)
    · obtain ⟨q, hq, e⟩ := List.mem_map.mp hp
      subst e
      exact ⟨(I.lt q hq).2, (I.lt q hq).1⟩
  have htPR : ∀ p ∈ told T, p ∈ PR n rs := fun p hp => by
    refine mem_PR.mpr ⟨(htlt p hp).1, ?_⟩
    rcases List.mem_append.mp hp with hp | hp
    · exact I.adj p (List.mem_reverse.mp hp)
    · obtain ⟨q, hq, e⟩ := List.mem_map.mp hp
      subst e
      exact (I.adj q hq).symm
  let mo : Option D := some (.fz (.int most))
  let fm : Option D := some (firmD pl rs)
  let nn : Option D := some (zI n)
  let pr : Option D := some (.lst ((PR n rs).map zP))
  let tl : Option D := some (.fz (.tup ((told T).map dP)))
  let E : VL.Env := [sc, some d2, mo, fm, nn, pr, tl, none, none, none, none]
  -- the firm
  have s4 : sSet 3 (xCallM m_law_firm [.io 1, .ex (xF (eC (.int 2))), .ro 2]) [sc, some d1, mo, none, none, none, none, none, none, none, none] = .ok (.nx, [sc, some d2, mo, fm, none, none, none, none, none, none, none]) :=
    sSet_ (d := firmD pl rs) (e := [sc, some d2, mo, none, none, none, none, none, none, none, none]) (xCallM1 (xA_io rfl (xA_ex (xF_ rfl) (xA_ro rfl xA_n))) rfl hf rfl)
  have s5 : sSet 4 (xF (eCall (c1 cLen) [eBin oIx (eVar 3) (eC (.int 0))])) [sc, some d2, mo, fm, none, none, none, none, none, none, none] = .ok (.nx, [sc, some d2, mo, fm, nn, none, none, none, none, none, none]) := by
    refine sSet_ (d := zI n) (xF_ (eCall_ (ds := [.fz (.tup (pl.map FD.int))]) rfl ?_))
    show Res.ok (D.fz (.int ((pl.map FD.int).length : Nat))) = _
    rw [List.length_map, F.pl]; rfl
  have s6 : sSet 5 (xF (eCall m_law_pairs [eVar 3])) [sc, some d2, mo, fm, nn, none, none, none, none, none, none] = .ok (.nx, [sc, some d2, mo, fm, nn, pr, none, none, none, none, none]) := sSet_ (xF_ (eCall_ (ds := [firmD pl rs]) rfl (law_pairs_ok F)))
  have s7 : sSet 6 (xF (eCall m_fewest_passes [eVar 3])) [sc, some d2, mo, fm, nn, pr, none, none, none, none, none] = .ok (.nx, E) := sSet_ (xF_ (eCall_ (ds := [firmD pl rs]) rfl ht))
  -- its length
  have hlen : ∀ (e : VL.Env), e[6]? = some tl → (eCall (c1 cLen) [eVar 6]) e = .ok (.fz (.int (((2 * n - 2 : Nat)) : Int))) := fun e he => by
    have hv : eVar 6 e = .ok (.fz (.tup ((told T).map dP))) := by unfold eVar; rw [he]
    refine eCall_ (eAll_c hv rfl) ?_
    show Res.ok (D.fz (.int (((told T).map dP).length : Nat))) = _
    rw [List.length_map, htl]
  have c8 : (eOr (eNot (eUn (fun d => .ok (.fz (.bl (isTy .tuple d)))) (eVar 6))) (eBin oNe (eCall (c1 cLen) [eVar 6]) (eBin oSub (eBin oMul (eC (.int 2)) (eVar 4)) (eC (.int 2))))) E = .ok (.fz (.bl false)) := by
    refine eOrF (eNot_ (k := true) rfl) (eBin_ (hlen E rfl) (two_n (k := 2) h2 (by omega) 4 rfl) ?_)
    show Res.ok (D.fz (.bl (!(((2 * n - 2 : Nat) : Int) == ((2 * n - 2 : Nat) : Int))))) = _
    rw [beq_self_eq_true]; rfl
  -- its rows
  obtain ⟨e', h9, s9⟩ := sFor_rel (α := Nat × Nat) (tg := .nm 7) (g := dP) (kill := [7, 10]) (mods := [7, 10]) (src := srcE (eVar 6)) (xs := told T) (env := E)
    (body := sSeq (sIf (xF (eOr (eNot (eUn (fun d => .ok (.fz (.bl (isTy .tuple d)))) (eVar 7))) (eOr (eBin oNe (eCall (c1 cLen) [eVar 7]) (eC (.int 2))) (eOr (eNot (eCall (c1 cAll) [eComp [10] (srcE (eVar 7)) (.nm 10) (eYes) (eCall m_law_is_int [eVar 10])])) (eBin oNotIn (eVar 7) (eVar 5))))))
      (sSeq (sRet (xF (eC (.bl false)))) (sNx)) (sNx)) (sNx))
    (fun pre e => e = E)
    (by show Res.ok (((told T).map dP).map D.fz) = _; rw [List.map_map]; rfl) rfl
    (fun pre p post e he hR => by
      subst hR
      have hp := htPR p (by rw [he]; simp)
      let E2 : VL.Env := [sc, some d2, mo, fm, nn, pr, tl, some (zP p), none, none, none]
      have hall' : eComp [10] (srcE (eVar 7)) (.nm 10) (eYes) (eCall m_law_is_int [eVar 10]) E2 = .ok (.lst [.fz (.bl true), .fz (.bl true)]) :=
        eComp_all (α := Nat) (gd := zI) (h := fun _ => D.fz (.bl true)) (xs := [p.1, p.2]) rfl (by simp) fun a ha => ⟨_, rfl, rfl⟩
      exact ⟨E2, E2, rfl, sSeq_ (sIfF (xF_ (eOrF (eNot_ (k := true) rfl) (eOrF rfl (eOrF (eNot_ (k := true) (eCall_ (eAll_c hall' rfl) rfl)) (eBin_ (x := zP p) (y := .lst ((PR n rs).map zP)) rfl rfl (notIn_PR hp)))))) rfl) rfl, rfl⟩)
  subst h9
  -- all know
  have hitems : items (.fz (.tup ((told T).map dP))) = .ok ((told T).map zP) := by
    show Res.ok (((told T).map dP).map D.fz) = _
    rw [List.map_map]; rfl
  have hk : (eCall m_law_all_know [eVar 4, eVar 6]) E = .ok (.fz (.bl true)) := by
    refine eCall_ (ds := [zI n, .fz (.tup ((told T).map dP))]) rfl ((know_ok (by omega) h24 hitems htlt).trans ?_)
    have e : knowB n (told T) = true := know_yes I.lt I.tree (fun v hv => List.mem_cons.mp (hall v hv))
    rw [e]
  -- none can be left out
  have hany : (eCall (c1 cAny) [eComp [9] (srcR1 (eCall (c1 cLen) [eVar 6])) (.nm 9) (eYes) (eCall m_law_all_know [eVar 4, eBin oAdd (eCut (eVar 6) (none) (some (eVar 9))) (eCut (eVar 6) (some (eBin oAdd (eVar 9) (eC (.int 1)))) (none))])]) E = .ok (.fz (.bl false)) := by
    have hc : eComp [9] (srcR1 (eCall (c1 cLen) [eVar 6])) (.nm 9) (eYes) (eCall m_law_all_know [eVar 4, eBin oAdd (eCut (eVar 6) (none) (some (eVar 9))) (eCut (eVar 6) (some (eBin oAdd (eVar 9) (eC (.int 1)))) (none))]) E = .ok (.lst ((List.range (2 * n - 2)).map fun (k : Nat) => D.fz (.bl (knowB n (cut (told T) none (some (k : Int)) ++ cut (told T) (some ((k : Int) + 1)) none))))) := by
      refine eComp_all (α := Nat) (gd := zI) (xs := List.range (2 * n - 2)) ((srcR1_ (hlen E rfl) (by omega)).trans (by rw [range0]; rfl)) (by rw [List.length_range]; omega) fun k hk => ?_
      have hkn : k < (told T).length := by rw [htl]; exact List.mem_range.mp hk
      let E3 : VL.Env := [sc, some d2, mo, fm, nn, pr, tl, none, none, some (zI k), none]
      have q1 : eCut (eVar 6) (none) (some (eVar 9)) E3 = .ok (.fz (.tup ((cut (told T) none (some (k : Int))).map dP))) := by
        show Res.ok (D.fz (.tup (cut ((told T).map dP) none (some (k : Int))))) = _
        rw [cut_map]
      have q2 : eCut (eVar 6) (some (eBin oAdd (eVar 9) (eC (.int 1)))) (none) E3 = .ok (.fz (.tup ((cut (told T) (some ((k : Int) + 1)) none).map dP))) := by
        show Res.ok (D.fz (.tup (cut ((told T).map dP) (some ((k : Int) + 1)) none))) = _
        rw [cut_map]
      have l1 := cut_lo hkn
      have l2 := cut_hi hkn
      have q3 : oAdd (.fz (.tup ((cut (told T) none (some (k : Int))).map dP))) (.fz (.tup ((cut (told T) (some ((k : Int) + 1)) none).map dP))) = .ok (.fz (.tup ((cut (told T) none (some (k : Int)) ++ cut (told T) (some ((k : Int) + 1)) none).map dP))) := by
        refine (need_t ?_).trans (by rw [List.map_append])
        rw [List.length_map, List.length_map, l1, l2]; omega
      refine ⟨E3, rfl, eCall_ (ds := [zI n, .fz (.tup ((cut (told T) none (some (k : Int)) ++ cut (told T) (some ((k : Int) + 1)) none).map dP))]) (eAll_c rfl (eAll_c (eBin_ q1 q2 q3) rfl)) (know_ok (by omega) h24 (by
        show Res.ok (List.map D.fz (List.map dP _)) = _
        rw [List.map_map]; rfl) fun p hp => htlt p ?_)⟩
      rcases List.mem_append.mp hp with hp | hp
      · exact cut_mem hp
      · exact cut_mem hp
    refine eCall_ (eAll_c hc rfl) (any_ok fun k hk => ?_)
    have hkn : k < (told T).length := by rw [htl]; exact List.mem_range.mp hk
    refine know_no h2 (fun p hp => htlt p ?_) ?_
    · rcases List.mem_append.mp hp with hp | hp
      · exact cut_mem hp
      · exact cut_mem hp
    · rw [List.length_append, cut_lo hkn, cut_hi hkn, htl]
      rw [htl] at hkn
      omega
  -- drawn rows
  have h01 : (0, 1) ∈ PR n rs := by
    obtain ⟨i, h1, h3⟩ := F.tree 1 (by omega) (by omega)
    have e : i = 0 := by omega
    subst e
    exact mem_PR.mpr ⟨by show 0 < n; omega, .inl h3⟩
  have hPl := PR_len F
  have hPl2 : n * (2 * (n + 1)) ≤ 24 * 50 := Nat.mul_le_mul h24 (by omega)
  obtain ⟨ys, e', ⟨d3, qs, rfl, rfl, hd3, hql, hqP⟩, hx⟩ := xComp_rel (α := Nat) (tg := .nm 9) (g := dI) (own := [9]) (src := xsR1 (xF (eBin oSub (eBin oMul (eC (.int 2)) (eVar 4)) (eC (.int 3))))) (elt := xCallM m_law_pick [.io 1, .ro 5]) (xs := List.range (2 * n - 3)) (env := E) (env0 := E)
    (fun pre acc e => ∃ d3 qs, e = [sc, some d3, mo, fm, nn, pr, tl, none, none, none, none] ∧ acc = qs.map zP ∧ DS d3 ∧ qs.length = pre.length ∧ ∀ q ∈ qs, q ∈ PR n rs)
    (by exact (xsR1_ (n := 2 * n - 3) (xF_ (two_n (k := 3) h2 (by omega) 4 rfl)) (by omega)).trans (by rw [range0]))
    (by rw [List.length_range]; omega)
    ⟨d2, [], rfl, rfl, hd2, rfl, fun q hq => by cases hq⟩
    (fun pre a post acc e he ⟨d3, qs, h1, h2, h3, h4, h5⟩ => by
      subst h1 h2
      obtain ⟨f, d4, e4, hd4, hf⟩ := pick_ok (fs := (PR n rs).map dP) h3 (by rw [List.length_map]; exact List.length_pos_of_mem h01) (by rw [List.length_map]; omega)
      obtain ⟨q, hq, rfl⟩ := List.mem_map.mp hf
      rw [List.map_map] at e4
      exact ⟨_, zP q, [sc, some d4, mo, fm, nn, pr, tl, none, none, some (zI a), none], rfl, xCallM1 (ds := [d3, .lst ((PR n rs).map zP)]) (xA_io rfl (xA_ro rfl xA_n)) rfl e4 rfl, d4, qs ++ [q], rfl, by rw [List.map_append]; rfl, hd4, by simp [h4], fun u hu => by
        rcases List.mem_append.mp hu with hu | hu
        · exact h5 u hu
        · have : u = q := by simpa using hu
          subst this; exact hq⟩)
  rw [List.length_range] at hql
  let E4 : VL.Env := [sc, some d3, mo, fm, nn, pr, tl, none, some (.lst (qs.map zP)), none, none]
  have s12 : sSet 8 (xComp [9] (xsR1 (xF (eBin oSub (eBin oMul (eC (.int 2)) (eVar 4)) (eC (.int 3))))) (.nm 9) (xYes) (xCallM m_law_pick [.io 1, .ro 5])) E = .ok (.nx, E4) := sSet_ (e := [sc, some d3, mo, fm, nn, pr, tl, none, none, none, none]) (hx.trans rfl)
  have k1 : (eCall m_law_all_know [eVar 4, eVar 8]) E4 = .ok (.fz (.bl false)) := by
    refine eCall_ (ds := [zI n, .lst (qs.map zP)]) rfl ((know_ok (ps := qs) (by omega) h24 rfl fun p hp => PR_lt F (hqP p hp)).trans ?_)
    rw [know_no h2 (fun p hp => PR_lt F (hqP p hp)) (by omega)]
  have k2 : (eCall m_law_all_know [eVar 4, eCut (eVar 6) (some (eC (.int 1))) (none)]) E4 = .ok (.fz (.bl false)) := by
    have q2 : eCut (eVar 6) (some (eC (.int 1))) (none) E4 = .ok (.fz (.tup ((cut (told T) (some (1 : Int)) none).map dP))) := by
      show Res.ok (D.fz (.tup (cut ((told T).map dP) (some (1 : Int)) none))) = _
      rw [cut_map]
    have l2 : (cut (told T) (some (1 : Int)) none).length = (told T).length - (0 + 1) := cut_hi (k := 0) (by rw [htl]; omega)
    refine eCall_ (eAll_c rfl (eAll_c q2 rfl)) ((know_ok (ps := cut (told T) (some (1 : Int)) none) (by omega) h24 (by
      show Res.ok (List.map D.fz (List.map dP _)) = _
      rw [List.map_map]; rfl) fun p hp => htlt p (cut_mem hp)).trans ?_)
    rw [know_no h2 (fun p hp => htlt p (cut_mem hp)) (by rw [l2, htl]; omega)]
  -- the end
  have s14 : (eOr (eBin oGt (eVar 4) (eC (.int 3))) (eCall m_law_none_shorter [eVar 3])) E4 = .ok (.fz (.bl true)) := by
    by_cases c : 3 < n
    · exact eOrT (eBin_ (x := zI n) rfl rfl (dec_t (p := (3 : Int) < (n : Int)) (by omega)))
    · exact eOrF (eBin_ (x := zI n) rfl rfl (dec_f (p := (3 : Int) < (n : Int)) (by omega))) (eCall_ (ds := [firmD pl rs]) rfl (none_ok F (by omega)))
  exact fnP_rt rfl (sSeq_ (sSet_ (xF_ (eCall_ (ds := [.fz (.scr ns)]) rfl hb))) (sSeq_ (sSet_ rfl) (sSeq_ s3 (sSeq_ s4 (sSeq_ s5 (sSeq_ s6 (sSeq_ s7 (sSeq_ (sIfF (xF_ c8) rfl) (sSeq_ s9 (sSeq_ (sIfF (xF_ (eNot_ (k := true) hk)) rfl) (sSeq_ (sIfF (xF_ hany) rfl) (sSeq_ s12 (sSeq_ (sIfF (xF_ (eOrF k1 k2)) rfl) (sSeqR (sRet_ (xZ_ s14))))))))))))))))
end L59
set_option Elab.async false
set_option linter.all false
set_option maxRecDepth 100000
set_option maxHeartbeats 8000000
/-! W59: the walk, printed by gen.py. -/
namespace W59
open PySem PySem.Spec PyProof.Rows L2 VL M59
def topS (i : Nat) : Stmt := PySem.Challenge.pw_postgoeson_k59_fewest_passes.main.body.getD i (.Pass ⟨0, 0, 0, 0⟩)
structure G (mg : Str → Option Value) : Prop where
  one : True
  b_int : mg "int" = none
  b_len : mg "len" = none
  b_abs : mg "abs" = none
  b_range : mg "range" = none
  b_tuple : mg "tuple" = none
  b_sorted : mg "sorted" = none
  b_isinstance : mg "isinstance" = none
  b_bool : mg "bool" = none
  b_min : mg "min" = none
  b_any : mg "any" = none
  b_all : mg "all" = none
  c_LEAST_OFFICES : CInt mg "LEAST_OFFICES" 2
  c_MOST_OFFICES : CInt mg "MOST_OFFICES" 24
section
variable {P : Program} {w : World} {K : PySem.W.Frag} {mg : Str → Option Value} {base : Heap}
theorem sc_law_begin : FnScope ["script", "cell"] ["script"] (defScope (topS 33)) := ⟨rfl, rfl, rfl, by decide +kernel, rfl, by decide +kernel, by decide +kernel⟩
theorem c_law_begin (g : G mg) (D : DefX K mg "_law_begin" (topS 33) ["script"]) : CalP P w K mg base 1 "_law_begin" m_law_begin :=
  mk_P (k := 0) [1] D sc_law_begin rfl rfl (by decide) fun f cdv A outer s H E hr => by
    have tk : Takes (cxOf (L2.CX P w) P w K mg base ["script", "cell"] "_law_begin" (defScope (topS 33)) f cdv A outer s H E) (fun cls d _ H => E cls d H) := takes_of rfl rfl rfl rfl
    exact ((sb_cons (sv_ret (px_f (pn_lst (pan_cons (pn_comp rfl sc_law_begin.nd (pi_src (pb_var (pv 0))) (blk_by (N := ["script", "cell"]) (sc := defScope (topS 33)) (by decide +kernel)) (by decide) (fun _ _ _ _ _ => (pg_nm (pg_name (i := 1) sc_law_begin.nd rfl (by first | exact .inl rfl | exact .inr rfl)))) (fun _ _ _ _ _ => (pn_callTy call_int1 s_int rfl g.b_int PyProof.Rows.boot_int (pab_cons (pb_var (pv 1)) pab_nil))) (ownN := [("cell", 1)])) (pan_cons pn_int (pan_cons pn_int (pan_cons pn_int pan_nil)))) (by decide))))
      sb_nil))
theorem sc_law_draw : FnScope ["d", "many", "size", "found", "cell"] ["d", "many"] (defScope (topS 34)) := ⟨rfl, rfl, rfl, by decide +kernel, rfl, by decide +kernel, by decide +kernel⟩
theorem c_law_draw (g : G mg) (D : DefX K mg "_law_draw" (topS 34) ["d", "many"]) : CalM P w K mg base 1 "_law_draw" m_law_draw :=
  mk_M (k := 0) [0, 2, 3, 4] D sc_law_draw rfl rfl (by decide) (by decide) fun f cdv A outer s H E hr => by
    have tk : Takes (cxOf (L2.CX P w) P w K mg base ["d", "many", "size", "found", "cell"] "_law_draw" (defScope (topS 34)) f cdv A outer s H E) (fun cls d _ H => E cls d H) := takes_of rfl rfl rfl rfl
    exact ((sb_cons (sv_if (pxt_f (pt_cm op_gt sCmp (pb_ix (u1 hr) (pb_var (pv 0)) (pnB pn_int) (fun _ _ => rfl)) (pnB pn_int) (by first | rfl | exact nomark _)))
      (sb_cons (sv_set (i := 3) sc_law_draw.nd rfl (by first | exact .inl rfl | exact .inr rfl) (RL.ni (by decide)) (by decide) (px_z (pb_ix (u1 hr) (pb_var (pv 0)) (pnB pn_int) (fun _ _ => rfl))))
      (sb_cons (sv_put (u1 hr) (RL.ni (by decide)) (px_f (pn_bin op_fdivN sDiv (pb_var (pv 3)) (pb_var (pv 1)))) (pp_var (pv 0)) (pnB pn_int))
      (sb_cons (sv_ret (px_f (pn_bin op_modN sMod (pnB (pn_callTy call_int1 s_int rfl g.b_int PyProof.Rows.boot_int (pab_cons (pb_var (pv 3)) pab_nil))) (pb_var (pv 1)))))
      sb_nil)))
      sb_nil)
      (sb_cons (sv_set (i := 2) sc_law_draw.nd rfl (by first | exact .inl rfl | exact .inr rfl) (RL.ni (by decide)) (by decide) (px_f pn_int))
      (sb_cons (sv_if (pxt_f (pt_cm (o_lt (u0 hr)) sLt (pb_ix (u1 hr) (pb_var (pv 0)) (pnB pn_int) (fun _ _ => rfl)) (pnB (pn_callB c_len s_len rfl g.b_len PySem.boot_len (pab_cons (pb_ix (u1 hr) (pb_var (pv 0)) (pnB pn_int) (fun _ _ => rfl)) pab_nil))) (by first | rfl | exact nomark _)))
      (sb_cons (sv_set (i := 4) sc_law_draw.nd rfl (by first | exact .inl rfl | exact .inr rfl) (RL.ni (by decide)) (by decide) (px_z (pb_ix (u1 hr) (pb_ix (u1 hr) (pb_var (pv 0)) (pnB pn_int) (fun _ _ => rfl)) (pb_ix (u1 hr) (pb_var (pv 0)) (pnB pn_int) (fun _ _ => rfl)) (fun _ _ => rfl))))
      (sb_cons (sv_set (i := 2) sc_law_draw.nd rfl (by first | exact .inl rfl | exact .inr rfl) (RL.ni (by decide)) (by decide) (px_f (pn_bin o_add sAdd (pnB (pn_bin op_mul sMul (pnB pn_int) (pnB (pn_callB call_abs s_abs rfl g.b_abs PyProof.Rows.boot_abs (pab_cons (pb_var (pv 4)) pab_nil))))) (pnB (pn_callTy call_int1 s_int rfl g.b_int PyProof.Rows.boot_int (pab_cons (pnB (pn_cmp (o_lt (u0 hr)) sLt (pb_var (pv 4)) (pnB pn_int) (by first | rfl | exact nomark _))) pab_nil))))))
      sb_nil))
      sb_nil)
      (sb_cons (sv_augP (u1 hr) (RL.ni (by decide)) (pp_var (pv 0)) (pnB pn_int) pn_int o_addI' sAddI addI_ne)
      (sb_cons (sv_if (pxt_f (pt_cm op_ge sCmp (pb_var (pv 2)) (pnB (pn_bin op_mul sMul (pnB pn_int) (pnB (pn_bin op_pow sPow (pnB pn_int) (pnB pn_int))))) (by first | rfl | exact nomark _)))
      (sb_cons (sv_set (i := 3) sc_law_draw.nd rfl (by first | exact .inl rfl | exact .inr rfl) (RL.ni (by decide)) (by decide) (px_f (pn_bin op_modN sMod (pnB (pn_callTy call_int1 s_int rfl g.b_int PyProof.Rows.boot_int (pab_cons (pnB (pn_bin op_fdivN sDiv (pb_var (pv 2)) (pnB pn_int))) pab_nil))) (pnB (pn_bin op_shl sShl (pnB pn_int) (pnB pn_int))))))
      (sb_cons (sv_put (u1 hr) (RL.ni (by decide)) (px_f (pn_bin op_fdivN sDiv (pb_var (pv 3)) (pb_var (pv 1)))) (pp_var (pv 0)) (pnB pn_int))
      (sb_cons (sv_ret (px_f (pn_bin op_modN sMod (pnB (pn_callTy call_int1 s_int rfl g.b_int PyProof.Rows.boot_int (pab_cons (pb_var (pv 3)) pab_nil))) (pb_var (pv 1)))))
      sb_nil)))
      sb_nil)
      (sb_cons (sv_put (u1 hr) (RL.ni (by decide)) (px_f (pn_bin op_modN sMod (pnB (pn_callTy call_int1 s_int rfl g.b_int PyProof.Rows.boot_int (pab_cons (pnB (pn_bin o_add sAdd (pnB (pn_bin o_add sAdd (pnB (pn_bin o_add sAdd (pnB (pn_bin op_mul sMul (pb_ix (u1 hr) (pb_var (pv 0)) (pnB pn_int) (fun _ _ => rfl)) (pnB pn_int))) (pnB (pn_bin op_mul sMul (pnB (pn_bin op_modN sMod (pnB (pn_callTy call_int1 s_int rfl g.b_int PyProof.Rows.boot_int (pab_cons (pb_var (pv 2)) pab_nil))) (pnB pn_int))) (pnB pn_int))))) (pnB (pn_bin op_mul sMul (pb_ix (u1 hr) (pb_var (pv 0)) (pnB pn_int) (fun _ _ => rfl)) (pnB pn_int))))) (pnB pn_int))) pab_nil))) (pnB pn_int))) (pp_var (pv 0)) (pnB pn_int))
      (sb_cons (sv_ret (px_f (pn_bin op_modN sMod (pnB (pn_callTy call_int1 s_int rfl g.b_int PyProof.Rows.boot_int (pab_cons (pnB (pn_bin op_fdivN sDiv (pb_ix (u1 hr) (pb_var (pv 0)) (pnB pn_int) (fun _ _ => rfl)) (pnB pn_int))) pab_nil))) (pb_var (pv 1)))))
      sb_nil))))))))
theorem sc_law_rare : FnScope ["d", "many"] ["d", "many"] (defScope (topS 36)) := ⟨rfl, rfl, rfl, by decide +kernel, rfl, by decide +kernel, by decide +kernel⟩
theorem c_law_rare (g : G mg) (D : DefX K mg "_law_rare" (topS 36) ["d", "many"]) (c_law_draw : CalM P w K mg base 1 "_law_draw" m_law_draw) : CalM P w K mg base 2 "_law_rare" m_law_rare :=
  mk_M (k := 1) [0] D sc_law_rare rfl rfl (by decide) (by decide) fun f cdv A outer s H E hr => by
    have tk : Takes (cxOf (L2.CX P w) P w K mg base ["d", "many"] "_law_rare" (defScope (topS 36)) f cdv A outer s H E) (fun cls d _ H => E cls d H) := takes_of rfl rfl rfl rfl
    exact ((sb_cons (sv_ret (px_cmp (o_eq (u64 hr)) sEq (px_calM c_law_draw hr (by decide) tk rfl (RL.ni (by decide)) rfl (pxg_io (pv 0) (pxg_ro (pv 1) pxg_nil))) (px_f (pn_bin op_fdivN sDiv (pb_var (pv 1)) (pnB pn_int))) (by first | rfl | exact nomark _)))
      sb_nil))
theorem sc_law_firm : FnScope ["d", "editions", "most", "many", "places", "routes", "turn", "first", "second", "k"] ["d", "editions", "most"] (defScope (topS 38)) := ⟨rfl, rfl, rfl, by decide +kernel, rfl, by decide +kernel, by decide +kernel⟩
theorem c_law_firm (g : G mg) (D : DefX K mg "_law_firm" (topS 38) ["d", "editions", "most"]) (c_law_draw : CalM P w K mg base 1 "_law_draw" m_law_draw) : CalM P w K mg base 2 "_law_firm" m_law_firm :=
  mk_M (k := 1) [0, 3, 4, 5, 6, 7, 8, 9] D sc_law_firm rfl rfl (by decide) (by decide) fun f cdv A outer s H E hr => by
    have tk : Takes (cxOf (L2.CX P w) P w K mg base ["d", "editions", "most", "many", "places", "routes", "turn", "first", "second", "k"] "_law_firm" (defScope (topS 38)) f cdv A outer s H E) (fun cls d _ H => E cls d H) := takes_of rfl rfl rfl rfl
    exact ((sb_cons (sv_set (i := 3) sc_law_firm.nd rfl (by first | exact .inl rfl | exact .inr rfl) (RL.ni (by decide)) (by decide) (px_bin o_add sAdd (px_f pn_int) (px_calM c_law_draw hr (by decide) tk rfl (RL.ni (by decide)) rfl (pxg_io (pv 0) (pxg_ex (px_f (pn_bin op_sub sSub (pb_var (pv 2)) (pnB pn_int))) pxg_nil)))))
      (sb_cons (sv_set (i := 4) sc_law_firm.nd rfl (by first | exact .inl rfl | exact .inr rfl) (RL.ni (by decide)) (by decide) (px_callTy call_tuple_of s_tuple rfl g.b_tuple PyProof.Rows.boot_tuple (pxa_cons (px_comp rfl sc_law_firm.nd (pxi_r1 g.b_range (px_z (pb_var (pv 3)))) (blk_by (N := ["d", "editions", "most", "many", "places", "routes", "turn", "first", "second", "k"]) (sc := defScope (topS 38)) (by decide +kernel)) (by decide) (all_ni (by decide)) (fun _ _ _ _ _ => (pgx_nm (RL.ni (by decide)) (pg_name (i := 9) sc_law_firm.nd rfl (by first | exact .inl rfl | exact .inr rfl)))) (fun _ _ _ _ _ => (px_calM c_law_draw hr (by decide) takes0 rfl (RL.ni (by decide)) rfl (pxg_io (pv 0) (pxg_ro (pv 1) pxg_nil)))) (ownN := [("k", 9)])) pxa_nil)))
      (sb_cons (sv_compX (i := 5) rfl sc_law_firm.nd rfl rfl (RL.ni (by decide)) (by decide) (sw_true rfl rfl rfl (by rfl)) (pxi_r2 g.b_range (px_f pn_int) (px_z (pb_var (pv 3)))) (blk_by (N := ["d", "editions", "most", "many", "places", "routes", "turn", "first", "second", "k"]) (sc := defScope (topS 38)) (by decide +kernel)) (by decide) (all_ni (by decide)) (fun _ _ _ _ _ => (pgx_nm (RL.ni (by decide)) (pg_name (i := 9) sc_law_firm.nd rfl (by first | exact .inl rfl | exact .inr rfl)))) (fun _ _ _ _ _ => (px_tup (pxa_cons (px_calM c_law_draw hr (by decide) takes0 rfl (RL.ni (by decide)) rfl (pxg_io (pv 0) (pxg_ro (pv 9) pxg_nil))) (pxa_cons (px_z (pb_var (pv 9))) pxa_nil)) (by decide))) (ownN := [("k", 9)]))
      (sb_cons (sv_for (passes_of rfl) rfl (by decide) (by decide) (pi_r1 g.b_range (pnB pn_int)) (pgs_nm (RL.ni (by decide)) (by decide) (pg_name (i := 6) sc_law_firm.nd rfl (by first | exact .inl rfl | exact .inr rfl)))
      (sb_cons (sv_set (i := 7) sc_law_firm.nd rfl (by first | exact .inl rfl | exact .inr rfl) (RL.ni (by decide)) (by decide) (px_calM c_law_draw hr (by decide) tk rfl (RL.ni (by decide)) rfl (pxg_io (pv 0) (pxg_ex (px_f (pn_bin op_sub sSub (pb_var (pv 3)) (pnB pn_int))) pxg_nil))))
      (sb_cons (sv_set (i := 8) sc_law_firm.nd rfl (by first | exact .inl rfl | exact .inr rfl) (RL.ni (by decide)) (by decide) (px_bin o_add sAdd (px_f (pn_bin o_add sAdd (pb_var (pv 7)) (pnB pn_int))) (px_calM c_law_draw hr (by decide) tk rfl (RL.ni (by decide)) rfl (pxg_io (pv 0) (pxg_ex (px_f (pn_bin op_sub sSub (pnB (pn_bin op_sub sSub (pb_var (pv 3)) (pnB pn_int))) (pb_var (pv 7)))) pxg_nil)))))
      (sb_cons (sv_if (pxtW (pxwAnd (pxt_f (pt_cm (o_notIn (u65 hr)) sNotIn (pnB (pn_tup (pab_cons (pb_var (pv 7)) (pab_cons (pb_var (pv 8)) pab_nil)) (by decide))) (pb_var (pv 5)) (by first | rfl | exact nomark _))) (pxwAnd1 (pxt_cmp (o_eq (u64 hr)) sEq (px_calM c_law_draw hr (by decide) tk rfl (RL.ni (by decide)) rfl (pxg_io (pv 0) (pxg_ex (px_f pn_int) pxg_nil))) (px_f pn_int) (by first | rfl | exact nomark _)))))
      (sb_cons (sv_app (RL.ni (by decide)) (pp_var (pv 5)) (pn_tup (pab_cons (pb_var (pv 7)) (pab_cons (pb_var (pv 8)) pab_nil)) (by decide)))
      sb_nil)
      sb_nil)
      sb_nil))))
      (sb_cons (sv_ret (px_f (pn_tup (pab_cons (pb_var (pv 4)) (pab_cons (pnB (pn_callTy call_tuple_of s_tuple rfl g.b_tuple PyProof.Rows.boot_tuple (pab_cons (pnB (pn_callB VL.cr_sorted s_sorted rfl g.b_sorted PyProof.Rows.boot_sorted (pab_cons (pb_var (pv 5)) pab_nil))) pab_nil))) pab_nil)) (by decide))))
      sb_nil))))))
theorem sc_law_near : FnScope ["firm", "near", "first", "second", "place", "row"] ["firm"] (defScope (topS 39)) := ⟨rfl, rfl, rfl, by decide +kernel, rfl, by decide +kernel, by decide +kernel⟩
theorem c_law_near (g : G mg) (D : DefX K mg "_law_near" (topS 39) ["firm"]) : CalP P w K mg base 1 "_law_near" m_law_near :=
  mk_P (k := 0) [1, 2, 3, 4, 5] D sc_law_near rfl rfl (by decide) fun f cdv A outer s H E hr => by
    have tk : Takes (cxOf (L2.CX P w) P w K mg base ["firm", "near", "first", "second", "place", "row"] "_law_near" (defScope (topS 39)) f cdv A outer s H E) (fun cls d _ H => E cls d H) := takes_of rfl rfl rfl rfl
    exact ((sb_cons (sv_comp (i := 1) rfl sc_law_near.nd rfl rfl (RL.ni (by decide)) (by decide) (sw_true rfl rfl rfl (by rfl)) (pi_src (pb_ix (u1 hr) (pb_var (pv 0)) (pnB pn_int) (fun _ _ => rfl))) (blk_by (N := ["firm", "near", "first", "second", "place", "row"]) (sc := defScope (topS 39)) (by decide +kernel)) (by decide) (fun _ _ _ _ _ => (pg_nm (pg_name (i := 4) sc_law_near.nd rfl (by first | exact .inl rfl | exact .inr rfl)))) (fun _ _ _ _ _ => (pn_lst pan_nil (by decide))) (ownN := [("place", 4)]))
      (sb_cons (sv_for (passes_of rfl) rfl (by decide) (by decide) (pi_src (pb_ix (u1 hr) (pb_var (pv 0)) (pnB pn_int) (fun _ _ => rfl))) (pgs_tp rfl (pgt_cons (RL.ni (by decide)) (by decide) (pg_name (i := 2) sc_law_near.nd rfl (by first | exact .inl rfl | exact .inr rfl)) (pgt_cons (RL.ni (by decide)) (by decide) (pg_name (i := 3) sc_law_near.nd rfl (by first | exact .inl rfl | exact .inr rfl)) pgt_nil)) rfl)
      (sb_cons (sv_app (RL.ni (by decide)) (pp_ix (u1 hr) (RL.ni (by decide)) (pp_var (pv 1)) (pb_var (pv 2)) (fun _ _ => rfl)) (pn_fz (pb_var (pv 3))))
      (sb_cons (sv_app (RL.ni (by decide)) (pp_ix (u1 hr) (RL.ni (by decide)) (pp_var (pv 1)) (pb_var (pv 3)) (fun _ _ => rfl)) (pn_fz (pb_var (pv 2))))
      sb_nil)))
      (sb_cons (sv_ret (px_f (pn_comp rfl sc_law_near.nd (pi_src (pb_var (pv 1))) (blk_by (N := ["firm", "near", "first", "second", "place", "row"]) (sc := defScope (topS 39)) (by decide +kernel)) (by decide) (fun _ _ _ _ _ => (pg_nm (pg_name (i := 5) sc_law_near.nd rfl (by first | exact .inl rfl | exact .inr rfl)))) (fun _ _ _ _ _ => (pn_callB VL.cr_sorted s_sorted rfl g.b_sorted PyProof.Rows.boot_sorted (pab_cons (pb_var (pv 5)) pab_nil))) (ownN := [("row", 5)]))))
      sb_nil))))
theorem sc_law_pairs : FnScope ["firm", "near", "pairs", "x", "y"] ["firm"] (defScope (topS 41)) := ⟨rfl, rfl, rfl, by decide +kernel, rfl, by decide +kernel, by decide +kernel⟩
theorem c_law_pairs (g : G mg) (D : DefX K mg "_law_pairs" (topS 41) ["firm"]) (c_law_near : CalP P w K mg base 1 "_law_near" m_law_near) : CalP P w K mg base 2 "_law_pairs" m_law_pairs :=
  mk_P (k := 1) [1, 2, 3, 4] D sc_law_pairs rfl rfl (by decide) fun f cdv A outer s H E hr => by
    have tk : Takes (cxOf (L2.CX P w) P w K mg base ["firm", "near", "pairs", "x", "y"] "_law_pairs" (defScope (topS 41)) f cdv A outer s H E) (fun cls d _ H => E cls d H) := takes_of rfl rfl rfl rfl
    exact ((sb_cons (sv_set (i := 1) sc_law_pairs.nd rfl (by first | exact .inl rfl | exact .inr rfl) (RL.ni (by decide)) (by decide) (px_f (pn_cal c_law_near hr (by decide) tk rfl (pab_cons (pb_var (pv 0)) pab_nil))))
      (sb_cons (sv_set (i := 2) sc_law_pairs.nd rfl (by first | exact .inl rfl | exact .inr rfl) (RL.ni (by decide)) (by decide) (px_f (pn_lst pan_nil (by decide))))
      (sb_cons (sv_for (passes_of rfl) rfl (by decide) (by decide) (pi_r1 g.b_range (pnB (pn_callB c_len s_len rfl g.b_len PySem.boot_len (pab_cons (pb_ix (u1 hr) (pb_var (pv 0)) (pnB pn_int) (fun _ _ => rfl)) pab_nil)))) (pgs_nm (RL.ni (by decide)) (by decide) (pg_name (i := 3) sc_law_pairs.nd rfl (by first | exact .inl rfl | exact .inr rfl)))
      (sb_cons (sv_set (i := 2) sc_law_pairs.nd rfl (by first | exact .inl rfl | exact .inr rfl) (RL.ni (by decide)) (by decide) (px_f (pn_bin o_add sAdd (pb_var (pv 2)) (pnB (pn_comp rfl sc_law_pairs.nd (pi_src (pb_ix (u1 hr) (pb_var (pv 1)) (pb_var (pv 3)) (fun _ _ => rfl))) (blk_by (N := ["firm", "near", "pairs", "x", "y"]) (sc := defScope (topS 41)) (by decide +kernel)) (by decide) (fun _ _ _ _ _ => (pg_nm (pg_name (i := 4) sc_law_pairs.nd rfl (by first | exact .inl rfl | exact .inr rfl)))) (fun _ _ _ _ _ => (pn_tup (pab_cons (pb_var (pv 3)) (pab_cons (pb_var (pv 4)) pab_nil)) (by decide))) (ownN := [("y", 4)]))))))
      sb_nil))
      (sb_cons (sv_ret (px_mv (pv 2) (RL.ni (by decide))))
      sb_nil)))))
theorem sc_is_integer : FnScope ["value"] ["value"] (defScope (topS 9)) := ⟨rfl, rfl, rfl, by decide +kernel, rfl, by decide +kernel, by decide +kernel⟩
theorem c_is_integer (g : G mg) (D : DefX K mg "is_integer" (topS 9) ["value"]) : CalP P w K mg base 1 "is_integer" m_is_integer :=
  mk_P (k := 0) [] D sc_is_integer rfl rfl (by decide) fun f cdv A outer s H E hr => by
    have tk : Takes (cxOf (L2.CX P w) P w K mg base ["value"] "is_integer" (defScope (topS 9)) f cdv A outer s H E) (fun cls d _ H => E cls d H) := takes_of rfl rfl rfl rfl
    exact ((sb_cons (sv_ret (px_z (pbAnd (pnB (pn_isTy .int g.b_isinstance g.b_int PyProof.Rows.boot_int (pb_var (pv 0)))) (pbOne (pnB (pnNot (pnB (pn_isTy .bool g.b_isinstance g.b_bool PyProof.Rows.boot_bool (pb_var (pv 0))))))))))
      sb_nil))
theorem sc_is_between : FnScope ["value", "low", "high"] ["value", "low", "high"] (defScope (topS 10)) := ⟨rfl, rfl, rfl, by decide +kernel, rfl, by decide +kernel, by decide +kernel⟩
theorem c_is_between (g : G mg) (D : DefX K mg "is_between" (topS 10) ["value", "low", "high"]) (c_is_integer : CalP P w K mg base 1 "is_integer" m_is_integer) : CalP P w K mg base 2 "is_between" m_is_between :=
  mk_P (k := 1) [] D sc_is_between rfl rfl (by decide) fun f cdv A outer s H E hr => by
    have tk : Takes (cxOf (L2.CX P w) P w K mg base ["value", "low", "high"] "is_between" (defScope (topS 10)) f cdv A outer s H E) (fun cls d _ H => E cls d H) := takes_of rfl rfl rfl rfl
    exact ((sb_cons (sv_ret (px_z (pbAnd (pnB (pn_cal c_is_integer hr (by decide) tk rfl (pab_cons (pb_var (pv 0)) pab_nil))) (pbOne (pnB (pnChain (o_le (u0 hr)) (o_le (u0 hr)) sLe sLe (pb_var (pv 1)) (pb_var (pv 0)) (pb_var (pv 2))))))))
      sb_nil))
theorem sc_are_places : FnScope ["value", "editions", "edition"] ["value", "editions"] (defScope (topS 23)) := ⟨rfl, rfl, rfl, by decide +kernel, rfl, by decide +kernel, by decide +kernel⟩
theorem c_are_places (g : G mg) (D : DefX K mg "are_places" (topS 23) ["value", "editions"]) (c_is_between : CalP P w K mg base 2 "is_between" m_is_between) : CalP P w K mg base 3 "are_places" m_are_places :=
  mk_P (k := 2) [2] D sc_are_places rfl rfl (by decide) fun f cdv A outer s H E hr => by
    have tk : Takes (cxOf (L2.CX P w) P w K mg base ["value", "editions", "edition"] "are_places" (defScope (topS 23)) f cdv A outer s H E) (fun cls d _ H => E cls d H) := takes_of rfl rfl rfl rfl
    exact ((sb_cons (sv_if (pxt_f (ptW (pwOr (ptNot (pt_b (pnB (pn_isTy .tuple g.b_isinstance g.b_tuple PyProof.Rows.boot_tuple (pb_var (pv 0)))))) (pwOr1 (ptNot (ptChain (o_le (u0 hr)) (o_le (u0 hr)) sLe sLe (pnB (pn_int' g.c_LEAST_OFFICES rfl)) (pnB (pn_callB c_len s_len rfl g.b_len PySem.boot_len (pab_cons (pb_var (pv 0)) pab_nil))) (pnB (pn_int' g.c_MOST_OFFICES rfl))))))))
      (sb_cons (sv_ret (px_f pn_bl))
      sb_nil)
      sb_nil)
      (sb_cons (sv_for (passes_of rfl) rfl (by decide) (by decide) (pi_src (pb_var (pv 0))) (pgs_nm (RL.ni (by decide)) (by decide) (pg_name (i := 2) sc_are_places.nd rfl (by first | exact .inl rfl | exact .inr rfl)))
      (sb_cons (sv_if (pxt_f (ptNot (pt_b (pnB (pn_cal c_is_between hr (by decide) tk rfl (pab_cons (pb_var (pv 2)) (pab_cons (pnB pn_int) (pab_cons (pnB (pn_bin op_sub sSub (pb_var (pv 1)) (pnB pn_int))) pab_nil))))))))
      (sb_cons (sv_ret (px_f pn_bl))
      sb_nil)
      sb_nil)
      sb_nil))
      (sb_cons (sv_ret (px_f pn_bl))
      sb_nil))))
theorem sc_are_routes : FnScope ["value", "many", "before", "route"] ["value", "many"] (defScope (topS 24)) := ⟨rfl, rfl, rfl, by decide +kernel, rfl, by decide +kernel, by decide +kernel⟩
theorem c_are_routes (g : G mg) (D : DefX K mg "are_routes" (topS 24) ["value", "many"]) (c_is_between : CalP P w K mg base 2 "is_between" m_is_between) : CalP P w K mg base 3 "are_routes" m_are_routes :=
  mk_P (k := 2) [2, 3] D sc_are_routes rfl rfl (by decide) fun f cdv A outer s H E hr => by
    have tk : Takes (cxOf (L2.CX P w) P w K mg base ["value", "many", "before", "route"] "are_routes" (defScope (topS 24)) f cdv A outer s H E) (fun cls d _ H => E cls d H) := takes_of rfl rfl rfl rfl
    exact ((sb_cons (sv_if (pxt_f (ptNot (pt_b (pnB (pn_isTy .tuple g.b_isinstance g.b_tuple PyProof.Rows.boot_tuple (pb_var (pv 0)))))))
      (sb_cons (sv_ret (px_f pn_bl))
      sb_nil)
      sb_nil)
      (sb_cons (sv_set (i := 2) sc_are_routes.nd rfl (by first | exact .inl rfl | exact .inr rfl) (RL.ni (by decide)) (by decide) (px_f (pn_tup (pab_cons (pnB (pn_un un_neg sNeg (pnB pn_int))) (pab_cons (pnB (pn_un un_neg sNeg (pnB pn_int))) pab_nil)) (by decide))))
      (sb_cons (sv_for (passes_of rfl) rfl (by decide) (by decide) (pi_src (pb_var (pv 0))) (pgs_nm (RL.ni (by decide)) (by decide) (pg_name (i := 3) sc_are_routes.nd rfl (by first | exact .inl rfl | exact .inr rfl)))
      (sb_cons (sv_if (pxt_f (ptW (pwOr (ptNot (pt_b (pnB (pn_isTy .tuple g.b_isinstance g.b_tuple PyProof.Rows.boot_tuple (pb_var (pv 3)))))) (pwOr1 (pt_cm (o_ne (u64 hr)) sNe (pnB (pn_callB c_len s_len rfl g.b_len PySem.boot_len (pab_cons (pb_var (pv 3)) pab_nil))) (pnB pn_int) (by first | rfl | exact nomark _))))))
      (sb_cons (sv_ret (px_f pn_bl))
      sb_nil)
      sb_nil)
      (sb_cons (sv_if (pxt_f (ptW (pwOr (ptNot (pt_b (pnB (pn_cal c_is_between hr (by decide) tk rfl (pab_cons (pb_ix (u1 hr) (pb_var (pv 3)) (pnB pn_int) (fun _ _ => rfl)) (pab_cons (pnB pn_int) (pab_cons (pnB (pn_bin op_sub sSub (pb_var (pv 1)) (pnB pn_int))) pab_nil))))))) (pwOr1 (ptNot (pt_b (pnB (pn_cal c_is_between hr (by decide) tk rfl (pab_cons (pb_ix (u1 hr) (pb_var (pv 3)) (pnB pn_int) (fun _ _ => rfl)) (pab_cons (pnB pn_int) (pab_cons (pnB (pn_bin op_sub sSub (pb_var (pv 1)) (pnB pn_int))) pab_nil)))))))))))
      (sb_cons (sv_ret (px_f pn_bl))
      sb_nil)
      sb_nil)
      (sb_cons (sv_if (pxt_f (ptW (pwOr (pt_cm op_ge sCmp (pb_ix (u1 hr) (pb_var (pv 3)) (pnB pn_int) (fun _ _ => rfl)) (pb_ix (u1 hr) (pb_var (pv 3)) (pnB pn_int) (fun _ _ => rfl)) (by first | rfl | exact nomark _)) (pwOr1 (pt_cm (o_le (u0 hr)) sLe (pb_var (pv 3)) (pb_var (pv 2)) (by first | rfl | exact nomark _))))))
      (sb_cons (sv_ret (px_f pn_bl))
      sb_nil)
      sb_nil)
      (sb_cons (sv_set (i := 2) sc_are_routes.nd rfl (by first | exact .inl rfl | exact .inr rfl) (RL.ni (by decide)) (by decide) (px_mv (pv 3) (RL.ni (by decide))))
      sb_nil)))))
      (sb_cons (sv_ret (px_f pn_bl))
      sb_nil)))))
theorem sc_near_of : FnScope ["firm", "near", "first", "second", "place", "row"] ["firm"] (defScope (topS 25)) := ⟨rfl, rfl, rfl, by decide +kernel, rfl, by decide +kernel, by decide +kernel⟩
theorem c_near_of (g : G mg) (D : DefX K mg "near_of" (topS 25) ["firm"]) : CalP P w K mg base 1 "near_of" m_near_of :=
  mk_P (k := 0) [1, 2, 3, 4, 5] D sc_near_of rfl rfl (by decide) fun f cdv A outer s H E hr => by
    have tk : Takes (cxOf (L2.CX P w) P w K mg base ["firm", "near", "first", "second", "place", "row"] "near_of" (defScope (topS 25)) f cdv A outer s H E) (fun cls d _ H => E cls d H) := takes_of rfl rfl rfl rfl
    exact ((sb_cons (sv_comp (i := 1) rfl sc_near_of.nd rfl rfl (RL.ni (by decide)) (by decide) (sw_true rfl rfl rfl (by rfl)) (pi_src (pb_ix (u1 hr) (pb_var (pv 0)) (pnB pn_int) (fun _ _ => rfl))) (blk_by (N := ["firm", "near", "first", "second", "place", "row"]) (sc := defScope (topS 25)) (by decide +kernel)) (by decide) (fun _ _ _ _ _ => (pg_nm (pg_name (i := 4) sc_near_of.nd rfl (by first | exact .inl rfl | exact .inr rfl)))) (fun _ _ _ _ _ => (pn_lst pan_nil (by decide))) (ownN := [("place", 4)]))
      (sb_cons (sv_for (passes_of rfl) rfl (by decide) (by decide) (pi_src (pb_ix (u1 hr) (pb_var (pv 0)) (pnB pn_int) (fun _ _ => rfl))) (pgs_tp rfl (pgt_cons (RL.ni (by decide)) (by decide) (pg_name (i := 2) sc_near_of.nd rfl (by first | exact .inl rfl | exact .inr rfl)) (pgt_cons (RL.ni (by decide)) (by decide) (pg_name (i := 3) sc_near_of.nd rfl (by first | exact .inl rfl | exact .inr rfl)) pgt_nil)) rfl)
      (sb_cons (sv_app (RL.ni (by decide)) (pp_ix (u1 hr) (RL.ni (by decide)) (pp_var (pv 1)) (pb_var (pv 2)) (fun _ _ => rfl)) (pn_fz (pb_var (pv 3))))
      (sb_cons (sv_app (RL.ni (by decide)) (pp_ix (u1 hr) (RL.ni (by decide)) (pp_var (pv 1)) (pb_var (pv 3)) (fun _ _ => rfl)) (pn_fz (pb_var (pv 2))))
      sb_nil)))
      (sb_cons (sv_ret (px_f (pn_callTy call_tuple_of s_tuple rfl g.b_tuple PyProof.Rows.boot_tuple (pab_cons (pnB (pn_comp rfl sc_near_of.nd (pi_src (pb_var (pv 1))) (blk_by (N := ["firm", "near", "first", "second", "place", "row"]) (sc := defScope (topS 25)) (by decide +kernel)) (by decide) (fun _ _ _ _ _ => (pg_nm (pg_name (i := 5) sc_near_of.nd rfl (by first | exact .inl rfl | exact .inr rfl)))) (fun _ _ _ _ _ => (pn_callTy call_tuple_of s_tuple rfl g.b_tuple PyProof.Rows.boot_tuple (pab_cons (pnB (pn_callB VL.cr_sorted s_sorted rfl g.b_sorted PyProof.Rows.boot_sorted (pab_cons (pb_var (pv 5)) pab_nil))) pab_nil))) (ownN := [("row", 5)]))) pab_nil))))
      sb_nil))))
theorem sc_ways_from : FnScope ["near", "office", "found", "line", "at", "here", "other", "row"] ["near", "office"] (defScope (topS 26)) := ⟨rfl, rfl, rfl, by decide +kernel, rfl, by decide +kernel, by decide +kernel⟩
theorem c_ways_from (g : G mg) (D : DefX K mg "ways_from" (topS 26) ["near", "office"]) : CalP P w K mg base 1 "ways_from" m_ways_from :=
  mk_P (k := 0) [2, 3, 4, 5, 6, 7] D sc_ways_from rfl rfl (by decide) fun f cdv A outer s H E hr => by
    have tk : Takes (cxOf (L2.CX P w) P w K mg base ["near", "office", "found", "line", "at", "here", "other", "row"] "ways_from" (defScope (topS 26)) f cdv A outer s H E) (fun cls d _ H => E cls d H) := takes_of rfl rfl rfl rfl
    exact ((sb_cons (sv_comp (i := 2) rfl sc_ways_from.nd rfl rfl (RL.ni (by decide)) (by decide) (sw_true rfl rfl rfl (by rfl)) (pi_src (pb_var (pv 0))) (blk_by (N := ["near", "office", "found", "line", "at", "here", "other", "row"]) (sc := defScope (topS 26)) (by decide +kernel)) (by decide) (fun _ _ _ _ _ => (pg_nm (pg_name (i := 7) sc_ways_from.nd rfl (by first | exact .inl rfl | exact .inr rfl)))) (fun _ _ _ _ _ => pn_non) (ownN := [("row", 7)]))
      (sb_cons (sv_put (u1 hr) (RL.ni (by decide)) (px_f pn_int) (pp_var (pv 2)) (pb_var (pv 1)))
      (sb_cons (sv_set (i := 3) sc_ways_from.nd rfl (by first | exact .inl rfl | exact .inr rfl) (RL.ni (by decide)) (by decide) (px_f (pn_lst (pan_cons (pn_fz (pb_var (pv 1))) pan_nil) (by decide))))
      (sb_cons (sv_set (i := 4) sc_ways_from.nd rfl (by first | exact .inl rfl | exact .inr rfl) (RL.ni (by decide)) (by decide) (px_f pn_int))
      (sb_cons (sv_while (passes_of rfl) (all_ni (by decide)) (pxt_f (pt_cm (o_lt (u0 hr)) sLt (pb_var (pv 4)) (pnB (pn_callB c_len s_len rfl g.b_len PySem.boot_len (pab_cons (pb_var (pv 3)) pab_nil))) (by first | rfl | exact nomark _)))
      (sb_cons (sv_set (i := 5) sc_ways_from.nd rfl (by first | exact .inl rfl | exact .inr rfl) (RL.ni (by decide)) (by decide) (px_z (pb_ix (u1 hr) (pb_var (pv 3)) (pb_var (pv 4)) (fun _ _ => rfl))))
      (sb_cons (sv_aug (i := 4) o_addI' sAddI sc_ways_from.nd rfl (by first | exact .inl rfl | exact .inr rfl) (RL.ni (by decide)) (by decide) (px_f pn_int))
      (sb_cons (sv_for (passes_of rfl) rfl (by decide) (by decide) (pi_src (pb_ix (u1 hr) (pb_var (pv 0)) (pb_var (pv 5)) (fun _ _ => rfl))) (pgs_nm (RL.ni (by decide)) (by decide) (pg_name (i := 6) sc_ways_from.nd rfl (by first | exact .inl rfl | exact .inr rfl)))
      (sb_cons (sv_if (pxt_f (pt_isN (pb_ix (u1 hr) (pb_var (pv 2)) (pb_var (pv 6)) (fun _ _ => rfl))))
      (sb_cons (sv_put (u1 hr) (RL.ni (by decide)) (px_f (pn_bin o_add sAdd (pb_ix (u1 hr) (pb_var (pv 2)) (pb_var (pv 5)) (fun _ _ => rfl)) (pnB pn_int))) (pp_var (pv 2)) (pb_var (pv 6)))
      (sb_cons (sv_app0 (RL.ni (by decide)) (pv 3) (px_mv (pv 6) (RL.ni (by decide))))
      sb_nil))
      sb_nil)
      sb_nil))
      sb_nil))))
      (sb_cons (sv_ret (px_mv (pv 2) (RL.ni (by decide))))
      sb_nil)))))))
theorem sc_firm_fault : FnScope ["editions", "value"] ["editions", "value"] (defScope (topS 27)) := ⟨rfl, rfl, rfl, by decide +kernel, rfl, by decide +kernel, by decide +kernel⟩
theorem c_firm_fault (g : G mg) (D : DefX K mg "firm_fault" (topS 27) ["editions", "value"]) (c_are_places : CalP P w K mg base 3 "are_places" m_are_places) (c_are_routes : CalP P w K mg base 3 "are_routes" m_are_routes) (c_near_of : CalP P w K mg base 1 "near_of" m_near_of) (c_ways_from : CalP P w K mg base 1 "ways_from" m_ways_from) : CalP P w K mg base 4 "firm_fault" m_firm_fault :=
  mk_P (k := 3) [] D sc_firm_fault rfl rfl (by decide) fun f cdv A outer s H E hr => by
    have tk : Takes (cxOf (L2.CX P w) P w K mg base ["editions", "value"] "firm_fault" (defScope (topS 27)) f cdv A outer s H E) (fun cls d _ H => E cls d H) := takes_of rfl rfl rfl rfl
    exact ((sb_cons (sv_if (pxt_f (ptW (pwOr (ptNot (pt_b (pnB (pn_isTy .tuple g.b_isinstance g.b_tuple PyProof.Rows.boot_tuple (pb_var (pv 1)))))) (pwOr1 (pt_cm (o_ne (u64 hr)) sNe (pnB (pn_callB c_len s_len rfl g.b_len PySem.boot_len (pab_cons (pb_var (pv 1)) pab_nil))) (pnB pn_int) (by first | rfl | exact nomark _))))))
      (sb_cons (sv_ret (px_f pn_str))
      sb_nil)
      sb_nil)
      (sb_cons (sv_if (pxt_f (ptNot (pt_b (pnB (pn_cal c_are_places hr (by decide) tk rfl (pab_cons (pb_ix (u1 hr) (pb_var (pv 1)) (pnB pn_int) (fun _ _ => rfl)) (pab_cons (pb_var (pv 0)) pab_nil)))))))
      (sb_cons (sv_ret (px_f pn_str))
      sb_nil)
      sb_nil)
      (sb_cons (sv_if (pxt_f (ptNot (pt_b (pnB (pn_cal c_are_routes hr (by decide) tk rfl (pab_cons (pb_ix (u1 hr) (pb_var (pv 1)) (pnB pn_int) (fun _ _ => rfl)) (pab_cons (pnB (pn_callB c_len s_len rfl g.b_len PySem.boot_len (pab_cons (pb_ix (u1 hr) (pb_var (pv 1)) (pnB pn_int) (fun _ _ => rfl)) pab_nil))) pab_nil)))))))
      (sb_cons (sv_ret (px_f pn_str))
      sb_nil)
      sb_nil)
      (sb_cons (sv_if (pxt_f (pt_cm (o_in (u65 hr)) sIn (pnB pn_non) (pnB (pn_cal c_ways_from hr (by decide) tk rfl (pab_cons (pnB (pn_cal c_near_of hr (by decide) tk rfl (pab_cons (pb_var (pv 1)) pab_nil))) (pab_cons (pnB pn_int) pab_nil)))) (by first | rfl | exact nomark _)))
      (sb_cons (sv_ret (px_f pn_str))
      sb_nil)
      sb_nil)
      (sb_cons (sv_ret (px_f pn_non))
      sb_nil))))))
theorem sc_check_firm : FnScope ["book", "firm", "editions", "wrong"] ["book", "firm"] (defScope (topS 28)) := ⟨rfl, rfl, rfl, by decide +kernel, rfl, by decide +kernel, by decide +kernel⟩
theorem c_check_firm (g : G mg) (D : DefX K mg "check_firm" (topS 28) ["book", "firm"]) (c_firm_fault : CalP P w K mg base 4 "firm_fault" m_firm_fault) : CalP P w K mg base 5 "check_firm" m_check_firm :=
  mk_P (k := 4) [2, 3] D sc_check_firm rfl rfl (by decide) fun f cdv A outer s H E hr => by
    have tk : Takes (cxOf (L2.CX P w) P w K mg base ["book", "firm", "editions", "wrong"] "check_firm" (defScope (topS 28)) f cdv A outer s H E) (fun cls d _ H => E cls d H) := takes_of rfl rfl rfl rfl
    exact ((sb_cons (sv_set (i := 2) sc_check_firm.nd rfl (by first | exact .inl rfl | exact .inr rfl) (RL.ni (by decide)) (by decide) (px_f pn_int))
      (sb_cons (sv_if (pxt_f (pt_notN (pb_var (pv 0))))
      (sb_cons sv_never
      (sb_cons (sv_set (i := 2) sc_check_firm.nd rfl (by first | exact .inl rfl | exact .inr rfl) (RL.ni (by decide)) (by decide) (px_f (pn_callB c_len s_len rfl g.b_len PySem.boot_len (pab_cons (pb_ix (u1 hr) (pb_var (pv 0)) (pnB pn_int) (fun _ _ => rfl)) pab_nil))))
      sb_nil))
      sb_nil)
      (sb_cons (sv_set (i := 3) sc_check_firm.nd rfl (by first | exact .inl rfl | exact .inr rfl) (RL.ni (by decide)) (by decide) (px_f (pn_cal c_firm_fault hr (by decide) tk rfl (pab_cons (pb_var (pv 2)) (pab_cons (pb_var (pv 1)) pab_nil)))))
      (sb_cons (sv_if (pxt_f (pt_notN (pb_var (pv 3))))
      (sb_cons sv_never
      sb_nil)
      sb_nil)
      (sb_cons (sv_ret (px_z (pb_var (pv 1))))
      sb_nil))))))
theorem sc_tree_from : FnScope ["firm", "near", "line", "seen", "pairs", "at", "here", "other"] ["firm"] (defScope (topS 30)) := ⟨rfl, rfl, rfl, by decide +kernel, rfl, by decide +kernel, by decide +kernel⟩
theorem c_tree_from (g : G mg) (D : DefX K mg "tree_from" (topS 30) ["firm"]) (c_near_of : CalP P w K mg base 1 "near_of" m_near_of) : CalP P w K mg base 2 "tree_from" m_tree_from :=
  mk_P (k := 1) [1, 2, 3, 4, 5, 6, 7] D sc_tree_from rfl rfl (by decide) fun f cdv A outer s H E hr => by
    have tk : Takes (cxOf (L2.CX P w) P w K mg base ["firm", "near", "line", "seen", "pairs", "at", "here", "other"] "tree_from" (defScope (topS 30)) f cdv A outer s H E) (fun cls d _ H => E cls d H) := takes_of rfl rfl rfl rfl
    exact ((sb_cons (sv_set (i := 1) sc_tree_from.nd rfl (by first | exact .inl rfl | exact .inr rfl) (RL.ni (by decide)) (by decide) (px_f (pn_cal c_near_of hr (by decide) tk rfl (pab_cons (pb_var (pv 0)) pab_nil))))
      (sb_cons (sv_set (i := 2) sc_tree_from.nd rfl (by first | exact .inl rfl | exact .inr rfl) (RL.ni (by decide)) (by decide) (px_f (pn_lst (pan_cons pn_int pan_nil) (by decide))))
      (sb_cons (sv_set (i := 3) sc_tree_from.nd rfl (by first | exact .inl rfl | exact .inr rfl) (RL.ni (by decide)) (by decide) (px_f (pn_d1 pn_int pn_bl)))
      (sb_cons (sv_set (i := 4) sc_tree_from.nd rfl (by first | exact .inl rfl | exact .inr rfl) (RL.ni (by decide)) (by decide) (px_f (pn_lst pan_nil (by decide))))
      (sb_cons (sv_set (i := 5) sc_tree_from.nd rfl (by first | exact .inl rfl | exact .inr rfl) (RL.ni (by decide)) (by decide) (px_f pn_int))
      (sb_cons (sv_while (passes_of rfl) (all_ni (by decide)) (pxt_f (pt_cm (o_lt (u0 hr)) sLt (pb_var (pv 5)) (pnB (pn_callB c_len s_len rfl g.b_len PySem.boot_len (pab_cons (pb_var (pv 2)) pab_nil))) (by first | rfl | exact nomark _)))
      (sb_cons (sv_set (i := 6) sc_tree_from.nd rfl (by first | exact .inl rfl | exact .inr rfl) (RL.ni (by decide)) (by decide) (px_z (pb_ix (u1 hr) (pb_var (pv 2)) (pb_var (pv 5)) (fun _ _ => rfl))))
      (sb_cons (sv_aug (i := 5) o_addI' sAddI sc_tree_from.nd rfl (by first | exact .inl rfl | exact .inr rfl) (RL.ni (by decide)) (by decide) (px_f pn_int))
      (sb_cons (sv_for (passes_of rfl) rfl (by decide) (by decide) (pi_src (pb_ix (u1 hr) (pb_var (pv 1)) (pb_var (pv 6)) (fun _ _ => rfl))) (pgs_nm (RL.ni (by decide)) (by decide) (pg_name (i := 7) sc_tree_from.nd rfl (by first | exact .inl rfl | exact .inr rfl)))
      (sb_cons (sv_if (pxt_f (pt_cm (o_notIn (u65 hr)) sNotIn (pb_var (pv 7)) (pb_var (pv 3)) (by first | rfl | exact nomark _)))
      (sb_cons (sv_put (u1 hr) (RL.ni (by decide)) (px_f pn_bl) (pp_var (pv 3)) (pb_var (pv 7)))
      (sb_cons (sv_app0 (RL.ni (by decide)) (pv 2) (px_z (pb_var (pv 7))))
      (sb_cons (sv_app (RL.ni (by decide)) (pp_var (pv 4)) (pn_tup (pab_cons (pb_var (pv 7)) (pab_cons (pb_var (pv 6)) pab_nil)) (by decide)))
      sb_nil)))
      sb_nil)
      sb_nil))
      sb_nil))))
      (sb_cons (sv_ret (px_mv (pv 4) (RL.ni (by decide))))
      sb_nil))))))))
theorem sc_fewest_passes : FnScope ["firm", "pairs", "inward", "outward", "office", "parent"] ["firm"] (defScope (topS 31)) := ⟨rfl, rfl, rfl, by decide +kernel, rfl, by decide +kernel, by decide +kernel⟩
theorem c_fewest_passes (g : G mg) (D : DefX K mg "fewest_passes" (topS 31) ["firm"]) (c_check_firm : CalP P w K mg base 5 "check_firm" m_check_firm) (c_tree_from : CalP P w K mg base 2 "tree_from" m_tree_from) : CalP P w K mg base 6 "fewest_passes" m_fewest_passes :=
  mk_P (k := 5) [1, 2, 3, 4, 5] D sc_fewest_passes rfl rfl (by decide) fun f cdv A outer s H E hr => by
    have tk : Takes (cxOf (L2.CX P w) P w K mg base ["firm", "pairs", "inward", "outward", "office", "parent"] "fewest_passes" (defScope (topS 31)) f cdv A outer s H E) (fun cls d _ H => E cls d H) := takes_of rfl rfl rfl rfl
    exact ((sb_cons (sv_expr (px_f (pn_cal c_check_firm hr (by decide) tk rfl (pab_cons (pnB pn_non) (pab_cons (pb_var (pv 0)) pab_nil)))))
      (sb_cons (sv_set (i := 1) sc_fewest_passes.nd rfl (by first | exact .inl rfl | exact .inr rfl) (RL.ni (by decide)) (by decide) (px_f (pn_cal c_tree_from hr (by decide) tk rfl (pab_cons (pb_var (pv 0)) pab_nil))))
      (sb_cons (sv_comp (i := 2) rfl sc_fewest_passes.nd rfl rfl (RL.ni (by decide)) (by decide) (sw_true rfl rfl rfl (by rfl)) (pi_src (pnB (pn_rev (pb_var (pv 1))))) (blk_by (N := ["firm", "pairs", "inward", "outward", "office", "parent"]) (sc := defScope (topS 31)) (by decide +kernel)) (by decide) (fun _ _ _ _ _ => (pg_tp rfl (pgs_nc (pg_name (i := 4) sc_fewest_passes.nd rfl (by first | exact .inl rfl | exact .inr rfl)) (pgs_nc (pg_name (i := 5) sc_fewest_passes.nd rfl (by first | exact .inl rfl | exact .inr rfl)) pgs_n0)) rfl)) (fun _ _ _ _ _ => (pn_tup (pab_cons (pb_var (pv 4)) (pab_cons (pb_var (pv 5)) pab_nil)) (by decide))) (ownN := [("office", 4), ("parent", 5)]))
      (sb_cons (sv_comp (i := 3) rfl sc_fewest_passes.nd rfl rfl (RL.ni (by decide)) (by decide) (sw_true rfl rfl rfl (by rfl)) (pi_src (pb_var (pv 1))) (blk_by (N := ["firm", "pairs", "inward", "outward", "office", "parent"]) (sc := defScope (topS 31)) (by decide +kernel)) (by decide) (fun _ _ _ _ _ => (pg_tp rfl (pgs_nc (pg_name (i := 4) sc_fewest_passes.nd rfl (by first | exact .inl rfl | exact .inr rfl)) (pgs_nc (pg_name (i := 5) sc_fewest_passes.nd rfl (by first | exact .inl rfl | exact .inr rfl)) pgs_n0)) rfl)) (fun _ _ _ _ _ => (pn_tup (pab_cons (pb_var (pv 5)) (pab_cons (pb_var (pv 4)) pab_nil)) (by decide))) (ownN := [("office", 4), ("parent", 5)]))
      (sb_cons (sv_ret (px_f (pn_callTy call_tuple_of s_tuple rfl g.b_tuple PyProof.Rows.boot_tuple (pab_cons (pnB (pn_bin o_add sAdd (pb_var (pv 2)) (pb_var (pv 3)))) pab_nil))))
      sb_nil))))))
theorem sc_law_is_int : FnScope ["thing"] ["thing"] (defScope (topS 37)) := ⟨rfl, rfl, rfl, by decide +kernel, rfl, by decide +kernel, by decide +kernel⟩
theorem c_law_is_int (g : G mg) (D : DefX K mg "_law_is_int" (topS 37) ["thing"]) : CalP P w K mg base 1 "_law_is_int" m_law_is_int :=
  mk_P (k := 0) [] D sc_law_is_int rfl rfl (by decide) fun f cdv A outer s H E hr => by
    have tk : Takes (cxOf (L2.CX P w) P w K mg base ["thing"] "_law_is_int" (defScope (topS 37)) f cdv A outer s H E) (fun cls d _ H => E cls d H) := takes_of rfl rfl rfl rfl
    exact ((sb_cons (sv_ret (px_z (pbAnd (pnB (pn_isTy .int g.b_isinstance g.b_int PyProof.Rows.boot_int (pb_var (pv 0)))) (pbOne (pnB (pnNot (pnB (pn_isTy .bool g.b_isinstance g.b_bool PyProof.Rows.boot_bool (pb_var (pv 0))))))))))
      sb_nil))
theorem sc_law_all_know : FnScope ["many", "passes", "rows", "x", "y", "z", "row"] ["many", "passes"] (defScope (topS 40)) := ⟨rfl, rfl, rfl, by decide +kernel, rfl, by decide +kernel, by decide +kernel⟩
theorem c_law_all_know (g : G mg) (D : DefX K mg "_law_all_know" (topS 40) ["many", "passes"]) : CalP P w K mg base 1 "_law_all_know" m_law_all_know :=
  mk_P (k := 0) [2, 3, 4, 5, 6] D sc_law_all_know rfl rfl (by decide) fun f cdv A outer s H E hr => by
    have tk : Takes (cxOf (L2.CX P w) P w K mg base ["many", "passes", "rows", "x", "y", "z", "row"] "_law_all_know" (defScope (topS 40)) f cdv A outer s H E) (fun cls d _ H => E cls d H) := takes_of rfl rfl rfl rfl
    exact ((sb_cons (sv_set (i := 2) sc_law_all_know.nd rfl (by first | exact .inl rfl | exact .inr rfl) (RL.ni (by decide)) (by decide) (px_f (pn_comp rfl sc_law_all_know.nd (pi_r1 g.b_range (pb_var (pv 0))) (blk_by (N := ["many", "passes", "rows", "x", "y", "z", "row"]) (sc := defScope (topS 40)) (by decide +kernel)) (by decide) (fun _ _ _ _ _ => (pg_nm (pg_name (i := 3) sc_law_all_know.nd rfl (by first | exact .inl rfl | exact .inr rfl)))) (fun _ _ _ _ _ => (pn_lst (pan_cons (pn_fz (pb_var (pv 3))) pan_nil) (by decide))) (ownN := [("x", 3)]))))
      (sb_cons (sv_for (passes_of rfl) rfl (by decide) (by decide) (pi_src (pb_var (pv 1))) (pgs_tp rfl (pgt_cons (RL.ni (by decide)) (by decide) (pg_name (i := 3) sc_law_all_know.nd rfl (by first | exact .inl rfl | exact .inr rfl)) (pgt_cons (RL.ni (by decide)) (by decide) (pg_name (i := 4) sc_law_all_know.nd rfl (by first | exact .inl rfl | exact .inr rfl)) pgt_nil)) rfl)
      (sb_cons (sv_put (u1 hr) (RL.ni (by decide)) (px_f (pn_bin o_add sAdd (pb_ix (u1 hr) (pb_var (pv 2)) (pb_var (pv 4)) (fun _ _ => rfl)) (pnB (pn_compIf rfl sc_law_all_know.nd (pi_src (pb_ix (u1 hr) (pb_var (pv 2)) (pb_var (pv 3)) (fun _ _ => rfl))) (blk_by (N := ["many", "passes", "rows", "x", "y", "z", "row"]) (sc := defScope (topS 40)) (by decide +kernel)) (by decide) (fun _ _ _ _ _ => (pg_nm (pg_name (i := 5) sc_law_all_know.nd rfl (by first | exact .inl rfl | exact .inr rfl)))) (fun _ _ _ _ _ => (pt_cm (o_notIn (u65 hr)) sNotIn (pb_var (pv 5)) (pb_ix (u1 hr) (pb_var (pv 2)) (pb_var (pv 4)) (fun _ _ => rfl)) (by first | rfl | exact nomark _))) (fun _ _ _ _ _ => (pn_fz (pb_var (pv 5)))) (ownN := [("z", 5)]))))) (pp_var (pv 2)) (pb_var (pv 4)))
      sb_nil))
      (sb_cons (sv_ret (px_f (pn_cmp (o_eq (u64 hr)) sEq (pnB (pn_callB (cr_min rfl) s_min1 rfl g.b_min PyProof.Rows.boot_min (pab_cons (pnB (pn_comp rfl sc_law_all_know.nd (pi_src (pb_var (pv 2))) (blk_by (N := ["many", "passes", "rows", "x", "y", "z", "row"]) (sc := defScope (topS 40)) (by decide +kernel)) (by decide) (fun _ _ _ _ _ => (pg_nm (pg_name (i := 6) sc_law_all_know.nd rfl (by first | exact .inl rfl | exact .inr rfl)))) (fun _ _ _ _ _ => (pn_callB c_len s_len rfl g.b_len PySem.boot_len (pab_cons (pb_var (pv 6)) pab_nil))) (ownN := [("row", 6)]))) pab_nil))) (pb_var (pv 0)) (by first | rfl | exact nomark _))))
      sb_nil))))
theorem sc_law_pick : FnScope ["d", "row"] ["d", "row"] (defScope (topS 35)) := ⟨rfl, rfl, rfl, by decide +kernel, rfl, by decide +kernel, by decide +kernel⟩
theorem c_law_pick (g : G mg) (D : DefX K mg "_law_pick" (topS 35) ["d", "row"]) (c_law_draw : CalM P w K mg base 1 "_law_draw" m_law_draw) : CalM P w K mg base 2 "_law_pick" m_law_pick :=
  mk_M (k := 1) [0] D sc_law_pick rfl rfl (by decide) (by decide) fun f cdv A outer s H E hr => by
    have tk : Takes (cxOf (L2.CX P w) P w K mg base ["d", "row"] "_law_pick" (defScope (topS 35)) f cdv A outer s H E) (fun cls d _ H => E cls d H) := takes_of rfl rfl rfl rfl
    exact ((sb_cons (sv_ret (px_ixV (u1 hr) (pv 1) (px_calM c_law_draw hr (by decide) tk rfl (RL.ni (by decide)) rfl (pxg_io (pv 0) (pxg_ex (px_f (pn_callB c_len s_len rfl g.b_len PySem.boot_len (pab_cons (pb_var (pv 1)) pab_nil))) pxg_nil))) (fun _ _ => rfl)))
      sb_nil))
theorem sc_law_none_shorter : FnScope ["firm", "many", "rows", "step", "longer", "row", "pair"] ["firm"] (defScope (topS 42)) := ⟨rfl, rfl, rfl, by decide +kernel, rfl, by decide +kernel, by decide +kernel⟩
theorem c_law_none_shorter (g : G mg) (D : DefX K mg "_law_none_shorter" (topS 42) ["firm"]) (c_law_pairs : CalP P w K mg base 2 "_law_pairs" m_law_pairs) (c_law_all_know : CalP P w K mg base 1 "_law_all_know" m_law_all_know) : CalP P w K mg base 3 "_law_none_shorter" m_law_none_shorter :=
  mk_P (k := 2) [1, 2, 3, 4, 5, 6] D sc_law_none_shorter rfl rfl (by decide) fun f cdv A outer s H E hr => by
    have tk : Takes (cxOf (L2.CX P w) P w K mg base ["firm", "many", "rows", "step", "longer", "row", "pair"] "_law_none_shorter" (defScope (topS 42)) f cdv A outer s H E) (fun cls d _ H => E cls d H) := takes_of rfl rfl rfl rfl
    exact ((sb_cons (sv_set (i := 1) sc_law_none_shorter.nd rfl (by first | exact .inl rfl | exact .inr rfl) (RL.ni (by decide)) (by decide) (px_f (pn_callB c_len s_len rfl g.b_len PySem.boot_len (pab_cons (pb_ix (u1 hr) (pb_var (pv 0)) (pnB pn_int) (fun _ _ => rfl)) pab_nil))))
      (sb_cons (sv_set (i := 2) sc_law_none_shorter.nd rfl (by first | exact .inl rfl | exact .inr rfl) (RL.ni (by decide)) (by decide) (px_f (pn_lst (pan_cons (pn_tup pab_nil (by decide)) pan_nil) (by decide))))
      (sb_cons (sv_for (passes_of rfl) rfl (by decide) (by decide) (pi_r1 g.b_range (pnB (pn_bin op_sub sSub (pnB (pn_bin op_mul sMul (pnB pn_int) (pb_var (pv 1)))) (pnB pn_int)))) (pgs_nm (RL.ni (by decide)) (by decide) (pg_name (i := 3) sc_law_none_shorter.nd rfl (by first | exact .inl rfl | exact .inr rfl)))
      (sb_cons (sv_set (i := 4) sc_law_none_shorter.nd rfl (by first | exact .inl rfl | exact .inr rfl) (RL.ni (by decide)) (by decide) (px_f (pn_lst pan_nil (by decide))))
      (sb_cons (sv_for (passes_of rfl) rfl (by decide) (by decide) (pi_src (pb_var (pv 2))) (pgs_nm (RL.ni (by decide)) (by decide) (pg_name (i := 5) sc_law_none_shorter.nd rfl (by first | exact .inl rfl | exact .inr rfl)))
      (sb_cons (sv_set (i := 4) sc_law_none_shorter.nd rfl (by first | exact .inl rfl | exact .inr rfl) (RL.ni (by decide)) (by decide) (px_f (pn_bin o_add sAdd (pb_var (pv 4)) (pnB (pn_comp rfl sc_law_none_shorter.nd (pi_src (pnB (pn_cal c_law_pairs hr (by decide) tk rfl (pab_cons (pb_var (pv 0)) pab_nil)))) (blk_by (N := ["firm", "many", "rows", "step", "longer", "row", "pair"]) (sc := defScope (topS 42)) (by decide +kernel)) (by decide) (fun _ _ _ _ _ => (pg_nm (pg_name (i := 6) sc_law_none_shorter.nd rfl (by first | exact .inl rfl | exact .inr rfl)))) (fun _ _ _ _ _ => (pn_bin o_add sAdd (pb_var (pv 5)) (pnB (pn_tup (pab_cons (pb_var (pv 6)) pab_nil) (by decide))))) (ownN := [("pair", 6)]))))))
      sb_nil))
      (sb_cons (sv_set (i := 2) sc_law_none_shorter.nd rfl (by first | exact .inl rfl | exact .inr rfl) (RL.ni (by decide)) (by decide) (px_mv (pv 4) (RL.ni (by decide))))
      sb_nil))))
      (sb_cons (sv_ret (px_f (pnNot (pnB (pn_callB (cr_any rfl) s_any rfl g.b_any PyProof.Rows.boot_any (pab_cons (pnB (pn_comp rfl sc_law_none_shorter.nd (pi_src (pb_var (pv 2))) (blk_by (N := ["firm", "many", "rows", "step", "longer", "row", "pair"]) (sc := defScope (topS 42)) (by decide +kernel)) (by decide) (fun _ _ _ _ _ => (pg_nm (pg_name (i := 5) sc_law_none_shorter.nd rfl (by first | exact .inl rfl | exact .inr rfl)))) (fun _ _ _ _ _ => (pn_cal c_law_all_know hr (by decide) takes0 rfl (pab_cons (pb_var (pv 1)) (pab_cons (pb_var (pv 5)) pab_nil)))) (ownN := [("row", 5)]))) pab_nil))))))
      sb_nil)))))
theorem sc_law : FnScope ["script", "d", "most", "firm", "many", "pairs", "told", "row", "drawn", "k", "x"] ["script"] (defScope (topS 43)) := ⟨rfl, rfl, rfl, by decide +kernel, rfl, by decide +kernel, by decide +kernel⟩
theorem ok_law {f : Addr} {fd : FuncData} (g : G mg) (F : Fun K "law" "law" (topS 43) f fd) (c_law_begin : CalP P w K mg base 1 "_law_begin" m_law_begin) (c_law_rare : CalM P w K mg base 2 "_law_rare" m_law_rare) (c_law_firm : CalM P w K mg base 2 "_law_firm" m_law_firm) (c_law_pairs : CalP P w K mg base 2 "_law_pairs" m_law_pairs) (c_fewest_passes : CalP P w K mg base 6 "fewest_passes" m_fewest_passes) (c_law_is_int : CalP P w K mg base 1 "_law_is_int" m_law_is_int) (c_law_all_know : CalP P w K mg base 1 "_law_all_know" m_law_all_know) (c_law_pick : CalM P w K mg base 2 "_law_pick" m_law_pick) (c_law_none_shorter : CalP P w K mg base 3 "_law_none_shorter" m_law_none_shorter) : FnOk P w K mg base (L2.CX P w) 7 f fd ["script"] (spP K mg m_law) :=
  fn_P (k := 6) (own := [1, 2, 3, 4, 5, 6, 7, 8, 9, 10]) F sc_law rfl rfl (by decide) fun cdv A outer s H E hr => by
    have tk : Takes (cxOf (L2.CX P w) P w K mg base ["script", "d", "most", "firm", "many", "pairs", "told", "row", "drawn", "k", "x"] "law" (defScope (topS 43)) f cdv A outer s H E) (fun cls d _ H => E cls d H) := takes_of rfl rfl rfl rfl
    exact ((sb_cons (sv_set (i := 1) sc_law.nd rfl (by first | exact .inl rfl | exact .inr rfl) (RL.ni (by decide)) (by decide) (px_f (pn_cal c_law_begin hr (by decide) tk rfl (pab_cons (pb_var (pv 0)) pab_nil))))
      (sb_cons (sv_set (i := 2) sc_law.nd rfl (by first | exact .inl rfl | exact .inr rfl) (RL.ni (by decide)) (by decide) (px_f pn_int))
      (sb_cons (sv_if (pxt_v (px_calM c_law_rare hr (by decide) tk rfl (RL.ni (by decide)) rfl (pxg_io (pv 1) (pxg_ex (px_f pn_int) pxg_nil))))
      (sb_cons (sv_set (i := 2) sc_law.nd rfl (by first | exact .inl rfl | exact .inr rfl) (RL.ni (by decide)) (by decide) (px_f pn_int))
      sb_nil)
      sb_nil)
      (sb_cons (sv_set (i := 3) sc_law.nd rfl (by first | exact .inl rfl | exact .inr rfl) (RL.ni (by decide)) (by decide) (px_calM c_law_firm hr (by decide) tk rfl (RL.ni (by decide)) rfl (pxg_io (pv 1) (pxg_ex (px_f pn_int) (pxg_ro (pv 2) pxg_nil)))))
      (sb_cons (sv_set (i := 4) sc_law.nd rfl (by first | exact .inl rfl | exact .inr rfl) (RL.ni (by decide)) (by decide) (px_f (pn_callB c_len s_len rfl g.b_len PySem.boot_len (pab_cons (pb_ix (u1 hr) (pb_var (pv 3)) (pnB pn_int) (fun _ _ => rfl)) pab_nil))))
      (sb_cons (sv_set (i := 5) sc_law.nd rfl (by first | exact .inl rfl | exact .inr rfl) (RL.ni (by decide)) (by decide) (px_f (pn_cal c_law_pairs hr (by decide) tk rfl (pab_cons (pb_var (pv 3)) pab_nil))))
      (sb_cons (sv_set (i := 6) sc_law.nd rfl (by first | exact .inl rfl | exact .inr rfl) (RL.ni (by decide)) (by decide) (px_f (pn_cal c_fewest_passes hr (by decide) tk rfl (pab_cons (pb_var (pv 3)) pab_nil))))
      (sb_cons (sv_if (pxt_f (ptW (pwOr (ptNot (pt_b (pnB (pn_isTy .tuple g.b_isinstance g.b_tuple PyProof.Rows.boot_tuple (pb_var (pv 6)))))) (pwOr1 (pt_cm (o_ne (u64 hr)) sNe (pnB (pn_callB c_len s_len rfl g.b_len PySem.boot_len (pab_cons (pb_var (pv 6)) pab_nil))) (pnB (pn_bin op_sub sSub (pnB (pn_bin op_mul sMul (pnB pn_int) (pb_var (pv 4)))) (pnB pn_int))) (by first | rfl | exact nomark _))))))
      (sb_cons (sv_ret (px_f pn_bl))
      sb_nil)
      sb_nil)
      (sb_cons (sv_for (passes_of rfl) rfl (by decide) (by decide) (pi_src (pb_var (pv 6))) (pgs_nm (RL.ni (by decide)) (by decide) (pg_name (i := 7) sc_law.nd rfl (by first | exact .inl rfl | exact .inr rfl)))
      (sb_cons (sv_if (pxt_f (ptW (pwOr (ptNot (pt_b (pnB (pn_isTy .tuple g.b_isinstance g.b_tuple PyProof.Rows.boot_tuple (pb_var (pv 7)))))) (pwOr (pt_cm (o_ne (u64 hr)) sNe (pnB (pn_callB c_len s_len rfl g.b_len PySem.boot_len (pab_cons (pb_var (pv 7)) pab_nil))) (pnB pn_int) (by first | rfl | exact nomark _)) (pwOr (ptNot (pt_b (pnB (pn_callB (cr_all rfl) s_all rfl g.b_all PyProof.Rows.boot_all (pab_cons (pnB (pn_comp rfl sc_law.nd (pi_src (pb_var (pv 7))) (blk_by (N := ["script", "d", "most", "firm", "many", "pairs", "told", "row", "drawn", "k", "x"]) (sc := defScope (topS 43)) (by decide +kernel)) (by decide) (fun _ _ _ _ _ => (pg_nm (pg_name (i := 10) sc_law.nd rfl (by first | exact .inl rfl | exact .inr rfl)))) (fun _ _ _ _ _ => (pn_cal c_law_is_int hr (by decide) takes0 rfl (pab_cons (pb_var (pv 10)) pab_nil))) (ownN := [("x", 10)]))) pab_nil))))) (pwOr1 (pt_cm (o_notIn (u65 hr)) sNotIn (pb_var (pv 7)) (pb_var (pv 5)) (by first | rfl | exact nomark _))))))))
      (sb_cons (sv_ret (px_f pn_bl))
      sb_nil)
      sb_nil)
      sb_nil))
      (sb_cons (sv_if (pxt_f (ptNot (pt_b (pnB (pn_cal c_law_all_know hr (by decide) tk rfl (pab_cons (pb_var (pv 4)) (pab_cons (pb_var (pv 6)) pab_nil)))))))
      (sb_cons (sv_ret (px_f pn_bl))
      sb_nil)
      sb_nil)
      (sb_cons (sv_if (pxt_f (pt_b (pnB (pn_callB (cr_any rfl) s_any rfl g.b_any PyProof.Rows.boot_any (pab_cons (pnB (pn_comp rfl sc_law.nd (pi_r1 g.b_range (pnB (pn_callB c_len s_len rfl g.b_len PySem.boot_len (pab_cons (pb_var (pv 6)) pab_nil)))) (blk_by (N := ["script", "d", "most", "firm", "many", "pairs", "told", "row", "drawn", "k", "x"]) (sc := defScope (topS 43)) (by decide +kernel)) (by decide) (fun _ _ _ _ _ => (pg_nm (pg_name (i := 9) sc_law.nd rfl (by first | exact .inl rfl | exact .inr rfl)))) (fun _ _ _ _ _ => (pn_cal c_law_all_know hr (by decide) takes0 rfl (pab_cons (pb_var (pv 4)) (pab_cons (pnB (pn_bin o_add sAdd (pnB (pn_cut (pb_var (pv 6)) poo_none (poo_some (pb_var (pv 9))))) (pnB (pn_cut (pb_var (pv 6)) (poo_some (pnB (pn_bin o_add sAdd (pb_var (pv 9)) (pnB pn_int)))) poo_none)))) pab_nil)))) (ownN := [("k", 9)]))) pab_nil)))))
      (sb_cons (sv_ret (px_f pn_bl))
      sb_nil)
      sb_nil)
      (sb_cons (sv_compX (i := 8) rfl sc_law.nd rfl rfl (RL.ni (by decide)) (by decide) (sw_true rfl rfl rfl (by rfl)) (pxi_r1 g.b_range (px_f (pn_bin op_sub sSub (pnB (pn_bin op_mul sMul (pnB pn_int) (pb_var (pv 4)))) (pnB pn_int)))) (blk_by (N := ["script", "d", "most", "firm", "many", "pairs", "told", "row", "drawn", "k", "x"]) (sc := defScope (topS 43)) (by decide +kernel)) (by decide) (all_ni (by decide)) (fun _ _ _ _ _ => (pgx_nm (RL.ni (by decide)) (pg_name (i := 9) sc_law.nd rfl (by first | exact .inl rfl | exact .inr rfl)))) (fun _ _ _ _ _ => (px_calM c_law_pick hr (by decide) takes0 rfl (RL.ni (by decide)) rfl (pxg_io (pv 1) (pxg_ro (pv 5) pxg_nil)))) (ownN := [("k", 9)]))
      (sb_cons (sv_if (pxt_f (ptW (pwOr (pt_b (pnB (pn_cal c_law_all_know hr (by decide) tk rfl (pab_cons (pb_var (pv 4)) (pab_cons (pb_var (pv 8)) pab_nil))))) (pwOr1 (pt_b (pnB (pn_cal c_law_all_know hr (by decide) tk rfl (pab_cons (pb_var (pv 4)) (pab_cons (pnB (pn_cut (pb_var (pv 6)) (poo_some (pnB pn_int)) poo_none)) pab_nil)))))))))
      (sb_cons (sv_ret (px_f pn_bl))
      sb_nil)
      sb_nil)
      (sb_cons (sv_ret (px_z (pbOr (pnB (pn_cmp op_gt sCmp (pb_var (pv 4)) (pnB pn_int) (by first | rfl | exact nomark _))) (pbOne (pnB (pn_cal c_law_none_shorter hr (by decide) tk rfl (pab_cons (pb_var (pv 3)) pab_nil)))))))
      sb_nil)))))))))))))))
end
end W59
set_option Elab.async false
set_option linter.all false
set_option maxRecDepth 100000
set_option maxHeartbeats 8000000
/-! J59: the join, printed by gen.py. -/
namespace J59
open PySem PySem.Spec PyProof.Rows L2 VL M59 W59
def spLaw (K : PySem.W.Frag) : Sp := fun vs H Q _ => ∃ (a : Addr) (ns : List Int), vs = [.ref a] ∧ SqF K H a (ns.map V.int) ∧ ns.length ≤ 63 ∧ ∀ H', Q (.bl true) H'
theorem sp_of {K : PySem.W.Frag} {mg : Str → Option Value} (vs : List V) (H : Hp) (Q : VK) (E : XK) (h : spLaw K vs H Q E) : spP K mg m_law vs H Q E := by
  obtain ⟨a, ns, rfl, hs, hl, q⟩ := h
  refine ⟨[.fz (.scr ns)], [], ⟨.ref a, [], [], [], rfl, ⟨⟨a, rfl, hs⟩, rfl⟩, ⟨rfl, rfl⟩, rfl⟩, ?_⟩
  rw [L59.law_true ns hl]
  intro v F H' s r _ _
  have e : v = .bl true := r.1
  subst e
  exact q H'
theorem no_cx {P : Program} {w : World} {H : Hp} {s : Shared} {e : Value} {s' : Shared} (h : L2.CX P w [] H s (fun _ _ _ => False) e s') : False := by
  obtain ⟨_, _, _, _, _, _, _, _, _, _, _, _, z⟩ := h
  exact z
theorem sp_start {K : PySem.W.Frag} {H : Hp} {a : Addr} {ns : List Int} (hl : ns.length ≤ 63) (ho : Only H) (hs : SqL K H a (ns.map V.int)) : spLaw K [.ref a] H (fun v _ => v = .bl true) fun _ _ _ => False := by
  refine ⟨a, ns, rfl, ?_, hl, fun _ => rfl⟩
  rcases hs with (z | z) | z
  · rcases ho a with e | ⟨o, xs, e⟩
    · rw [e] at z; cases z
    · rw [e] at z; cases z
  · exact .inl z
  · exact .inr z
theorem all_mk {l : PySem.W.OpenLaw} {w : World} {K : PySem.W.Frag} {h : Heap} {mg : Str → Option Value} {fa : Addr} (X : K.In h) (G : h.Ns mainGlobals mg) (hfa : mg "law" = some (.ref fa))
    {od1 an1 : Option Addr} {sl1 : Array (Option Value)} {oc1 kV1 dc1 pm1 cd1 ct1 : Value} {f1 : Addr} (a1 : PySem.W.nsIn K mainGlobals "_law_begin" = some (some (.ref f1))) (l1 : K.lookup f1 = some ⟨oc1, od1, .func (PySem.W.fnOf "_law_begin" "_law_begin" (defArgs (topS 33)) (defBody (topS 33)) (defScope (topS 33)) .none kV1 dc1 pm1 an1 cd1 ct1), sl1⟩) (e1 : PySem.W.codeIn K cd1 "_law_begin" = true) (k1 : PySem.W.keepIn K (.ref f1) = true)
    {od2 an2 : Option Addr} {sl2 : Array (Option Value)} {oc2 kV2 dc2 pm2 cd2 ct2 : Value} {f2 : Addr} (a2 : PySem.W.nsIn K mainGlobals "_law_draw" = some (some (.ref f2))) (l2 : K.lookup f2 = some ⟨oc2, od2, .func (PySem.W.fnOf "_law_draw" "_law_draw" (defArgs (topS 34)) (defBody (topS 34)) (defScope (topS 34)) .none kV2 dc2 pm2 an2 cd2 ct2), sl2⟩) (e2 : PySem.W.codeIn K cd2 "_law_draw" = true) (k2 : PySem.W.keepIn K (.ref f2) = true)
    {od3 an3 : Option Addr} {sl3 : Array (Option Value)} {oc3 kV3 dc3 pm3 cd3 ct3 : Value} {f3 : Addr} (a3 : PySem.W.nsIn K mainGlobals "_law_rare" = some (some (.ref f3))) (l3 : K.lookup f3 = some ⟨oc3, od3, .func (PySem.W.fnOf "_law_rare" "_law_rare" (defArgs (topS 36)) (defBody (topS 36)) (defScope (topS 36)) .none kV3 dc3 pm3 an3 cd3 ct3), sl3⟩) (e3 : PySem.W.codeIn K cd3 "_law_rare" = true) (k3 : PySem.W.keepIn K (.ref f3) = true)
    {od4 an4 : Option Addr} {sl4 : Array (Option Value)} {oc4 kV4 dc4 pm4 cd4 ct4 : Value} {f4 : Addr} (a4 : PySem.W.nsIn K mainGlobals "_law_firm" = some (some (.ref f4))) (l4 : K.lookup f4 = some ⟨oc4, od4, .func (PySem.W.fnOf "_law_firm" "_law_firm" (defArgs (topS 38)) (defBody (topS 38)) (defScope (topS 38)) .none kV4 dc4 pm4 an4 cd4 ct4), sl4⟩) (e4 : PySem.W.codeIn K cd4 "_law_firm" = true) (k4 : PySem.W.keepIn K (.ref f4) = true)
    {od5 an5 : Option Addr} {sl5 : Array (Option Value)} {oc5 kV5 dc5 pm5 cd5 ct5 : Value} {f5 : Addr} (a5 : PySem.W.nsIn K mainGlobals "_law_near" = some (some (.ref f5))) (l5 : K.lookup f5 = some ⟨oc5, od5, .func (PySem.W.fnOf "_law_near" "_law_near" (defArgs (topS 39)) (defBody (topS 39)) (defScope (topS 39)) .none kV5 dc5 pm5 an5 cd5 ct5), sl5⟩) (e5 : PySem.W.codeIn K cd5 "_law_near" = true) (k5 : PySem.W.keepIn K (.ref f5) = true)
    {od6 an6 : Option Addr} {sl6 : Array (Option Value)} {oc6 kV6 dc6 pm6 cd6 ct6 : Value} {f6 : Addr} (a6 : PySem.W.nsIn K mainGlobals "_law_pairs" = some (some (.ref f6))) (l6 : K.lookup f6 = some ⟨oc6, od6, .func (PySem.W.fnOf "_law_pairs" "_law_pairs" (defArgs (topS 41)) (defBody (topS 41)) (defScope (topS 41)) .none kV6 dc6 pm6 an6 cd6 ct6), sl6⟩) (e6 : PySem.W.codeIn K cd6 "_law_pairs" = true) (k6 : PySem.W.keepIn K (.ref f6) = true)
    {od7 an7 : Option Addr} {sl7 : Array (Option Value)} {oc7 kV7 dc7 pm7 cd7 ct7 : Value} {f7 : Addr} (a7 : PySem.W.nsIn K mainGlobals "is_integer" = some (some (.ref f7))) (l7 : K.lookup f7 = some ⟨oc7, od7, .func (PySem.W.fnOf "is_integer" "is_integer" (defArgs (topS 9)) (defBody (topS 9)) (defScope (topS 9)) .none kV7 dc7 pm7 an7 cd7 ct7), sl7⟩) (e7 : PySem.W.codeIn K cd7 "is_integer" = true) (k7 : PySem.W.keepIn K (.ref f7) = true)
    {od8 an8 : Option Addr} {sl8 : Array (Option Value)} {oc8 kV8 dc8 pm8 cd8 ct8 : Value} {f8 : Addr} (a8 : PySem.W.nsIn K mainGlobals "is_between" = some (some (.ref f8))) (l8 : K.lookup f8 = some ⟨oc8, od8, .func (PySem.W.fnOf "is_between" "is_between" (defArgs (topS 10)) (defBody (topS 10)) (defScope (topS 10)) .none kV8 dc8 pm8 an8 cd8 ct8), sl8⟩) (e8 : PySem.W.codeIn K cd8 "is_between" = true) (k8 : PySem.W.keepIn K (.ref f8) = true)
    {od9 an9 : Option Addr} {sl9 : Array (Option Value)} {oc9 kV9 dc9 pm9 cd9 ct9 : Value} {f9 : Addr} (a9 : PySem.W.nsIn K mainGlobals "are_places" = some (some (.ref f9))) (l9 : K.lookup f9 = some ⟨oc9, od9, .func (PySem.W.fnOf "are_places" "are_places" (defArgs (topS 23)) (defBody (topS 23)) (defScope (topS 23)) .none kV9 dc9 pm9 an9 cd9 ct9), sl9⟩) (e9 : PySem.W.codeIn K cd9 "are_places" = true) (k9 : PySem.W.keepIn K (.ref f9) = true)
    {od10 an10 : Option Addr} {sl10 : Array (Option Value)} {oc10 kV10 dc10 pm10 cd10 ct10 : Value} {f10 : Addr} (a10 : PySem.W.nsIn K mainGlobals "are_routes" = some (some (.ref f10))) (l10 : K.lookup f10 = some ⟨oc10, od10, .func (PySem.W.fnOf "are_routes" "are_routes" (defArgs (topS 24)) (defBody (topS 24)) (defScope (topS 24)) .none kV10 dc10 pm10 an10 cd10 ct10), sl10⟩) (e10 : PySem.W.codeIn K cd10 "are_routes" = true) (k10 : PySem.W.keepIn K (.ref f10) = true)
    {od11 an11 : Option Addr} {sl11 : Array (Option Value)} {oc11 kV11 dc11 pm11 cd11 ct11 : Value} {f11 : Addr} (a11 : PySem.W.nsIn K mainGlobals "near_of" = some (some (.ref f11))) (l11 : K.lookup f11 = some ⟨oc11, od11, .func (PySem.W.fnOf "near_of" "near_of" (defArgs (topS 25)) (defBody (topS 25)) (defScope (topS 25)) .none kV11 dc11 pm11 an11 cd11 ct11), sl11⟩) (e11 : PySem.W.codeIn K cd11 "near_of" = true) (k11 : PySem.W.keepIn K (.ref f11) = true)
    {od12 an12 : Option Addr} {sl12 : Array (Option Value)} {oc12 kV12 dc12 pm12 cd12 ct12 : Value} {f12 : Addr} (a12 : PySem.W.nsIn K mainGlobals "ways_from" = some (some (.ref f12))) (l12 : K.lookup f12 = some ⟨oc12, od12, .func (PySem.W.fnOf "ways_from" "ways_from" (defArgs (topS 26)) (defBody (topS 26)) (defScope (topS 26)) .none kV12 dc12 pm12 an12 cd12 ct12), sl12⟩) (e12 : PySem.W.codeIn K cd12 "ways_from" = true) (k12 : PySem.W.keepIn K (.ref f12) = true)
    {od13 an13 : Option Addr} {sl13 : Array (Option Value)} {oc13 kV13 dc13 pm13 cd13 ct13 : Value} {f13 : Addr} (a13 : PySem.W.nsIn K mainGlobals "firm_fault" = some (some (.ref f13))) (l13 : K.lookup f13 = some ⟨oc13, od13, .func (PySem.W.fnOf "firm_fault" "firm_fault" (defArgs (topS 27)) (defBody (topS 27)) (defScope (topS 27)) .none kV13 dc13 pm13 an13 cd13 ct13), sl13⟩) (e13 : PySem.W.codeIn K cd13 "firm_fault" = true) (k13 : PySem.W.keepIn K (.ref f13) = true)
    {od14 an14 : Option Addr} {sl14 : Array (Option Value)} {oc14 kV14 dc14 pm14 cd14 ct14 : Value} {f14 : Addr} (a14 : PySem.W.nsIn K mainGlobals "check_firm" = some (some (.ref f14))) (l14 : K.lookup f14 = some ⟨oc14, od14, .func (PySem.W.fnOf "check_firm" "check_firm" (defArgs (topS 28)) (defBody (topS 28)) (defScope (topS 28)) .none kV14 dc14 pm14 an14 cd14 ct14), sl14⟩) (e14 : PySem.W.codeIn K cd14 "check_firm" = true) (k14 : PySem.W.keepIn K (.ref f14) = true)
    {od15 an15 : Option Addr} {sl15 : Array (Option Value)} {oc15 kV15 dc15 pm15 cd15 ct15 : Value} {f15 : Addr} (a15 : PySem.W.nsIn K mainGlobals "tree_from" = some (some (.ref f15))) (l15 : K.lookup f15 = some ⟨oc15, od15, .func (PySem.W.fnOf "tree_from" "tree_from" (defArgs (topS 30)) (defBody (topS 30)) (defScope (topS 30)) .none kV15 dc15 pm15 an15 cd15 ct15), sl15⟩) (e15 : PySem.W.codeIn K cd15 "tree_from" = true) (k15 : PySem.W.keepIn K (.ref f15) = true)
    {od16 an16 : Option Addr} {sl16 : Array (Option Value)} {oc16 kV16 dc16 pm16 cd16 ct16 : Value} {f16 : Addr} (a16 : PySem.W.nsIn K mainGlobals "fewest_passes" = some (some (.ref f16))) (l16 : K.lookup f16 = some ⟨oc16, od16, .func (PySem.W.fnOf "fewest_passes" "fewest_passes" (defArgs (topS 31)) (defBody (topS 31)) (defScope (topS 31)) .none kV16 dc16 pm16 an16 cd16 ct16), sl16⟩) (e16 : PySem.W.codeIn K cd16 "fewest_passes" = true) (k16 : PySem.W.keepIn K (.ref f16) = true)
    {od17 an17 : Option Addr} {sl17 : Array (Option Value)} {oc17 kV17 dc17 pm17 cd17 ct17 : Value} {f17 : Addr} (a17 : PySem.W.nsIn K mainGlobals "_law_is_int" = some (some (.ref f17))) (l17 : K.lookup f17 = some ⟨oc17, od17, .func (PySem.W.fnOf "_law_is_int" "_law_is_int" (defArgs (topS 37)) (defBody (topS 37)) (defScope (topS 37)) .none kV17 dc17 pm17 an17 cd17 ct17), sl17⟩) (e17 : PySem.W.codeIn K cd17 "_law_is_int" = true) (k17 : PySem.W.keepIn K (.ref f17) = true)
    {od18 an18 : Option Addr} {sl18 : Array (Option Value)} {oc18 kV18 dc18 pm18 cd18 ct18 : Value} {f18 : Addr} (a18 : PySem.W.nsIn K mainGlobals "_law_all_know" = some (some (.ref f18))) (l18 : K.lookup f18 = some ⟨oc18, od18, .func (PySem.W.fnOf "_law_all_know" "_law_all_know" (defArgs (topS 40)) (defBody (topS 40)) (defScope (topS 40)) .none kV18 dc18 pm18 an18 cd18 ct18), sl18⟩) (e18 : PySem.W.codeIn K cd18 "_law_all_know" = true) (k18 : PySem.W.keepIn K (.ref f18) = true)
    {od19 an19 : Option Addr} {sl19 : Array (Option Value)} {oc19 kV19 dc19 pm19 cd19 ct19 : Value} {f19 : Addr} (a19 : PySem.W.nsIn K mainGlobals "_law_pick" = some (some (.ref f19))) (l19 : K.lookup f19 = some ⟨oc19, od19, .func (PySem.W.fnOf "_law_pick" "_law_pick" (defArgs (topS 35)) (defBody (topS 35)) (defScope (topS 35)) .none kV19 dc19 pm19 an19 cd19 ct19), sl19⟩) (e19 : PySem.W.codeIn K cd19 "_law_pick" = true) (k19 : PySem.W.keepIn K (.ref f19) = true)
    {od20 an20 : Option Addr} {sl20 : Array (Option Value)} {oc20 kV20 dc20 pm20 cd20 ct20 : Value} {f20 : Addr} (a20 : PySem.W.nsIn K mainGlobals "_law_none_shorter" = some (some (.ref f20))) (l20 : K.lookup f20 = some ⟨oc20, od20, .func (PySem.W.fnOf "_law_none_shorter" "_law_none_shorter" (defArgs (topS 42)) (defBody (topS 42)) (defScope (topS 42)) .none kV20 dc20 pm20 an20 cd20 ct20), sl20⟩) (e20 : PySem.W.codeIn K cd20 "_law_none_shorter" = true) (k20 : PySem.W.keepIn K (.ref f20) = true)
    {od21 an21 : Option Addr} {sl21 : Array (Option Value)} {oc21 kV21 dc21 pm21 cd21 ct21 : Value} {f21 : Addr} (a21 : PySem.W.nsIn K mainGlobals "law" = some (some (.ref f21))) (l21 : K.lookup f21 = some ⟨oc21, od21, .func (PySem.W.fnOf "law" "law" (defArgs (topS 43)) (defBody (topS 43)) (defScope (topS 43)) .none kV21 dc21 pm21 an21 cd21 ct21), sl21⟩) (e21 : PySem.W.codeIn K cd21 "law" = true) (k21 : PySem.W.keepIn K (.ref f21) = true)
    (z0 : PySem.W.nsIn K mainGlobals "int" = some none)
    (z1 : PySem.W.nsIn K mainGlobals "len" = some none)
    (z2 : PySem.W.nsIn K mainGlobals "abs" = some none)
    (z3 : PySem.W.nsIn K mainGlobals "range" = some none)
    (z4 : PySem.W.nsIn K mainGlobals "tuple" = some none)
    (z5 : PySem.W.nsIn K mainGlobals "sorted" = some none)
    (z6 : PySem.W.nsIn K mainGlobals "isinstance" = some none)
    (z7 : PySem.W.nsIn K mainGlobals "bool" = some none)
    (z8 : PySem.W.nsIn K mainGlobals "min" = some none)
    (z9 : PySem.W.nsIn K mainGlobals "any" = some none)
    (z10 : PySem.W.nsIn K mainGlobals "all" = some none)
    {t0 : Tok} (y0 : PySem.W.nsIn K mainGlobals "LEAST_OFFICES" = some (some (.int 2 t0)))
    {t1 : Tok} (y1 : PySem.W.nsIn K mainGlobals "MOST_OFFICES" = some (some (.int 24 t1)))
    : ∃ fd : FuncData, (∀ (s : Shared) (v : Value), BindsTo s fd ⟨[v], []⟩ [("script", v)]) ∧ ∀ base : Heap, K.In base → base.Ns mainGlobals mg → FnOk l.prog w K mg base (L2.CX l.prog w) 7 fa fd ["script"] (spLaw K) := by
  have e := hfa.symm.trans (PySem.W.mg_of X G a21)
  cases e
  have g : W59.G mg := ⟨trivial, PySem.W.mg_none_of X G z0, PySem.W.mg_none_of X G z1, PySem.W.mg_none_of X G z2, PySem.W.mg_none_of X G z3, PySem.W.mg_none_of X G z4, PySem.W.mg_none_of X G z5, PySem.W.mg_none_of X G z6, PySem.W.mg_none_of X G z7, PySem.W.mg_none_of X G z8, PySem.W.mg_none_of X G z9, PySem.W.mg_none_of X G z10, ⟨_, PySem.W.mg_of X G y0⟩, ⟨_, PySem.W.mg_of X G y1⟩⟩
  have D1 : DefX K mg "_law_begin" (topS 33) ["script"] := ⟨_, _, fun_mk l1 e1 k1, PySem.W.mg_of X G a1, (fun_mk (st := topS 33) l1 e1 k1).binds (ps := ["script"]) fun _ _ _ _ _ _ us hl => match us, hl with | [_], _ => rfl⟩
  have D2 : DefX K mg "_law_draw" (topS 34) ["d", "many"] := ⟨_, _, fun_mk l2 e2 k2, PySem.W.mg_of X G a2, (fun_mk (st := topS 34) l2 e2 k2).binds (ps := ["d", "many"]) fun _ _ _ _ _ _ us hl => match us, hl with | [_, _], _ => rfl⟩
  have D3 : DefX K mg "_law_rare" (topS 36) ["d", "many"] := ⟨_, _, fun_mk l3 e3 k3, PySem.W.mg_of X G a3, (fun_mk (st := topS 36) l3 e3 k3).binds (ps := ["d", "many"]) fun _ _ _ _ _ _ us hl => match us, hl with | [_, _], _ => rfl⟩
  have D4 : DefX K mg "_law_firm" (topS 38) ["d", "editions", "most"] := ⟨_, _, fun_mk l4 e4 k4, PySem.W.mg_of X G a4, (fun_mk (st := topS 38) l4 e4 k4).binds (ps := ["d", "editions", "most"]) fun _ _ _ _ _ _ us hl => match us, hl with | [_, _, _], _ => rfl⟩
  have D5 : DefX K mg "_law_near" (topS 39) ["firm"] := ⟨_, _, fun_mk l5 e5 k5, PySem.W.mg_of X G a5, (fun_mk (st := topS 39) l5 e5 k5).binds (ps := ["firm"]) fun _ _ _ _ _ _ us hl => match us, hl with | [_], _ => rfl⟩
  have D6 : DefX K mg "_law_pairs" (topS 41) ["firm"] := ⟨_, _, fun_mk l6 e6 k6, PySem.W.mg_of X G a6, (fun_mk (st := topS 41) l6 e6 k6).binds (ps := ["firm"]) fun _ _ _ _ _ _ us hl => match us, hl with | [_], _ => rfl⟩
  have D7 : DefX K mg "is_integer" (topS 9) ["value"] := ⟨_, _, fun_mk l7 e7 k7, PySem.W.mg_of X G a7, (fun_mk (st := topS 9) l7 e7 k7).binds (ps := ["value"]) fun _ _ _ _ _ _ us hl => match us, hl with | [_], _ => rfl⟩
  have D8 : DefX K mg "is_between" (topS 10) ["value", "low", "high"] := ⟨_, _, fun_mk l8 e8 k8, PySem.W.mg_of X G a8, (fun_mk (st := topS 10) l8 e8 k8).binds (ps := ["value", "low", "high"]) fun _ _ _ _ _ _ us hl => match us, hl with | [_, _, _], _ => rfl⟩
  have D9 : DefX K mg "are_places" (topS 23) ["value", "editions"] := ⟨_, _, fun_mk l9 e9 k9, PySem.W.mg_of X G a9, (fun_mk (st := topS 23) l9 e9 k9).binds (ps := ["value", "editions"]) fun _ _ _ _ _ _ us hl => match us, hl with | [_, _], _ => rfl⟩
  have D10 : DefX K mg "are_routes" (topS 24) ["value", "many"] := ⟨_, _, fun_mk l10 e10 k10, PySem.W.mg_of X G a10, (fun_mk (st := topS 24) l10 e10 k10).binds (ps := ["value", "many"]) fun _ _ _ _ _ _ us hl => match us, hl with | [_, _], _ => rfl⟩
  have D11 : DefX K mg "near_of" (topS 25) ["firm"] := ⟨_, _, fun_mk l11 e11 k11, PySem.W.mg_of X G a11, (fun_mk (st := topS 25) l11 e11 k11).binds (ps := ["firm"]) fun _ _ _ _ _ _ us hl => match us, hl with | [_], _ => rfl⟩
  have D12 : DefX K mg "ways_from" (topS 26) ["near", "office"] := ⟨_, _, fun_mk l12 e12 k12, PySem.W.mg_of X G a12, (fun_mk (st := topS 26) l12 e12 k12).binds (ps := ["near", "office"]) fun _ _ _ _ _ _ us hl => match us, hl with | [_, _], _ => rfl⟩
  have D13 : DefX K mg "firm_fault" (topS 27) ["editions", "value"] := ⟨_, _, fun_mk l13 e13 k13, PySem.W.mg_of X G a13, (fun_mk (st := topS 27) l13 e13 k13).binds (ps := ["editions", "value"]) fun _ _ _ _ _ _ us hl => match us, hl with | [_, _], _ => rfl⟩
  have D14 : DefX K mg "check_firm" (topS 28) ["book", "firm"] := ⟨_, _, fun_mk l14 e14 k14, PySem.W.mg_of X G a14, (fun_mk (st := topS 28) l14 e14 k14).binds (ps := ["book", "firm"]) fun _ _ _ _ _ _ us hl => match us, hl with | [_, _], _ => rfl⟩
  have D15 : DefX K mg "tree_from" (topS 30) ["firm"] := ⟨_, _, fun_mk l15 e15 k15, PySem.W.mg_of X G a15, (fun_mk (st := topS 30) l15 e15 k15).binds (ps := ["firm"]) fun _ _ _ _ _ _ us hl => match us, hl with | [_], _ => rfl⟩
  have D16 : DefX K mg "fewest_passes" (topS 31) ["firm"] := ⟨_, _, fun_mk l16 e16 k16, PySem.W.mg_of X G a16, (fun_mk (st := topS 31) l16 e16 k16).binds (ps := ["firm"]) fun _ _ _ _ _ _ us hl => match us, hl with | [_], _ => rfl⟩
  have D17 : DefX K mg "_law_is_int" (topS 37) ["thing"] := ⟨_, _, fun_mk l17 e17 k17, PySem.W.mg_of X G a17, (fun_mk (st := topS 37) l17 e17 k17).binds (ps := ["thing"]) fun _ _ _ _ _ _ us hl => match us, hl with | [_], _ => rfl⟩
  have D18 : DefX K mg "_law_all_know" (topS 40) ["many", "passes"] := ⟨_, _, fun_mk l18 e18 k18, PySem.W.mg_of X G a18, (fun_mk (st := topS 40) l18 e18 k18).binds (ps := ["many", "passes"]) fun _ _ _ _ _ _ us hl => match us, hl with | [_, _], _ => rfl⟩
  have D19 : DefX K mg "_law_pick" (topS 35) ["d", "row"] := ⟨_, _, fun_mk l19 e19 k19, PySem.W.mg_of X G a19, (fun_mk (st := topS 35) l19 e19 k19).binds (ps := ["d", "row"]) fun _ _ _ _ _ _ us hl => match us, hl with | [_, _], _ => rfl⟩
  have D20 : DefX K mg "_law_none_shorter" (topS 42) ["firm"] := ⟨_, _, fun_mk l20 e20 k20, PySem.W.mg_of X G a20, (fun_mk (st := topS 42) l20 e20 k20).binds (ps := ["firm"]) fun _ _ _ _ _ _ us hl => match us, hl with | [_], _ => rfl⟩
  refine ⟨PySem.W.fnOf "law" "law" (defArgs (topS 43)) (defBody (topS 43)) (defScope (topS 43)) .none kV21 dc21 pm21 an21 cd21 ct21, fun s v => .of_eq rfl, fun base _ _ => ?_⟩
  · have c_law_begin := c_law_begin (P := l.prog) (w := w) (base := base) g D1
    have c_law_draw := c_law_draw (P := l.prog) (w := w) (base := base) g D2
    have c_law_rare := c_law_rare (P := l.prog) (w := w) (base := base) g D3 c_law_draw
    have c_law_firm := c_law_firm (P := l.prog) (w := w) (base := base) g D4 c_law_draw
    have c_law_near := c_law_near (P := l.prog) (w := w) (base := base) g D5
    have c_law_pairs := c_law_pairs (P := l.prog) (w := w) (base := base) g D6 c_law_near
    have c_is_integer := c_is_integer (P := l.prog) (w := w) (base := base) g D7
    have c_is_between := c_is_between (P := l.prog) (w := w) (base := base) g D8 c_is_integer
    have c_are_places := c_are_places (P := l.prog) (w := w) (base := base) g D9 c_is_between
    have c_are_routes := c_are_routes (P := l.prog) (w := w) (base := base) g D10 c_is_between
    have c_near_of := c_near_of (P := l.prog) (w := w) (base := base) g D11
    have c_ways_from := c_ways_from (P := l.prog) (w := w) (base := base) g D12
    have c_firm_fault := c_firm_fault (P := l.prog) (w := w) (base := base) g D13 c_are_places c_are_routes c_near_of c_ways_from
    have c_check_firm := c_check_firm (P := l.prog) (w := w) (base := base) g D14 c_firm_fault
    have c_tree_from := c_tree_from (P := l.prog) (w := w) (base := base) g D15 c_near_of
    have c_fewest_passes := c_fewest_passes (P := l.prog) (w := w) (base := base) g D16 c_check_firm c_tree_from
    have c_law_is_int := c_law_is_int (P := l.prog) (w := w) (base := base) g D17
    have c_law_all_know := c_law_all_know (P := l.prog) (w := w) (base := base) g D18
    have c_law_pick := c_law_pick (P := l.prog) (w := w) (base := base) g D19 c_law_draw
    have c_law_none_shorter := c_law_none_shorter (P := l.prog) (w := w) (base := base) g D20 c_law_pairs c_law_all_know
    exact (ok_law (P := l.prog) (w := w) (base := base) g (fun_mk l21 e21 k21) c_law_begin c_law_rare c_law_firm c_law_pairs c_fewest_passes c_law_is_int c_law_all_know c_law_pick c_law_none_shorter).imp sp_of
end J59
open PySem PySem.W PyProof.Rows
set_option maxHeartbeats 0 in
theorem PySem.Challenge.cw_postgoeson_k59_fewest_passes_holds : PySem.Challenge.rw_postgoeson_k59_fewest_passes.Holds := by
  w_on; o_law; k_head; (case hw => w_witness2)
  k_fill
  refine L2.walk_of (l := PySem.Challenge.rw_postgoeson_k59_fewest_passes) (n := 63) (k := 7) (x := "script") (CX := fun w => L2.CX PySem.Challenge.rw_postgoeson_k59_fewest_passes.prog w) (sp := fun w => J59.spLaw _) rfl (by decide) rfl ⟨rfl, by decide, by decide⟩ (fun w h Y => PySem.W.kIn_of Y) ?F (fun w H a ns hl ho hs => J59.sp_start hl ho hs) (fun w H s e s' h => J59.no_cx h)
  case F =>
    intro w mg fa h KX G hmg
    refine' J59.all_mk KX G hmg ?a1 ?l1 ?e1 ?k1 ?a2 ?l2 ?e2 ?k2 ?a3 ?l3 ?e3 ?k3 ?a4 ?l4 ?e4 ?k4 ?a5 ?l5 ?e5 ?k5 ?a6 ?l6 ?e6 ?k6 ?a7 ?l7 ?e7 ?k7 ?a8 ?l8 ?e8 ?k8 ?a9 ?l9 ?e9 ?k9 ?a10 ?l10 ?e10 ?k10 ?a11 ?l11 ?e11 ?k11 ?a12 ?l12 ?e12 ?k12 ?a13 ?l13 ?e13 ?k13 ?a14 ?l14 ?e14 ?k14 ?a15 ?l15 ?e15 ?k15 ?a16 ?l16 ?e16 ?k16 ?a17 ?l17 ?e17 ?k17 ?a18 ?l18 ?e18 ?k18 ?a19 ?l19 ?e19 ?k19 ?a20 ?l20 ?e20 ?k20 ?a21 ?l21 ?e21 ?k21 ?z0 ?z1 ?z2 ?z3 ?z4 ?z5 ?z6 ?z7 ?z8 ?z9 ?z10 ?y0 ?y1
    (case a1 => k_is); (case l1 => k_is); (case e1 => k_is); (case k1 => k_is); (case a2 => k_is); (case l2 => k_is); (case e2 => k_is); (case k2 => k_is); (case a3 => k_is); (case l3 => k_is); (case e3 => k_is); (case k3 => k_is); (case a4 => k_is); (case l4 => k_is); (case e4 => k_is); (case k4 => k_is); (case a5 => k_is); (case l5 => k_is); (case e5 => k_is); (case k5 => k_is); (case a6 => k_is); (case l6 => k_is); (case e6 => k_is); (case k6 => k_is); (case a7 => k_is); (case l7 => k_is); (case e7 => k_is); (case k7 => k_is); (case a8 => k_is); (case l8 => k_is); (case e8 => k_is); (case k8 => k_is); (case a9 => k_is); (case l9 => k_is); (case e9 => k_is); (case k9 => k_is); (case a10 => k_is); (case l10 => k_is); (case e10 => k_is); (case k10 => k_is); (case a11 => k_is); (case l11 => k_is); (case e11 => k_is); (case k11 => k_is); (case a12 => k_is); (case l12 => k_is); (case e12 => k_is); (case k12 => k_is); (case a13 => k_is); (case l13 => k_is); (case e13 => k_is); (case k13 => k_is); (case a14 => k_is); (case l14 => k_is); (case e14 => k_is); (case k14 => k_is); (case a15 => k_is); (case l15 => k_is); (case e15 => k_is); (case k15 => k_is); (case a16 => k_is); (case l16 => k_is); (case e16 => k_is); (case k16 => k_is); (case a17 => k_is); (case l17 => k_is); (case e17 => k_is); (case k17 => k_is); (case a18 => k_is); (case l18 => k_is); (case e18 => k_is); (case k18 => k_is); (case a19 => k_is); (case l19 => k_is); (case e19 => k_is); (case k19 => k_is); (case a20 => k_is); (case l20 => k_is); (case e20 => k_is); (case k20 => k_is); (case a21 => k_is); (case l21 => k_is); (case e21 => k_is); (case k21 => k_is); (case z0 => k_is); (case z1 => k_is); (case z2 => k_is); (case z3 => k_is); (case z4 => k_is); (case z5 => k_is); (case z6 => k_is); (case z7 => k_is); (case z8 => k_is); (case z9 => k_is); (case z10 => k_is); (case y0 => k_is); (case y1 => k_is)
