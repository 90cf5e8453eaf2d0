import PyProof.Rows.All
import Wide.All
import OpenK.AllK
import Wide.FinOn
import HandS.ForMost
import HandS.Wide
import HandS.IsInst
import HandS.Deep
import HandS.TupAny
import PyProof.MaxThree
import HandS.WideBits
import HandS.SetFor
import HandS.SortInts
import HandS.RaiseMore
import HandS.Defaults
import HandS.RevRange
import HandS.Comp
import HandS.Text
import HandS.More
import HandS.Strs
import HandS.Replace
import HandS.EndBits
import KE.IntTextLaws
import KE.DataEq
import PyProof.Rows.StrFirst
import PySem.Challenge.RW_camplay_k16_one_part_far
set_option Elab.async false
set_option linter.all false
set_option maxRecDepth 100000
set_option maxHeartbeats 4000000
/-! Z0: values, heaps and results of a plain evaluator; its combinators. -/
namespace Z
open PySem L2

inductive D where
  | non | bl (b : Bool) | int (i : Int) | str (x : Str) | tup (ds : List D) | ref (i : Nat)

inductive O where
  | lst (xs : List D) | fz (xs : List D) | dic (kvs : List (Key × D)) | dct (kvs : List (List Key × D)) | ins (c : Nat) (fs : List (Str × D))

def O.mu : O → Bool
  | .fz _ => false
  | _ => true

abbrev HP := List O

inductive R (α : Type) where
  | ok (a : α) (h : HP) | ex (c : Nat) (fs : List (Str × D)) (h : HP) | no

def R.bind {α β : Type} (r : R α) (f : α → HP → R β) : R β := match r with
  | .ok a h => f a h
  | .ex c fs h => .ex c fs h
  | .no => .no
@[simp] theorem R.bind_ok {α β : Type} (a : α) (h : HP) (f : α → HP → R β) : R.bind (.ok a h) f = f a h := rfl
@[simp] theorem R.bind_ex {α β : Type} (c : Nat) (fs : List (Str × D)) (h : HP) (f : α → HP → R β) : R.bind (.ex c fs h) f = .ex c fs h := rfl
@[simp] theorem R.bind_no {α β : Type} (f : α → HP → R β) : R.bind .no f = .no := rfl

abbrev Ev := List (Option D)
/-- turns enough for every loop -/
def FUEL : Nat := 10 ^ 70

structure Ctx where
  call : Nat → List D → HP → R D
  meth : Nat → Nat → List D → HP → R D
  make : Nat → List D → HP → R D
  fuel : Nat

abbrev ME := Ctx → Ev → HP → R D
abbrev MA := Ctx → Ev → HP → R (List D)
abbrev MT := Ctx → Ev → HP → R Bool
abbrev MO := Ctx → Ev → HP → R (Option Int)

/-! ### expressions -/
def eV (i : Nat) : ME := fun _ e h => match e[i]? with
  | some (some d) => .ok d h
  | _ => .no
def eC (d : D) : ME := fun _ _ h => .ok d h
def eOp (op : D → D → HP → R D) (a b : ME) : ME := fun C e h => (a C e h).bind fun x h => (b C e h).bind fun y h => op x y h
def eUn (op : D → HP → R D) (a : ME) : ME := fun C e h => (a C e h).bind fun x h => op x h
/-- a value as a test -/
def tV (a : ME) : MT := fun C e h => (a C e h).bind fun x h => match x with
  | .bl b => .ok b h
  | _ => .no
def tAn (a b : MT) : MT := fun C e h => (a C e h).bind fun x h => if x = true then b C e h else .ok false h
def tOr (a b : MT) : MT := fun C e h => (a C e h).bind fun x h => if x = true then .ok true h else b C e h
def tNt (a : MT) : MT := fun C e h => (a C e h).bind fun x h => .ok (!x) h
def eAn (a b : ME) : ME := fun C e h => (a C e h).bind fun x h => match x with
  | .bl k => if k = true then b C e h else .ok (.bl false) h
  | _ => .no
def eOr (a b : ME) : ME := fun C e h => (a C e h).bind fun x h => match x with
  | .bl k => if k = true then .ok (.bl true) h else b C e h
  | _ => .no
def eNt (a : ME) : ME := fun C e h => (a C e h).bind fun x h => match x with
  | .bl k => .ok (.bl (!k)) h
  | _ => .no
def eIf (t : MT) (a b : ME) : ME := fun C e h => (t C e h).bind fun x h => if x = true then a C e h else b C e h
def aN : MA := fun _ _ h => .ok [] h
def aC (a : ME) (as : MA) : MA := fun C e h => (a C e h).bind fun x h => (as C e h).bind fun xs h => .ok (x :: xs) h
def eTup (as : MA) : ME := fun C e h => (as C e h).bind fun xs h => if xs.length ≤ sizeLine then .ok (.tup xs) h else .no
def eLst (as : MA) : ME := fun C e h => (as C e h).bind fun xs h => if xs.length ≤ sizeLine then .ok (.ref h.length) (h ++ [.lst xs]) else .no
/-- f(..): a def of the text; ds: the defaults that fill up -/
def eCall (f : Nat) (as : MA) (ds : List D) : ME := fun C e h => (as C e h).bind fun xs h => C.call f (xs ++ ds) h
/-- o.m(..) of an own instance -/
def eMeth (cs : List Nat) (o : ME) (m : Nat) (nm : Str) (as : MA) : ME := fun C e h => (o C e h).bind fun x h => match x with
  | .ref i => match h[i]? with
    | some (.ins c fs) => if c ∈ cs ∧ (fs.lookup nm).isNone = true then (as C e h).bind fun xs h => C.meth c m (.ref i :: xs) h else .no
    | _ => .no
  | _ => .no
/-- C(..) -/
def eMake (c : Nat) (as : MA) : ME := fun C e h => (as C e h).bind fun xs h => C.make c xs h
def mkBy (me : Nat → Nat → List D → HP → R D) (c : Nat) (xs : List D) (h : HP) : R D := (me c 0 (.ref h.length :: xs) (h ++ [.ins c []])).bind fun v h' => match v with
  | .non => .ok (.ref h.length) h'
  | _ => .no
def eFld (cs : List Nat) (a : ME) (f : Str) : ME := fun C e h => (a C e h).bind fun x h => match x with
  | .ref i => match h[i]? with
    | some (.ins c fs) => if c ∈ cs then match fs.lookup f with
        | some d => .ok d h
        | none => .no
      else .no
    | _ => .no
  | _ => .no
/-- f(..), f a built-in function -/
def eBf (f : List D → HP → R D) (as : MA) : ME := fun C e h => (as C e h).bind fun xs h => f xs h
/-- o.m(..) of a built-in type -/
def eBm (f : D → List D → HP → R D) (o : ME) (as : MA) : ME := fun C e h => (o C e h).bind fun x h => (as C e h).bind fun xs h => f x xs h
def oN : MO := fun _ _ h => .ok none h
def oS (a : ME) : MO := fun C e h => (a C e h).bind fun x h => match x with
  | .int i => .ok (some i) h
  | _ => .no
def eSl (f : D → Option Int → Option Int → HP → R D) (a : ME) (lo hi : MO) : ME := fun C e h => (a C e h).bind fun x h => (lo C e h).bind fun l h => (hi C e h).bind fun u h => f x l u h

/-! ### what is walked -/
/-- at turn j: none: it can't be told; some none: it is over -/
abbrev Itr := Nat → HP → Option (Option D)
abbrev MI := Ctx → Ev → HP → R Itr
def itL (i : Nat) : Itr := fun j h => match h[i]? with
  | some (.lst xs) => some xs[j]?
  | some (.fz xs) => some xs[j]?
  | _ => none
def itT (ds : List D) : Itr := fun j _ => some ds[j]?
def itS (x : Str) : Itr := fun j _ => some ((x.cps[j]?).map fun c => .str ⟨#[c]⟩)
def itR (lo : Int) (n : Nat) : Itr := fun j _ => if j < n then some (some (.int (lo + j))) else some none
def itRc (lo c : Int) (n : Nat) : Itr := fun j _ => if j < n then some (some (.int (lo + j * c))) else some none
def itE (i : Nat) : Itr := fun j h => (itL i j h).map fun o => o.map fun d => .tup [.int j, d]
def itZ (a b : Nat) : Itr := fun j h => match itL a j h, itL b j h with
  | some (some x), some (some y) => some (some (.tup [x, y]))
  | some _, some _ => some none
  | _, _ => none
def itV (i n : Nat) : Itr := fun j h => if j < n then match itL i (n - 1 - j) h with
    | some (some d) => some (some d)
    | _ => none
  else some none
def isL (i : Nat) (h : HP) : Option (List D) := match h[i]? with
  | some (.lst xs) => some xs
  | some (.fz xs) => some xs
  | _ => none
/-- for .. in e: a list, a tuple, a text -/
def iA (a : ME) : MI := fun C e h => (a C e h).bind fun x h => match x with
  | .ref i => match isL i h with
    | some _ => .ok (itL i) h
    | none => .no
  | .tup ds => .ok (itT ds) h
  | .str z => .ok (itS z) h
  | _ => .no
def iR1 (a : ME) : MI := fun C e h => (a C e h).bind fun x h => match x with
  | .int n => if -(2 ^ 62) ≤ n ∧ n < 2 ^ 62 then .ok (itR 0 n.toNat) h else .no
  | _ => .no
def iR2 (a b : ME) : MI := fun C e h => (a C e h).bind fun x h => (b C e h).bind fun y h => match x, y with
  | .int i, .int j => if -(2 ^ 62) ≤ i ∧ i < 2 ^ 62 ∧ -(2 ^ 62) ≤ j ∧ j < 2 ^ 62 then .ok (itR i (j - i).toNat) h else .no
  | _, _ => .no
def iEn (a : ME) : MI := fun C e h => (a C e h).bind fun x h => match x with
  | .ref i => match isL i h with
    | some _ => .ok (itE i) h
    | none => .no
  | _ => .no
def iZp (a b : ME) : MI := fun C e h => (a C e h).bind fun x h => (b C e h).bind fun y h => match x, y with
  | .ref i, .ref j => match isL i h, isL j h with
    | some _, some _ => .ok (itZ i j) h
    | _, _ => .no
  | _, _ => .no
def iRv (a : ME) : MI := fun C e h => (a C e h).bind fun x h => match x with
  | .ref i => match isL i h with
    | some xs => .ok (itV i xs.length) h
    | none => .no
  | _ => .no
/-- reversed(range(a)), reversed(range(a, b)) -/
def iRr1 (a : ME) : MI := fun C e h => (a C e h).bind fun x h => match x with
  | .int n => if -(2 ^ 62) ≤ n ∧ n < 2 ^ 62 then .ok (itRc (n.toNat - 1) (-1) n.toNat) h else .no
  | _ => .no

/-! ### targets -/
abbrev Tg := Ev → D → Option Ev
def gN (i : Nat) : Tg := fun e d => some (e.set i (some d))
def gT (is : List Nat) : Tg := fun e d => match d with
  | .tup ds => if ds.length = is.length then some ((is.zip ds).foldl (fun e p => e.set p.1 (some p.2)) e) else none
  | _ => none

/-! ### statements -/
inductive FL where
  | nx (e : Ev) | rt (d : D) | bk (e : Ev) | ct (e : Ev)
abbrev MS := Ctx → Ev → HP → R FL
def sSk : MS := fun _ e h => .ok (.nx e) h
def sSq (a b : MS) : MS := fun C e h => (a C e h).bind fun f h => match f with
  | .nx e => b C e h
  | f => .ok f h
def sBk : MS := fun _ e h => .ok (.bk e) h
def sCt : MS := fun _ e h => .ok (.ct e) h
def sEx (a : ME) : MS := fun C e h => (a C e h).bind fun _ h => .ok (.nx e) h
def sRt (a : ME) : MS := fun C e h => (a C e h).bind fun d h => .ok (.rt d) h
def sRN : MS := fun _ _ h => .ok (.rt .non) h
def sAs (g : Tg) (a : ME) : MS := fun C e h => (a C e h).bind fun d h => match g e d with
  | some e => .ok (.nx e) h
  | none => .no
/-- x, y = a, b -/
def sPr (i j : Nat) (a b : ME) : MS := fun C e h => (a C e h).bind fun x h => (b C e h).bind fun y h => .ok (.nx ((e.set i (some x)).set j (some y))) h
def sAu (i : Nat) (op : D → D → HP → R D) (a : ME) : MS := fun C e h => match e[i]? with
  | some (some x) => (a C e h).bind fun y h => (op x y h).bind fun z h => .ok (.nx (e.set i (some z))) h
  | _ => .no
def sIf (t : MT) (a b : MS) : MS := fun C e h => (t C e h).bind fun x h => if x = true then a C e h else b C e h
/-- o[i] = a -/
def sSt (f : D → D → D → HP → R Unit) (o i a : ME) : MS := fun C e h => (a C e h).bind fun v h => (o C e h).bind fun x h => (i C e h).bind fun y h => (f x y v h).bind fun _ h => .ok (.nx e) h
def putD (f : Str) (v : D) : List (Str × D) → List (Str × D)
  | [] => [(f, v)]
  | (g, x) :: r => if g = f then (g, v) :: r else (g, x) :: putD f v r
/-- o.f = a -/
def sFl (cs : List Nat) (o : ME) (f : Str) (a : ME) : MS := fun C e h => (a C e h).bind fun v h => (o C e h).bind fun x h => match x with
  | .ref i => match h[i]? with
    | some (.ins c fs) => if c ∈ cs ∧ fs.length < 1000 then .ok (.nx e) (h.set i (.ins c (putD f v fs))) else .no
    | _ => .no
  | _ => .no
/-- o.f op= a -/
def sFa (cs : List Nat) (o : ME) (f : Str) (op : D → D → HP → R D) (a : ME) : MS := fun C e h => (o C e h).bind fun x h => match x with
  | .ref i => match h[i]? with
    | some (.ins c2 fs) => match fs.lookup f with
      | some v => (a C e h).bind fun y h => (op v y h).bind fun z h => match h[i]? with
        | some (.ins c fs) => if c ∈ cs ∧ c2 = c ∧ fs.length < 1000 then .ok (.nx e) (h.set i (.ins c (putD f z fs))) else .no
        | _ => .no
      | none => .no
    | _ => .no
  | _ => .no
def whileN (t : MT) (b : MS) : Nat → MS
  | 0 => fun _ _ _ => .no
  | n + 1 => fun C e h => (t C e h).bind fun x h => if x = true then (b C e h).bind fun f h => match f with
      | .nx e => whileN t b n C e h
      | .ct e => whileN t b n C e h
      | .bk e => .ok (.nx e) h
      | .rt d => .ok (.rt d) h
    else .ok (.nx e) h
def sWh (t : MT) (b : MS) : MS := fun C e h => whileN t b C.fuel C e h
def forN (it : Itr) (g : Tg) (b : MS) : Nat → Nat → MS
  | 0, _ => fun _ _ _ => .no
  | n + 1, j => fun C e h => match it j h with
    | some none => .ok (.nx e) h
    | some (some d) => match g e d with
      | some e => (b C e h).bind fun f h => match f with
        | .nx e => forN it g b n (j + 1) C e h
        | .ct e => forN it g b n (j + 1) C e h
        | .bk e => .ok (.nx e) h
        | .rt d => .ok (.rt d) h
      | none => .no
    | none => .no
def sFo (g : Tg) (it : MI) (b : MS) : MS := fun C e h => (it C e h).bind fun i h => forN i g b C.fuel 0 C e h
/-- what can't be told: a raise that is never come to -/
def sNo : MS := fun _ _ _ => .no

/-! ### comprehensions: the items of the new list -/
def cmpN (it : Itr) (g : Tg) (t : MT) (a : ME) (e0 : Ev) (C : Ctx) : Nat → Nat → List D → HP → R (List D)
  | 0, _, _, _ => .no
  | n + 1, j, acc, h => match it j h with
    | some none => .ok acc h
    | some (some d) => match g e0 d with
      | some e => (t C e h).bind fun x h => if x = true then (a C e h).bind fun y h => if acc.length < sizeLine then cmpN it g t a e0 C n (j + 1) (acc ++ [y]) h else .no
          else cmpN it g t a e0 C n (j + 1) acc h
      | none => .no
    | none => .no
def wipeE (e : Ev) : List Nat → Ev
  | [] => e
  | v :: vs => (wipeE e vs).set v none
def tY : MT := fun _ _ h => .ok true h
def eLc (vs : List Nat) (g : Tg) (it : MI) (t : MT) (a : ME) : ME := fun C e h => (it C e h).bind fun i h => (cmpN i g t a (wipeE e vs) C C.fuel 0 [] h).bind fun xs h => .ok (.ref h.length) (h ++ [.lst xs])

/-! ### a text's defs -/
structure Fn where
  np : Nat
  nn : Nat
  body : MS
def runFn (C : Ctx) (fn : Fn) (ds : List D) (h : HP) : R D :=
  if ds.length = fn.np then (fn.body C (ds.map some ++ List.replicate (fn.nn - ds.length) none) h).bind fun f h => match f with
    | .rt d => .ok d h
    | .nx _ => .ok .non h
    | _ => .no
  else .no
structure Tbl where
  fn : Nat → Option Fn
  me : Nat → Nat → Option Fn
  fuel : Nat
def ctx (T : Tbl) : Nat → Ctx
  | 0 => ⟨fun _ _ _ => .no, fun _ _ _ _ => .no, fun _ _ _ => .no, T.fuel⟩
  | n + 1 => ⟨fun f ds h => match T.fn f with
      | some fn => runFn (ctx T n) fn ds h
      | none => .no,
    fun c m ds h => match T.me c m with
      | some fn => runFn (ctx T n) fn ds h
      | none => .no,
    mkBy (ctx T n).meth, T.fuel⟩
end Z
/-! Z1: what the plain evaluator's values, heaps and results stand for in the hand layer. -/
namespace Z
open PySem L2

/-! ### values -/
mutual
def RV (φ : Nat → Addr) (n : Nat) (H : Hp) : D → V → Prop
  | .non, v => v = .non
  | .bl b, v => v = .bl b
  | .int i, v => v = .int i
  | .str x, v => v = .str x
  | .ref i, v => i < n ∧ v = .ref (φ i)
  | .tup ds, v => ∃ p vs, v = .ref p ∧ H p = some (.tup vs) ∧ RVs φ n H ds vs
def RVs (φ : Nat → Addr) (n : Nat) (H : Hp) : List D → List V → Prop
  | [], vs => vs = []
  | d :: ds, vs => ∃ v r, vs = v :: r ∧ RV φ n H d v ∧ RVs φ n H ds r
end
def RKs {κ : Type} (φ : Nat → Addr) (n : Nat) (H : Hp) : List (κ × D) → List (κ × V) → Prop
  | [], vs => vs = []
  | (k, d) :: ds, vs => ∃ v r, vs = (k, v) :: r ∧ RV φ n H d v ∧ RKs φ n H ds r
section
variable {φ φ' : Nat → Addr} {n m : Nat} {H H' : Hp}
theorem RVs.len : ∀ {ds : List D} {vs : List V}, RVs φ n H ds vs → vs.length = ds.length
  | [], vs, h => by simp only [RVs] at h; subst h; rfl
  | d :: ds, vs, h => by
    simp only [RVs] at h
    obtain ⟨v, r, rfl, _, h⟩ := h
    simp [RVs.len h]
theorem RVs.get : ∀ {ds : List D} {vs : List V} {i : Nat} {d : D}, RVs φ n H ds vs → ds[i]? = some d → ∃ v, vs[i]? = some v ∧ RV φ n H d v
  | [], vs, i, d, h, e => by simp at e
  | d :: ds, vs, 0, d', h, e => by
    simp only [RVs] at h
    obtain ⟨v, r, rfl, h1, h⟩ := h
    simp at e; subst e
    exact ⟨v, rfl, h1⟩
  | d :: ds, vs, i + 1, d', h, e => by
    simp only [RVs] at h
    obtain ⟨v, r, rfl, h1, h⟩ := h
    obtain ⟨v', e1, e2⟩ := RVs.get (i := i) (d := d') h (by simpa using e)
    exact ⟨v', by simpa using e1, e2⟩
theorem RVs.append : ∀ {ds es : List D} {vs us : List V}, RVs φ n H ds vs → RVs φ n H es us → RVs φ n H (ds ++ es) (vs ++ us)
  | [], es, vs, us, h, q => by simp only [RVs] at h; subst h; exact q
  | d :: ds, es, vs, us, h, q => by
    simp only [RVs] at h
    obtain ⟨v, r, rfl, h1, h⟩ := h
    simp only [List.cons_append, RVs]
    exact ⟨v, r ++ us, rfl, h1, RVs.append h q⟩
theorem RVs.set : ∀ {ds : List D} {vs : List V} (i : Nat) {d : D} {v : V}, RVs φ n H ds vs → RV φ n H d v → RVs φ n H (ds.set i d) (vs.set i v)
  | [], vs, i, d, v, h, q => by simp only [RVs] at h; subst h; simp [RVs]
  | d :: ds, vs, 0, d', v', h, q => by
    simp only [RVs] at h
    obtain ⟨v, r, rfl, h1, h⟩ := h
    simp only [List.set_cons_zero, RVs]
    exact ⟨v', r, rfl, q, h⟩
  | d :: ds, vs, i + 1, d', v', h, q => by
    simp only [RVs] at h
    obtain ⟨v, r, rfl, h1, h⟩ := h
    simp only [List.set_cons_succ, RVs]
    exact ⟨v, r.set i v', rfl, h1, RVs.set i h q⟩
theorem RVs.take : ∀ {ds : List D} {vs : List V} (i : Nat), RVs φ n H ds vs → RVs φ n H (ds.take i) (vs.take i)
  | [], vs, i, h => by simp only [RVs] at h; subst h; simp [RVs]
  | d :: ds, vs, 0, h => by simp [RVs]
  | d :: ds, vs, i + 1, h => by
    simp only [RVs] at h
    obtain ⟨v, r, rfl, h1, h⟩ := h
    simp only [List.take_succ_cons, RVs]
    exact ⟨v, r.take i, rfl, h1, RVs.take i h⟩
theorem RVs.drop : ∀ {ds : List D} {vs : List V} (i : Nat), RVs φ n H ds vs → RVs φ n H (ds.drop i) (vs.drop i)
  | [], vs, i, h => by simp only [RVs] at h; subst h; simp [RVs]
  | d :: ds, vs, 0, h => by simpa using h
  | d :: ds, vs, i + 1, h => by
    simp only [RVs] at h
    obtain ⟨v, r, rfl, h1, h⟩ := h
    simpa using RVs.drop i h
theorem RVs.nil_iff {vs : List V} : RVs φ n H [] vs ↔ vs = [] := by simp [RVs]
theorem RVs.one {d : D} {v : V} (h : RV φ n H d v) : RVs φ n H [d] [v] := by
  simp only [RVs]; exact ⟨v, [], rfl, h, rfl⟩
theorem RVs.cons {d : D} {v : V} {ds : List D} {vs : List V} (h : RV φ n H d v) (q : RVs φ n H ds vs) : RVs φ n H (d :: ds) (v :: vs) := by
  simp only [RVs]; exact ⟨v, vs, rfl, h, q⟩
theorem RVs.reverse : ∀ {ds : List D} {vs : List V}, RVs φ n H ds vs → RVs φ n H ds.reverse vs.reverse
  | [], vs, h => by simp only [RVs] at h; subst h; simp [RVs]
  | d :: ds, vs, h => by
    simp only [RVs] at h
    obtain ⟨v, r, rfl, h1, h⟩ := h
    simp only [List.reverse_cons]
    exact RVs.append (RVs.reverse h) (RVs.one h1)
/-- all values of a list of ints -/
theorem RVs.ints : ∀ {ns : List Int} {vs : List V}, RVs φ n H (ns.map D.int) vs → vs = ns.map V.int
  | [], vs, h => by simpa [RVs] using h
  | i :: ns, vs, h => by
    simp only [List.map_cons, RVs] at h
    obtain ⟨v, r, rfl, h1, h⟩ := h
    simp only [RV] at h1
    subst h1
    rw [RVs.ints h]; rfl
theorem RVs.of_ints : ∀ {ns : List Int}, RVs φ n H (ns.map D.int) (ns.map V.int)
  | [] => by simp [RVs]
  | i :: ns => by
    simp only [List.map_cons, RVs]
    exact ⟨_, _, rfl, by simp [RV], RVs.of_ints⟩
end

/-! ### objects, heaps -/
def RO (K : PySem.W.Frag) (κ : Nat → Addr) (φ : Nat → Addr) (n : Nat) (H : Hp) (a : Addr) : O → Prop
  | .lst ds => ∃ vs, H a = some (.lst vs) ∧ RVs φ n H ds vs
  | .fz ds => ∃ vs, ((∃ o, H a = some (.frz o (.lst vs))) ∨ ∃ (o : Obj) (its : Array Value) (n : Nat), K.lookup a = some o ∧ o.cls = .type "list" ∧ o.dict = none ∧ o.data = .seq its n ∧ its.size ≤ sizeLine ∧ Vals vs its.toList) ∧ RVs φ n H ds vs
  | .dic kvs => ∃ us, H a = some (.dK us) ∧ RKs φ n H kvs us
  | .dct kvs => ∃ us, H a = some (.dT us) ∧ RKs φ n H kvs us
  | .ins c fs => ∃ dx us, H a = some (.ins (κ c) dx us) ∧ RKs φ n H fs us
def Own (φ : Nat → Addr) (h : HP) (b : Addr) : Prop := ∃ i o, h[i]? = some o ∧ o.mu = true ∧ φ i = b
structure Sim (K : PySem.W.Frag) (κ : Nat → Addr) (φ : Nat → Addr) (h : HP) (H : Hp) : Prop where
  inj : ∀ i j o o', h[i]? = some o → h[j]? = some o' → o.mu = true → o'.mu = true → φ i = φ j → i = j
  obj : ∀ i o, h[i]? = some o → RO K κ φ h.length H (φ i) o
structure Step (φ : Nat → Addr) (h : HP) (H : Hp) (φ' : Nat → Addr) (h' : HP) (H' : Hp) : Prop where
  len : h.length ≤ h'.length
  agree : ∀ i, i < h.length → φ' i = φ i
  frame : ∀ b, H b ≠ none → ¬ Own φ h b → H' b = H b ∧ ¬ Own φ' h' b
def isMut : HO → Bool
  | .lst _ => true
  | .dK _ => true
  | .dT _ => true
  | .ins _ _ _ => true
  | _ => false
section
variable {K : PySem.W.Frag} {κ φ φ' φ2 : Nat → Addr} {h h' h2 : HP} {H H' H2 : Hp}
theorem Sim.own (S : Sim K κ φ h H) {b : Addr} (o : Own φ h b) : ∃ u, H b = some u ∧ isMut u = true := by
  obtain ⟨i, o, e, m, rfl⟩ := o
  have q := S.obj i o e
  cases o with
  | lst ds => obtain ⟨vs, e, _⟩ := q; exact ⟨_, e, rfl⟩
  | fz ds => cases m
  | dic ds => obtain ⟨vs, e, _⟩ := q; exact ⟨_, e, rfl⟩
  | dct ds => obtain ⟨vs, e, _⟩ := q; exact ⟨_, e, rfl⟩
  | ins c fs => obtain ⟨dx, vs, e, _⟩ := q; exact ⟨_, e, rfl⟩
theorem Step.refl : Step φ h H φ h H := ⟨Nat.le_refl _, fun _ _ => rfl, fun _ _ q => ⟨rfl, q⟩⟩
theorem Step.trans (a : Step φ h H φ' h' H') (b : Step φ' h' H' φ2 h2 H2) : Step φ h H φ2 h2 H2 :=
  ⟨Nat.le_trans a.len b.len, fun i hi => (b.agree i (Nat.lt_of_lt_of_le hi a.len)).trans (a.agree i hi), fun x e q => by
    obtain ⟨e1, q1⟩ := a.frame x e q
    obtain ⟨e2, q2⟩ := b.frame x (by rw [e1]; exact e) q1
    exact ⟨e2.trans e1, q2⟩⟩
theorem Sim.tup (S : Sim K κ φ h H) (st : Step φ h H φ' h' H') {p : Addr} {vs : List V} (e : H p = some (.tup vs)) : H' p = some (.tup vs) := by
  have n : ¬ Own φ h p := fun o => by
    obtain ⟨u, e', m⟩ := S.own o
    rw [e] at e'; cases e'; cases m
  rw [(st.frame p (by rw [e]; simp) n).1, e]
mutual
theorem RV.step (S : Sim K κ φ h H) (st : Step φ h H φ' h' H') : ∀ {d : D} {v : V}, RV φ h.length H d v → RV φ' h'.length H' d v
  | .non, v, q => by simpa only [RV] using q
  | .bl b, v, q => by simpa only [RV] using q
  | .int i, v, q => by simpa only [RV] using q
  | .str x, v, q => by simpa only [RV] using q
  | .ref i, v, q => by
    simp only [RV] at q ⊢
    exact ⟨Nat.lt_of_lt_of_le q.1 st.len, by rw [st.agree i q.1]; exact q.2⟩
  | .tup ds, v, q => by
    simp only [RV] at q ⊢
    obtain ⟨p, vs, e, e2, r⟩ := q
    exact ⟨p, vs, e, S.tup st e2, RVs.step S st r⟩
theorem RVs.step (S : Sim K κ φ h H) (st : Step φ h H φ' h' H') : ∀ {ds : List D} {vs : List V}, RVs φ h.length H ds vs → RVs φ' h'.length H' ds vs
  | [], vs, q => by simpa only [RVs] using q
  | d :: ds, vs, q => by
    simp only [RVs] at q ⊢
    obtain ⟨v, r, e, q1, q2⟩ := q
    exact ⟨v, r, e, RV.step S st q1, RVs.step S st q2⟩
end
theorem RKs.step {κ' : Type} (S : Sim K κ φ h H) (st : Step φ h H φ' h' H') : ∀ {ds : List (κ' × D)} {vs : List (κ' × V)}, RKs φ h.length H ds vs → RKs φ' h'.length H' ds vs
  | [], vs, q => by simpa only [RKs] using q
  | (k, d) :: ds, vs, q => by
    simp only [RKs] at q ⊢
    obtain ⟨v, r, e, q1, q2⟩ := q
    exact ⟨v, r, e, RV.step S st q1, RKs.step S st q2⟩
/-- objects other than the one changed -/
theorem RO.step (S : Sim K κ φ h H) (st : Step φ h H φ' h' H') {i : Nat} {o : O} (hi : h[i]? = some o) (e : H' (φ i) = H (φ i)) : RO K κ φ' h'.length H' (φ' i) o := by
  have q := S.obj i o hi
  have hl : i < h.length := (List.getElem?_eq_some_iff.mp hi).1
  rw [st.agree i hl]
  cases o with
  | lst ds => obtain ⟨vs, e1, r⟩ := q; exact ⟨vs, by rw [e]; exact e1, r.step S st⟩
  | fz ds =>
    obtain ⟨vs, e1, r⟩ := q
    refine ⟨vs, ?_, r.step S st⟩
    rcases e1 with ⟨o, e1⟩ | e1
    · exact .inl ⟨o, by rw [e]; exact e1⟩
    · exact .inr e1
  | dic ds => obtain ⟨vs, e1, r⟩ := q; exact ⟨vs, by rw [e]; exact e1, r.step S st⟩
  | dct ds => obtain ⟨vs, e1, r⟩ := q; exact ⟨vs, by rw [e]; exact e1, r.step S st⟩
  | ins c fs => obtain ⟨dx, vs, e1, r⟩ := q; exact ⟨dx, vs, by rw [e]; exact e1, r.step S st⟩
theorem RO.stepF (S : Sim K κ φ h H) (st : Step φ h H φ' h' H') {i : Nat} {ds : List D} (hi : h[i]? = some (.fz ds)) (e : ∀ o vs, H (φ i) = some (.frz o (.lst vs)) → H' (φ i) = some (.frz o (.lst vs))) : RO K κ φ' h'.length H' (φ' i) (.fz ds) := by
  obtain ⟨vs, e1, r⟩ := S.obj i _ hi
  have hl : i < h.length := (List.getElem?_eq_some_iff.mp hi).1
  rw [st.agree i hl]
  refine ⟨vs, ?_, r.step S st⟩
  rcases e1 with ⟨o, e1⟩ | e1
  · exact .inl ⟨o, e _ _ e1⟩
  · exact .inr e1
/-- a new thing that the evaluator does not name (a tuple, an instance's dict) -/
theorem step_temp (S : Sim K κ φ h H) {p : Addr} {u : HO} (hp : H p = none) : Step φ h H φ h (upd H p u) :=
  ⟨Nat.le_refl _, fun _ _ => rfl, fun b e q => ⟨upd_ne (fun z => by subst z; exact e hp), q⟩⟩
theorem Sim.temp (S : Sim K κ φ h H) {p : Addr} {u : HO} (hp : H p = none) : Sim K κ φ h (upd H p u) := by
  refine ⟨S.inj, fun i o hi => ?_⟩
  have st := step_temp S (u := u) hp
  by_cases m : o.mu = true
  · obtain ⟨u', e, _⟩ := S.own ⟨i, o, hi, m, rfl⟩
    exact RO.step S st hi (upd_ne (ne_of_none e hp))
  · cases o with
    | fz ds => exact RO.stepF S st hi fun o vs e => by rw [upd_ne (ne_of_none e hp)]; exact e
    | lst _ => exact absurd rfl m
    | dic _ => exact absurd rfl m
    | dct _ => exact absurd rfl m
    | ins _ _ => exact absurd rfl m
/-- a new object of the evaluator's -/
def ext (φ : Nat → Addr) (n : Nat) (p : Addr) : Nat → Addr := fun i => if i = n then p else φ i
theorem ext_at {n : Nat} {p : Addr} : ext φ n p n = p := by unfold ext; rw [if_pos rfl]
theorem ext_lt {n i : Nat} {p : Addr} (h : i < n) : ext φ n p i = φ i := by unfold ext; rw [if_neg (Nat.ne_of_lt h)]
theorem get_snoc {h : HP} {o o' : O} {i : Nat} (e : (h ++ [o])[i]? = some o') : (i < h.length ∧ h[i]? = some o') ∨ (i = h.length ∧ o' = o) := by
  by_cases hi : i < h.length
  · rw [List.getElem?_append_left hi] at e
    exact .inl ⟨hi, e⟩
  · rw [List.getElem?_append_right (by omega)] at e
    have : i - h.length = 0 := by
      cases q : i - h.length with
      | zero => rfl
      | succ k => rw [q] at e; simp at e
    rw [this] at e
    simp at e
    exact .inr ⟨by omega, e.symm⟩
theorem step_new (S : Sim K κ φ h H) {p : Addr} {o : O} {u : HO} (hp : H p = none) : Step φ h H (ext φ h.length p) (h ++ [o]) (upd H p u) := by
  refine ⟨by simp, fun i hi => ext_lt hi, fun b e q => ⟨upd_ne (fun z => by subst z; exact e hp), fun z => ?_⟩⟩
  obtain ⟨i, o', hi, m, rfl⟩ := z
  rcases get_snoc hi with ⟨hl, hi⟩ | ⟨rfl, rfl⟩
  · exact q ⟨i, o', hi, m, (ext_lt hl).symm⟩
  · rw [ext_at] at e; exact e hp
theorem Sim.new (S : Sim K κ φ h H) {p : Addr} {o : O} {u : HO} (hp : H p = none) (new : ∀ st : Step φ h H (ext φ h.length p) (h ++ [o]) (upd H p u), RO K κ (ext φ h.length p) (h ++ [o]).length (upd H p u) p o) : Sim K κ (ext φ h.length p) (h ++ [o]) (upd H p u) := by
  have st := step_new S (o := o) (u := u) hp
  refine ⟨fun i j oi oj hi hj mi mj e => ?_, fun i o' hi => ?_⟩
  · rcases get_snoc hi with ⟨li, hi2⟩ | ⟨ei, eoi⟩ <;> rcases get_snoc hj with ⟨lj, hj2⟩ | ⟨ej, eoj⟩
    · rw [ext_lt li, ext_lt lj] at e
      exact S.inj i j oi oj hi2 hj2 mi mj e
    · rw [ext_lt li, ej, ext_at] at e
      obtain ⟨u', e', _⟩ := S.own ⟨i, oi, hi2, mi, rfl⟩
      rw [e, hp] at e'; cases e'
    · rw [ext_lt lj, ei, ext_at] at e
      obtain ⟨u', e', _⟩ := S.own ⟨j, oj, hj2, mj, rfl⟩
      rw [← e, hp] at e'; cases e'
    · rw [ei, ej]
  · rcases get_snoc hi with ⟨li, hi⟩ | ⟨rfl, rfl⟩
    · by_cases m : o'.mu = true
      · obtain ⟨u', e, _⟩ := S.own ⟨i, o', hi, m, rfl⟩
        exact RO.step S st hi (upd_ne (ne_of_none e hp))
      · cases o' with
        | fz ds => exact RO.stepF S st hi fun o vs e => by rw [upd_ne (ne_of_none e hp)]; exact e
        | lst _ => exact absurd rfl m
        | dic _ => exact absurd rfl m
        | dct _ => exact absurd rfl m
        | ins _ _ => exact absurd rfl m
    · rw [ext_at]; exact new st
/-- an object of the evaluator's changed -/
theorem step_set (S : Sim K κ φ h H) {i : Nat} {o o' : O} {u : HO} (hi : h[i]? = some o) (m : o.mu = true) (m' : o'.mu = true) : Step φ h H φ (h.set i o') (upd H (φ i) u) := by
  refine ⟨by simp, fun _ _ => rfl, fun b e q => ⟨upd_ne (fun z => q ⟨i, o, hi, m, z.symm⟩), fun z => ?_⟩⟩
  obtain ⟨j, oj, hj, mj, rfl⟩ := z
  by_cases hij : i = j
  · subst hij; exact q ⟨i, o, hi, m, rfl⟩
  · rw [List.getElem?_set_ne hij] at hj
    exact q ⟨j, oj, hj, mj, rfl⟩
theorem Sim.set (S : Sim K κ φ h H) {i : Nat} {o o' : O} {u : HO} (hi : h[i]? = some o) (m : o.mu = true) (m' : o'.mu = true)
    (new : ∀ st : Step φ h H φ (h.set i o') (upd H (φ i) u), RO K κ φ (h.set i o').length (upd H (φ i) u) (φ i) o') : Sim K κ φ (h.set i o') (upd H (φ i) u) := by
  have st := step_set S (u := u) hi m m'
  have hl : i < h.length := (List.getElem?_eq_some_iff.mp hi).1
  have mu_of : ∀ (j : Nat) (oj : O), (h.set i o')[j]? = some oj → oj.mu = true → ∃ ob : O, h[j]? = some ob ∧ ob.mu = true := fun j oj hj mj => by
    by_cases hij : i = j
    · subst hij; exact ⟨o, hi, m⟩
    · rw [List.getElem?_set_ne hij] at hj; exact ⟨oj, hj, mj⟩
  refine ⟨fun j k oj ok hj hk mj mk e => ?_, fun j oj hj => ?_⟩
  · obtain ⟨o1, e1, m1⟩ := mu_of j oj hj mj
    obtain ⟨o2, e2, m2⟩ := mu_of k ok hk mk
    exact S.inj j k o1 o2 e1 e2 m1 m2 e
  · by_cases hij : i = j
    · subst hij
      rw [List.getElem?_set_self hl] at hj
      cases hj
      exact new st
    · rw [List.getElem?_set_ne hij] at hj
      by_cases mj : oj.mu = true
      · have ne : φ j ≠ φ i := fun e => hij (S.inj j i oj o hj hi mj m e).symm
        exact RO.step S st hj (upd_ne ne)
      · obtain ⟨u', e', mu'⟩ := S.own ⟨i, o, hi, m, rfl⟩
        cases oj with
        | fz ds =>
          refine RO.stepF S st hj fun ob vs e => ?_
          have ne : φ j ≠ φ i := fun z => by
            rw [z, e'] at e
            cases e
            cases mu'
          rw [upd_ne ne]
          exact e
        | lst _ => exact absurd rfl mj
        | dic _ => exact absurd rfl mj
        | dct _ => exact absurd rfl mj
        | ins _ _ => exact absurd rfl mj
end

/-! ### results -/
def Post (K : PySem.W.Frag) (κ φ : Nat → Addr) (h : HP) (H : Hp) (r : R D) (Q : VK) : Prop := match r with
  | .ok d h' => ∀ φ' H' v, Step φ h H φ' h' H' → Sim K κ φ' h' H' → RV φ' h'.length H' d v → Q v H'
  | _ => False
def PostA (K : PySem.W.Frag) (κ φ : Nat → Addr) (h : HP) (H : Hp) (r : R (List D)) (Q : List V → Hp → Prop) : Prop := match r with
  | .ok ds h' => ∀ φ' H' vs, Step φ h H φ' h' H' → Sim K κ φ' h' H' → RVs φ' h'.length H' ds vs → Q vs H'
  | _ => False
def PostT (K : PySem.W.Frag) (κ φ : Nat → Addr) (h : HP) (H : Hp) (r : R Bool) (Q : Bool → Hp → Prop) : Prop := match r with
  | .ok b h' => ∀ φ' H', Step φ h H φ' h' H' → Sim K κ φ' h' H' → Q b H'
  | _ => False
def PostO (K : PySem.W.Frag) (κ φ : Nat → Addr) (h : HP) (H : Hp) (r : R (Option Int)) (Q : Option Int → Hp → Prop) : Prop := match r with
  | .ok b h' => ∀ φ' H', Step φ h H φ' h' H' → Sim K κ φ' h' H' → Q b H'
  | _ => False
/-- the frame's slots -/
structure EnvR (φ : Nat → Addr) (n : Nat) (H : Hp) (e : Ev) (σ : L2.St) : Prop where
  len : e.length = σ.length
  get : ∀ (i : Nat) (d : D), e[i]? = some (some d) → ∃ v, σ[i]? = some (some v) ∧ RV φ n H d v
def PostS (K : PySem.W.Frag) (κ φ : Nat → Addr) (h : HP) (H : Hp) (r : R FL) (Dn : Ends) : Prop := match r with
  | .ok (.nx e) h' => ∀ φ' H' σ', Step φ h H φ' h' H' → Sim K κ φ' h' H' → EnvR φ' h'.length H' e σ' → Dn.nx σ' H'
  | .ok (.bk e) h' => ∀ φ' H' σ', Step φ h H φ' h' H' → Sim K κ φ' h' H' → EnvR φ' h'.length H' e σ' → Dn.bk σ' H'
  | .ok (.ct e) h' => ∀ φ' H' σ', Step φ h H φ' h' H' → Sim K κ φ' h' H' → EnvR φ' h'.length H' e σ' → Dn.ct σ' H'
  | .ok (.rt d) h' => ∀ φ' H' v, Step φ h H φ' h' H' → Sim K κ φ' h' H' → RV φ' h'.length H' d v → Dn.rt v H'
  | _ => False
section
variable {K : PySem.W.Frag} {κ φ φ' φ2 : Nat → Addr} {h h' h2 : HP} {H H' H2 : Hp}
theorem EnvR.step {e : Ev} {σ : L2.St} (r : EnvR φ h.length H e σ) (S : Sim K κ φ h H) (st : Step φ h H φ' h' H') : EnvR φ' h'.length H' e σ :=
  ⟨r.len, fun i d q => by obtain ⟨v, e, rv⟩ := r.get i d q; exact ⟨v, e, rv.step S st⟩⟩
theorem EnvR.set {n : Nat} {e : Ev} {σ : L2.St} (r : EnvR φ n H e σ) {d : D} {v : V} (q : RV φ n H d v) (i : Nat) : EnvR φ n H (e.set i (some d)) (σ.set i (some v)) := by
  refine ⟨by simpa using r.len, fun j d' e' => ?_⟩
  by_cases hij : i = j
  · subst hij
    by_cases hl : i < e.length
    · rw [List.getElem?_set_self hl] at e'
      cases e'
      exact ⟨v, by rw [List.getElem?_set_self (by rw [← r.len]; exact hl)], q⟩
    · rw [List.getElem?_eq_none (by simpa using hl)] at e'; cases e'
  · rw [List.getElem?_set_ne hij] at e'
    obtain ⟨v', e1, q1⟩ := r.get j d' e'
    exact ⟨v', by rw [List.getElem?_set_ne hij]; exact e1, q1⟩
theorem EnvR.wipe {n : Nat} {e : Ev} {σ : L2.St} (r : EnvR φ n H e σ) : ∀ vs : List Nat, EnvR φ n H (wipeE e vs) (wipe σ vs)
  | [] => r
  | i :: vs => by
    have q := EnvR.wipe r vs
    refine ⟨by simpa [wipeE, L2.wipe] using q.len, fun j d e' => ?_⟩
    show ∃ v, ((L2.wipe σ vs).set i none)[j]? = some (some v) ∧ _
    have e' : ((wipeE e vs).set i none)[j]? = some (some d) := e'
    by_cases hij : i = j
    · subst hij
      by_cases hl : i < (wipeE e vs).length
      · rw [List.getElem?_set_self hl] at e'; cases e'
      · rw [List.getElem?_eq_none (by simpa using hl)] at e'; cases e'
    · rw [List.getElem?_set_ne hij] at e' ⊢
      exact q.get j d e'
theorem Post.step {r : R D} {Q : VK} (p : Post K κ φ h H r Q) (st : Step φ h H φ' h' H') : Post K κ φ' h' H' r Q := by
  cases r with
  | ok d h2 => exact fun φ2 H2 v s2 => p φ2 H2 v (st.trans s2)
  | ex c fs h2 => exact p
  | no => exact p
theorem PostA.step {r : R (List D)} {Q : List V → Hp → Prop} (p : PostA K κ φ h H r Q) (st : Step φ h H φ' h' H') : PostA K κ φ' h' H' r Q := by
  cases r with
  | ok d h2 => exact fun φ2 H2 v s2 => p φ2 H2 v (st.trans s2)
  | ex c fs h2 => exact p
  | no => exact p
theorem PostT.step {r : R Bool} {Q : Bool → Hp → Prop} (p : PostT K κ φ h H r Q) (st : Step φ h H φ' h' H') : PostT K κ φ' h' H' r Q := by
  cases r with
  | ok d h2 => exact fun φ2 H2 s2 => p φ2 H2 (st.trans s2)
  | ex c fs h2 => exact p
  | no => exact p
theorem PostO.step {r : R (Option Int)} {Q : Option Int → Hp → Prop} (p : PostO K κ φ h H r Q) (st : Step φ h H φ' h' H') : PostO K κ φ' h' H' r Q := by
  cases r with
  | ok d h2 => exact fun φ2 H2 s2 => p φ2 H2 (st.trans s2)
  | ex c fs h2 => exact p
  | no => exact p
theorem PostS.step {r : R FL} {Dn : Ends} (p : PostS K κ φ h H r Dn) (st : Step φ h H φ' h' H') : PostS K κ φ' h' H' r Dn := by
  cases r with
  | ok f h2 => cases f <;> exact fun φ2 H2 v s2 => p φ2 H2 v (st.trans s2)
  | ex c fs h2 => exact p
  | no => exact p
theorem Post.of {d : D} {h' : HP} {Q : VK} (p : Post K κ φ h H (.ok d h') Q) {v : V} (st : Step φ h H φ' h' H') (S : Sim K κ φ' h' H') (r : RV φ' h'.length H' d v) : Q v H' := p φ' H' v st S r
theorem Post.of0 {d : D} {Q : VK} (p : Post K κ φ h H (.ok d h) Q) {v : V} (S : Sim K κ φ h H) (r : RV φ h.length H d v) : Q v H := p φ H v Step.refl S r
end
end Z
/-! Z2: the hand layer's judgements with the plain evaluator as reading: expressions. -/
namespace Z
open PySem L2 PyProof.Rows

section
variable {K : PySem.W.Frag} {κ φ φ' φ2 : Nat → Addr} {h h' h2 : HP} {H H' H2 : Hp}
theorem Post.bind {α : Type} {r : R α} {f : α → HP → R D} {Q : VK} (p : Post K κ φ h H (r.bind f) Q) : ∃ a h1, r = .ok a h1 ∧ Post K κ φ h H (f a h1) Q := by
  cases r with
  | ok a h1 => exact ⟨a, h1, rfl, p⟩
  | ex c fs h1 => exact False.elim p
  | no => exact False.elim p
theorem PostA.bind {α : Type} {r : R α} {f : α → HP → R (List D)} {Q : List V → Hp → Prop} (p : PostA K κ φ h H (r.bind f) Q) : ∃ a h1, r = .ok a h1 ∧ PostA K κ φ h H (f a h1) Q := by
  cases r with
  | ok a h1 => exact ⟨a, h1, rfl, p⟩
  | ex c fs h1 => exact False.elim p
  | no => exact False.elim p
theorem PostT.bind {α : Type} {r : R α} {f : α → HP → R Bool} {Q : Bool → Hp → Prop} (p : PostT K κ φ h H (r.bind f) Q) : ∃ a h1, r = .ok a h1 ∧ PostT K κ φ h H (f a h1) Q := by
  cases r with
  | ok a h1 => exact ⟨a, h1, rfl, p⟩
  | ex c fs h1 => exact False.elim p
  | no => exact False.elim p
theorem PostO.bind {α : Type} {r : R α} {f : α → HP → R (Option Int)} {Q : Option Int → Hp → Prop} (p : PostO K κ φ h H (r.bind f) Q) : ∃ a h1, r = .ok a h1 ∧ PostO K κ φ h H (f a h1) Q := by
  cases r with
  | ok a h1 => exact ⟨a, h1, rfl, p⟩
  | ex c fs h1 => exact False.elim p
  | no => exact False.elim p
theorem PostS.bind {α : Type} {r : R α} {f : α → HP → R FL} {Dn : Ends} (p : PostS K κ φ h H (r.bind f) Dn) : ∃ a h1, r = .ok a h1 ∧ PostS K κ φ h H (f a h1) Dn := by
  cases r with
  | ok a h1 => exact ⟨a, h1, rfl, p⟩
  | ex c fs h1 => exact False.elim p
  | no => exact False.elim p
end

/-! ### readings -/
def tD (K : PySem.W.Frag) (κ : Nat → Addr) (C : Ctx) (m : ME) : TE := fun σ H Q => ∃ φ e h, Sim K κ φ h H ∧ EnvR φ h.length H e σ ∧ Post K κ φ h H (m C e h) Q
def tQ (K : PySem.W.Frag) (κ : Nat → Addr) (C : Ctx) (m : MT) : TT := fun σ H Q => ∃ φ e h, Sim K κ φ h H ∧ EnvR φ h.length H e σ ∧ PostT K κ φ h H (m C e h) Q
def tA (K : PySem.W.Frag) (κ : Nat → Addr) (C : Ctx) (m : MA) : TA := fun σ H Q => ∃ φ e h, Sim K κ φ h H ∧ EnvR φ h.length H e σ ∧ PostA K κ φ h H (m C e h) Q
def tO (K : PySem.W.Frag) (κ : Nat → Addr) (C : Ctx) (m : MO) : TO := fun σ H Q => ∃ φ e h, Sim K κ φ h H ∧ EnvR φ h.length H e σ ∧ PostO K κ φ h H (m C e h) Q
def tS (K : PySem.W.Frag) (κ : Nat → Addr) (C : Ctx) (m : MS) : TS := fun Dn σ H => ∃ φ e h, Sim K κ φ h H ∧ EnvR φ h.length H e σ ∧ PostS K κ φ h H (m C e h) Dn

structure SE (X : Cx) (κ : Nat → Addr) (C : Ctx) (e : Expr) (m : ME) : Prop where
  pe : PE X e (tD X.K κ C m)
structure ST (X : Cx) (κ : Nat → Addr) (C : Ctx) (e : Expr) (m : MT) : Prop where
  pt : PT X e (tQ X.K κ C m)
/-- a chain of and, or -/
structure SW (X : Cx) (κ : Nat → Addr) (C : Ctx) (e : Expr) (m : MT) : Prop where
  pw : PW X e (tQ X.K κ C m)
structure SA (X : Cx) (κ : Nat → Addr) (C : Ctx) (es : List Expr) (m : MA) : Prop where
  pa : PA X es (tA X.K κ C m)
structure SO (X : Cx) (κ : Nat → Addr) (C : Ctx) (e : Option Expr) (m : MO) : Prop where
  po : PO X e (tO X.K κ C m)
structure SS (X : Cx) (κ : Nat → Addr) (C : Ctx) (s : Stmt) (m : MS) : Prop where
  ps : PS X s (tS X.K κ C m)
structure SSs (X : Cx) (κ : Nat → Addr) (C : Ctx) (s : List Stmt) (m : MS) : Prop where
  pss : PSs X s (tS X.K κ C m)

section
variable {K : PySem.W.Frag} {κ φ : Nat → Addr} {h h1 : HP} {H : Hp} {C : Ctx} {e : Ev} {σ : L2.St}
theorem td_of {m : ME} {d : D} {Q : VK} (S : Sim K κ φ h H) (r : EnvR φ h.length H e σ) (q : m C e h = .ok d h1)
    (k : ∀ φ1 H1 v, Step φ h H φ1 h1 H1 → Sim K κ φ1 h1 H1 → EnvR φ1 h1.length H1 e σ → RV φ1 h1.length H1 d v → Q v H1) : tD K κ C m σ H Q :=
  ⟨φ, e, h, S, r, by rw [q]; exact fun φ1 H1 v st S1 rv => k φ1 H1 v st S1 (r.step S st) rv⟩
theorem tq_of {m : MT} {b : Bool} {Q : Bool → Hp → Prop} (S : Sim K κ φ h H) (r : EnvR φ h.length H e σ) (q : m C e h = .ok b h1)
    (k : ∀ φ1 H1, Step φ h H φ1 h1 H1 → Sim K κ φ1 h1 H1 → EnvR φ1 h1.length H1 e σ → Q b H1) : tQ K κ C m σ H Q :=
  ⟨φ, e, h, S, r, by rw [q]; exact fun φ1 H1 st S1 => k φ1 H1 st S1 (r.step S st)⟩
theorem ta_of {m : MA} {ds : List D} {Q : List V → Hp → Prop} (S : Sim K κ φ h H) (r : EnvR φ h.length H e σ) (q : m C e h = .ok ds h1)
    (k : ∀ φ1 H1 vs, Step φ h H φ1 h1 H1 → Sim K κ φ1 h1 H1 → EnvR φ1 h1.length H1 e σ → RVs φ1 h1.length H1 ds vs → Q vs H1) : tA K κ C m σ H Q :=
  ⟨φ, e, h, S, r, by rw [q]; exact fun φ1 H1 v st S1 rv => k φ1 H1 v st S1 (r.step S st) rv⟩
theorem to_of {m : MO} {b : Option Int} {Q : Option Int → Hp → Prop} (S : Sim K κ φ h H) (r : EnvR φ h.length H e σ) (q : m C e h = .ok b h1)
    (k : ∀ φ1 H1, Step φ h H φ1 h1 H1 → Sim K κ φ1 h1 H1 → EnvR φ1 h1.length H1 e σ → Q b H1) : tO K κ C m σ H Q :=
  ⟨φ, e, h, S, r, by rw [q]; exact fun φ1 H1 st S1 => k φ1 H1 st S1 (r.step S st)⟩
theorem ts_of {m : MS} {Dn : Ends} (S : Sim K κ φ h H) (r : EnvR φ h.length H e σ) (p : PostS K κ φ h H (m C e h) Dn) : tS K κ C m Dn σ H := ⟨φ, e, h, S, r, p⟩
end

section
variable {X : Cx} {κ : Nat → Addr} {C : Ctx} {a b : Expr} {ma mb : ME} {pos : Pos}
theorem SE.mk' {e : Expr} {m : ME} {t : TE} (hp : PE X e t) (k : ∀ φ ev h σ H Q, Sim X.K κ φ h H → EnvR φ h.length H ev σ → Post X.K κ φ h H (m C ev h) Q → t σ H Q) : SE X κ C e m :=
  ⟨⟨fun pins s σ H Q I ⟨φ, ev, h, S, r, p⟩ => hp.run pins s σ H Q I (k φ ev h σ H Q S r p)⟩⟩
theorem ST.mk' {e : Expr} {m : MT} {t : TT} (hp : PT X e t) (k : ∀ φ ev h σ H Q, Sim X.K κ φ h H → EnvR φ h.length H ev σ → PostT X.K κ φ h H (m C ev h) Q → t σ H Q) : ST X κ C e m :=
  ⟨⟨fun pins s σ H Q I ⟨φ, ev, h, S, r, p⟩ => hp.run pins s σ H Q I (k φ ev h σ H Q S r p)⟩⟩
theorem SW.mk' {e : Expr} {m : MT} {t : TT} (hp : PW X e t) (k : ∀ φ ev h σ H Q, Sim X.K κ φ h H → EnvR φ h.length H ev σ → PostT X.K κ φ h H (m C ev h) Q → t σ H Q) : SW X κ C e m :=
  ⟨⟨fun whole pins s σ H Q I ⟨φ, ev, h, S, r, p⟩ => hp.run whole pins s σ H Q I (k φ ev h σ H Q S r p)⟩⟩
theorem SA.mk' {es : List Expr} {m : MA} {t : TA} (hp : PA X es t) (k : ∀ φ ev h σ H Q, Sim X.K κ φ h H → EnvR φ h.length H ev σ → PostA X.K κ φ h H (m C ev h) Q → t σ H Q) : SA X κ C es m :=
  ⟨⟨fun pos pins s σ H Q I ⟨φ, ev, h, S, r, p⟩ => hp.run pos pins s σ H Q I (k φ ev h σ H Q S r p)⟩⟩
theorem SO.mk' {e : Option Expr} {m : MO} {t : TO} (hp : PO X e t) (k : ∀ φ ev h σ H Q, Sim X.K κ φ h H → EnvR φ h.length H ev σ → PostO X.K κ φ h H (m C ev h) Q → t σ H Q) : SO X κ C e m := by
  constructor
  constructor
  intro pins s σ H Q I ⟨φ, ev, h, S, r, p⟩
  exact hp.run pins s σ H Q I (k φ ev h σ H Q S r p)
theorem SS.mk' {st : Stmt} {m : MS} {t : TS} (hp : PS X st t) (k : ∀ φ ev h σ H Dn, Sim X.K κ φ h H → EnvR φ h.length H ev σ → PostS X.K κ φ h H (m C ev h) Dn → t Dn σ H) : SS X κ C st m :=
  ⟨⟨fun pins s σ H Dn I ⟨φ, ev, h, S, r, p⟩ => hp.run pins s σ H Dn I (k φ ev h σ H Dn S r p)⟩⟩
theorem SSs.mk' {st : List Stmt} {m : MS} {t : TS} (hp : PSs X st t) (k : ∀ φ ev h σ H Dn, Sim X.K κ φ h H → EnvR φ h.length H ev σ → PostS X.K κ φ h H (m C ev h) Dn → t Dn σ H) : SSs X κ C st m :=
  ⟨⟨fun pins s σ H Dn I ⟨φ, ev, h, S, r, p⟩ => hp.run pins s σ H Dn I (k φ ev h σ H Dn S r p)⟩⟩

/-! ### names, constants -/
theorem se_v (i : Nat) {x : Str} {pos : Pos} (hN : X.N[i]? = some x := by rfl) (hv : Vis X.env.scope x := by first | exact Or.inl rfl | exact Or.inr (Or.inl rfl) | exact Or.inr (Or.inr rfl)) (hd : (x == ("__debug__" : Str)) = false := by decide)
    (hcd : (x == ("__classdict__" : Str)) = false := by decide) : SE X κ C (.Name x pos) (eV i) :=
  SE.mk' (pe_var hN hv hd hcd) fun φ ev h σ H Q S r p => by
    unfold eV at p
    split at p
    · rename_i d e
      obtain ⟨v, e1, q⟩ := r.get i d e
      exact ⟨v, e1, p.of0 S q⟩
    · exact False.elim p
theorem se_int {i : Int} {j : Nat} {pos : Pos} : SE X κ C (.Constant (.int i) j pos) (eC (.int i)) := SE.mk' pe_int fun φ ev h σ H Q S r p => p.of0 S (by simp [RV])
theorem se_bl {b : Bool} {j : Nat} {pos : Pos} : SE X κ C (.Constant (.bool b) j pos) (eC (.bl b)) := SE.mk' pe_bl fun φ ev h σ H Q S r p => p.of0 S (by simp [RV])
theorem se_non {j : Nat} {pos : Pos} : SE X κ C (.Constant .none j pos) (eC .non) := SE.mk' pe_non fun φ ev h σ H Q S r p => p.of0 S (by simp [RV])
theorem se_str {x : Str} {j : Nat} {pos : Pos} : SE X κ C (.Constant (.str x) j pos) (eC (.str x)) := SE.mk' pe_str fun φ ev h σ H Q S r p => p.of0 S (by simp [RV])
theorem se_gi {x : Str} {i : Int} {pos : Pos} {t : Tok} (hm : X.mg x = some (.int i t)) (hg : Gl X x := by rfl) (hd : (x == ("__debug__" : Str)) = false := by decide) : SE X κ C (.Name x pos) (eC (.int i)) :=
  SE.mk' (pe_glob (v := .int i) hg hm ⟨_, rfl⟩ hd) fun φ ev h σ H Q S r p => p.of0 S (by simp [RV])
theorem se_gs {x z : Str} {pos : Pos} {t : Tok} (hm : X.mg x = some (.str z t)) (hg : Gl X x := by rfl) (hd : (x == ("__debug__" : Str)) = false := by decide) : SE X κ C (.Name x pos) (eC (.str z)) :=
  SE.mk' (pe_glob (v := .str z) hg hm ⟨_, rfl⟩ hd) fun φ ev h σ H Q S r p => p.of0 S (by simp [RV])

/-! ### operators -/
def rD (K : PySem.W.Frag) (κ : Nat → Addr) (op : D → D → HP → R D) : R2 := fun x y H Q => ∃ φ h dx dy, Sim K κ φ h H ∧ RV φ h.length H dx x ∧ RV φ h.length H dy y ∧ Post K κ φ h H (op dx dy h) Q
def rDU (K : PySem.W.Frag) (κ : Nat → Addr) (op : D → HP → R D) : V → Hp → VK → Prop := fun x H Q => ∃ φ h dx, Sim K κ φ h H ∧ RV φ h.length H dx x ∧ Post K κ φ h H (op dx h) Q
theorem se_op {o : Operator} {op : D → D → HP → R D} (ho : OpR X (binaryOp o) (rD X.K κ op)) (ha : SE X κ C a ma) (hb : SE X κ C b mb) : SE X κ C (.BinOp a o b pos) (eOp op ma mb) :=
  SE.mk' (pe_op ho ha.pe hb.pe) fun φ ev h σ H Q S r p => by
    obtain ⟨dx, h1, e1, p⟩ := Post.bind p
    obtain ⟨dy, h2, e2, p⟩ := Post.bind p
    exact td_of S r e1 fun φ1 H1 v st S1 r1 q1 => td_of S1 r1 e2 fun φ2 H2 w st2 S2 r2 q2 => ⟨φ2, h2, dx, dy, S2, q1.step S1 st2, q2, p.step (st.trans st2)⟩
theorem se_un {o : UnaryOp} {op : D → HP → R D} (ho : UnR X (unaryOp o) (rDU X.K κ op)) (ha : SE X κ C a ma) : SE X κ C (.UnaryOp o a pos) (eUn op ma) :=
  SE.mk' (pe_un ho ha.pe) fun φ ev h σ H Q S r p => by
    obtain ⟨dx, h1, e1, p⟩ := Post.bind p
    exact td_of S r e1 fun φ1 H1 v st S1 r1 q1 => ⟨φ1, h1, dx, S1, q1, p.step st⟩
theorem se_cmp {o : CmpOp} {op : D → D → HP → R D} (ho : OpR X (compareOp o) (rD X.K κ op)) (ha : SE X κ C a ma) (hb : SE X κ C b mb) (hm : behindInMarks o b = false) : SE X κ C (.Compare a [o] [b] pos) (eOp op ma mb) :=
  SE.mk' (pe_cmpR ho ha.pe hb.pe hm) fun φ ev h σ H Q S r p => by
    obtain ⟨dx, h1, e1, p⟩ := Post.bind p
    obtain ⟨dy, h2, e2, p⟩ := Post.bind p
    exact td_of S r e1 fun φ1 H1 v st S1 r1 q1 => td_of S1 r1 e2 fun φ2 H2 w st2 S2 r2 q2 => ⟨φ2, h2, dx, dy, S2, q1.step S1 st2, q2, p.step (st.trans st2)⟩
end

/-! ### what the operators do -/
def opAdd : D → D → HP → R D := fun x y h => match x, y with
  | .int i, .int j => .ok (.int (i + j)) h
  | .str a, .str b => if a.length + b.length ≤ sizeLine then .ok (.str (a ++ b)) h else .no
  | .tup a, .tup b => if a.length + b.length ≤ sizeLine then .ok (.tup (a ++ b)) h else .no
  | .ref i, .ref j => match h[i]?, h[j]? with
    | some (.lst a), some (.lst b) => if a.length + b.length ≤ sizeLine then .ok (.ref h.length) (h ++ [.lst (a ++ b)]) else .no
    | _, _ => .no
  | _, _ => .no
def opSub : D → D → HP → R D := fun x y h => match x, y with
  | .int i, .int j => .ok (.int (i - j)) h
  | _, _ => .no
def mulOk (i j : Int) : Bool := decide (i.natAbs.log2 + j.natAbs.log2 < 100000000)
def opMul : D → D → HP → R D := fun x y h => match x, y with
  | .int i, .int j => if mulOk i j = true then .ok (.int (i * j)) h else .no
  | .ref i, .int k => match h[i]? with
    | some (.lst a) => if -(2 ^ 63) ≤ k ∧ k < 2 ^ 63 ∧ a.length * k.toNat ≤ sizeLine then .ok (.ref h.length) (h ++ [.lst (List.replicate k.toNat a).flatten]) else .no
    | _ => .no
  | .str a, .int k => if a.length ≤ 1000 ∧ k.natAbs ≤ 1000 then .ok (.str (Txt.mul a k)) h else .no
  | _, _ => .no
def divOk (j : Int) : Bool := decide (j ≠ 0) && decide (j.natAbs.log2 < 9000)
def opDiv : D → D → HP → R D := fun x y h => match x, y with
  | .int i, .int j => if divOk j = true then .ok (.int (i.fdiv j)) h else .no
  | _, _ => .no
def opMod : D → D → HP → R D := fun x y h => match x, y with
  | .int i, .int j => if j ≠ 0 then .ok (.int (i.fmod j)) h else .no
  | _, _ => .no
def opPow : D → D → HP → R D := fun x y h => match x, y with
  | .int i, .int j => if 0 ≤ j ∧ j ≤ 1000000 ∧ i.natAbs < 2 ^ 64 then .ok (.int (i ^ j.toNat)) h else .no
  | _, _ => .no
def opNeg : D → HP → R D := fun x h => match x with
  | .int i => .ok (.int (-i)) h
  | _ => .no
def opLt : D → D → HP → R D := fun x y h => match x, y with
  | .int i, .int j => .ok (.bl (decide (i < j))) h
  | _, _ => .no
def opLe : D → D → HP → R D := fun x y h => match x, y with
  | .int i, .int j => .ok (.bl (decide (i ≤ j))) h
  | _, _ => .no
def opGt : D → D → HP → R D := fun x y h => match x, y with
  | .int i, .int j => .ok (.bl (decide (j < i))) h
  | _, _ => .no
def opGe : D → D → HP → R D := fun x y h => match x, y with
  | .int i, .int j => .ok (.bl (decide (j ≤ i))) h
  | _, _ => .no
def isNon : D → Bool
  | .non => true
  | _ => false
def opIsN : D → D → HP → R D := fun x y h => match y with
  | .non => .ok (.bl (isNon x)) h
  | _ => .no
def opNotN : D → D → HP → R D := fun x y h => match y with
  | .non => .ok (.bl (!isNon x)) h
  | _ => .no

section
variable {X : Cx} {κ : Nat → Addr}
theorem RV.int_iff {φ : Nat → Addr} {n : Nat} {H : Hp} {i : Int} {v : V} : RV φ n H (.int i) v ↔ v = .int i := by simp [RV]
theorem RV.bl_iff {φ : Nat → Addr} {n : Nat} {H : Hp} {i : Bool} {v : V} : RV φ n H (.bl i) v ↔ v = .bl i := by simp [RV]
theorem RV.str_iff {φ : Nat → Addr} {n : Nat} {H : Hp} {i : Str} {v : V} : RV φ n H (.str i) v ↔ v = .str i := by simp [RV]
theorem RV.non_iff {φ : Nat → Addr} {n : Nat} {H : Hp} {v : V} : RV φ n H .non v ↔ v = .non := by simp [RV]
theorem RV.ref_iff {φ : Nat → Addr} {n i : Nat} {H : Hp} {v : V} : RV φ n H (.ref i) v ↔ i < n ∧ v = .ref (φ i) := by simp [RV]
theorem RV.tup_iff {φ : Nat → Addr} {n : Nat} {H : Hp} {ds : List D} {v : V} : RV φ n H (.tup ds) v ↔ ∃ p vs, v = .ref p ∧ H p = some (.tup vs) ∧ RVs φ n H ds vs := by simp [RV]
/-- a new list is laid -/
theorem Post.newL {K : PySem.W.Frag} {φ : Nat → Addr} {h : HP} {H : Hp} {ds : List D} {vs : List V} {Q : VK} {p : Addr} (q : Post K κ φ h H (.ok (.ref h.length) (h ++ [.lst ds])) Q) (S : Sim K κ φ h H) (hp : H p = none) (r : RVs φ h.length H ds vs) : Q (.ref p) (upd H p (.lst vs)) := by
  have st := step_new S (o := .lst ds) (u := .lst vs) hp
  exact q _ _ _ st (S.new hp fun st => ⟨vs, upd_same, r.step S st⟩) (RV.ref_iff.mpr ⟨by simp, by rw [ext_at]⟩)
/-- a new tuple is laid -/
theorem Post.newT {K : PySem.W.Frag} {φ : Nat → Addr} {h : HP} {H : Hp} {ds : List D} {vs : List V} {Q : VK} {p : Addr} (q : Post K κ φ h H (.ok (.tup ds) h) Q) (S : Sim K κ φ h H) (hp : H p = none) (r : RVs φ h.length H ds vs) : Q (.ref p) (upd H p (.tup vs)) := by
  have st := step_temp S (u := .tup vs) hp
  exact q _ _ _ st (S.temp hp) (RV.tup_iff.mpr ⟨p, vs, rfl, upd_same, r.step S st⟩)
theorem Sim.lst {K : PySem.W.Frag} {φ : Nat → Addr} {h : HP} {H : Hp} {i : Nat} {ds : List D} (S : Sim K κ φ h H) (e : h[i]? = some (.lst ds)) : ∃ vs, H (φ i) = some (.lst vs) ∧ RVs φ h.length H ds vs := S.obj i _ e
theorem Sim.dic {K : PySem.W.Frag} {φ : Nat → Addr} {h : HP} {H : Hp} {i : Nat} {ds : List (Key × D)} (S : Sim K κ φ h H) (e : h[i]? = some (.dic ds)) : ∃ vs, H (φ i) = some (.dK vs) ∧ RKs φ h.length H ds vs := S.obj i _ e
theorem Sim.dct {K : PySem.W.Frag} {φ : Nat → Addr} {h : HP} {H : Hp} {i : Nat} {ds : List (List Key × D)} (S : Sim K κ φ h H) (e : h[i]? = some (.dct ds)) : ∃ vs, H (φ i) = some (.dT vs) ∧ RKs φ h.length H ds vs := S.obj i _ e
theorem Sim.ins {K : PySem.W.Frag} {φ : Nat → Addr} {h : HP} {H : Hp} {i c : Nat} {ds : List (Str × D)} (S : Sim K κ φ h H) (e : h[i]? = some (.ins c ds)) : ∃ dx vs, H (φ i) = some (.ins (κ c) dx vs) ∧ RKs φ h.length H ds vs := S.obj i _ e
theorem Sim.isL {K : PySem.W.Frag} {φ : Nat → Addr} {h : HP} {H : Hp} {i : Nat} {ds : List D} (S : Sim K κ φ h H) (e : isL i h = some ds) : ∃ vs, SqL K H (φ i) vs ∧ RVs φ h.length H ds vs := by
  unfold Z.isL at e
  split at e
  · rename_i xs e1
    cases e
    obtain ⟨vs, e2, r⟩ := S.lst e1
    exact ⟨vs, SqL.of e2, r⟩
  · rename_i xs e1
    cases e
    obtain ⟨vs, e2, r⟩ := S.obj i _ e1
    refine ⟨vs, ?_, r⟩
    rcases e2 with ⟨o, e2⟩ | e2
    · exact .inl (.inr ⟨o, e2⟩)
    · exact .inr e2
  · cases e
theorem od_add : OpR X (binaryOp .Add) (rD X.K κ opAdd) := by
  intro pins s σ H x y v u Q I rx ry ⟨φ, h, dx, dy, S, qx, qy, p⟩
  unfold opAdd at p
  split at p
  · rw [RV.int_iff] at qx qy
    exact op_add pins s σ H _ _ v u Q I rx ry ⟨_, _, qx, qy, p.of0 S (RV.int_iff.mpr rfl)⟩
  · split at p
    · rename_i hz
      rw [RV.str_iff] at qx qy
      exact op_add_str pins s σ H _ _ v u Q I rx ry ⟨_, _, qx, qy, hz, p.of0 S (RV.str_iff.mpr rfl)⟩
    · exact False.elim p
  · split at p
    · rename_i hz
      rw [RV.tup_iff] at qx qy
      obtain ⟨a, vs, rfl, ha, ra⟩ := qx
      obtain ⟨b, us, rfl, hb, rb⟩ := qy
      have la := ra.len
      have lb := rb.len
      refine op_catA pins s σ H _ _ v u Q I rx ry ⟨a, b, vs, us, rfl, rfl, SqT.of ha, SqT.of hb, by omega, fun z => ?_, fun _ z => ?_, fun _ _ q hq => ?_⟩
      · subst z
        refine p.of0 S (RV.tup_iff.mpr ⟨b, us, rfl, hb, ?_⟩)
        have : RVs φ h.length H _ ([] ++ us) := ra.append rb
        simpa using this
      · subst z
        refine p.of0 S (RV.tup_iff.mpr ⟨a, vs, rfl, ha, ?_⟩)
        have : RVs φ h.length H _ (vs ++ []) := ra.append rb
        simpa using this
      · exact p.newT S hq (ra.append rb)
    · exact False.elim p
  · rw [RV.ref_iff] at qx qy
    split at p
    · rename_i e1 e2
      split at p
      · rename_i hz
        obtain ⟨vs, ha, ra⟩ := S.lst e1
        obtain ⟨us, hb, rb⟩ := S.lst e2
        have la := ra.len
        have lb := rb.len
        exact op_cat pins s σ H _ _ v u Q I rx ry ⟨_, _, vs, us, qx.2, qy.2, ha, hb, by omega, fun q hq => p.newL S hq (ra.append rb)⟩
      · exact False.elim p
    · exact False.elim p
  · exact False.elim p
theorem od_sub : OpR X (binaryOp .Sub) (rD X.K κ opSub) := by
  intro pins s σ H x y v u Q I rx ry ⟨φ, h, dx, dy, S, qx, qy, p⟩
  unfold opSub at p
  split at p
  · rw [RV.int_iff] at qx qy
    exact op_sub pins s σ H _ _ v u Q I rx ry ⟨_, _, qx, qy, p.of0 S (RV.int_iff.mpr rfl)⟩
  · exact False.elim p
theorem mul_ok {i j : Int} (h : mulOk i j = true) : IntMulOk i j := by
  have b : ∀ x : Int, Builtin.Int.intBits x ≤ x.natAbs.log2 + 1 := fun x => by
    unfold Builtin.Int.intBits
    split <;> omega
  have h1 := b i
  have h2 := b j
  have h3 : i.natAbs.log2 + j.natAbs.log2 < 100000000 := of_decide_eq_true h
  have e : bitsLine = 134217728 := by decide
  unfold IntMulOk
  intro z
  rw [Bool.and_eq_true] at z
  have z2 := z.2
  unfold Builtin.Int.intTooBig at z2
  have z3 := of_decide_eq_true z2
  rw [e] at z3
  omega
theorem RVs.flat {φ : Nat → Addr} {n : Nat} {H : Hp} {ds : List D} {vs : List V} (r : RVs φ n H ds vs) : ∀ k : Nat, RVs φ n H (List.replicate k ds).flatten (List.replicate k vs).flatten
  | 0 => by simp [RVs]
  | k + 1 => by
    simp only [List.replicate_succ, List.flatten_cons]
    exact r.append (RVs.flat r k)
theorem mulS_ok {a : Str} {k : Int} (h1 : a.length ≤ 1000) (h2 : k.natAbs ≤ 1000) : PySem.MulOk a k := by
  refine ⟨?_, fun h3 _ h4 => ?_, fun h3 _ => ?_⟩
  · rw [Bool.or_eq_false_iff]
    exact ⟨decide_eq_false (by omega), decide_eq_false (by omega)⟩
  · have h5 : (a.length : Int) ≤ (2 ^ 63 - 1) / k := by
      rw [Int.le_ediv_iff_mul_le (by omega)]
      have : (a.length : Int) * k ≤ 1000 * 1000 := Int.mul_le_mul (by omega) (by omega) (by omega) (by decide)
      omega
    omega
  · have h5 : a.length * k.toNat ≤ 1000 * 1000 := Nat.mul_le_mul h1 (by omega)
    unfold Builtin.Str.tooLong
    rw [decide_eq_false_iff_not, sizeLine_eq]
    omega
theorem od_mul : OpR X (binaryOp .Mult) (rD X.K κ opMul) := by
  intro pins s σ H x y v u Q I rx ry ⟨φ, h, dx, dy, S, qx, qy, p⟩
  unfold opMul at p
  split at p
  · split at p
    · rename_i hz
      rw [RV.int_iff] at qx qy
      exact (opI (C := fun i j => mulOk i j = true) (g := fun i j => i * j) fun _ _ _ _ _ _ _ hc q => mul_int q (mul_ok hc)) pins s σ H _ _ v u Q I rx ry ⟨_, _, qx, qy, hz, p.of0 S (RV.int_iff.mpr rfl)⟩
    · exact False.elim p
  · split at p
    · rename_i e1
      split at p
      · rename_i hz
        rw [RV.ref_iff] at qx
        rw [RV.int_iff] at qy
        obtain ⟨vs, ha, ra⟩ := S.lst e1
        have la := ra.len
        exact op_rep pins s σ H _ _ v u Q I rx ry ⟨_, _, vs, qx.2, qy, ha, hz.1, hz.2.1, by rw [la]; exact hz.2.2, fun q hq => p.newL S hq (ra.flat _)⟩
      · exact False.elim p
    · exact False.elim p
  · rename_i a k
    split at p
    · rename_i hz
      rw [RV.str_iff] at qx
      rw [RV.int_iff] at qy
      subst qx qy
      obtain ⟨t1, rfl⟩ := rx
      obtain ⟨t2, rfl⟩ := ry
      exact PySem.SB.mul (mulS_ok hz.1 hz.2) fun t' kk => ⟨.str (Txt.mul a k), H, I.tok _, ⟨_, rfl⟩, p.of0 S (RV.str_iff.mpr rfl)⟩
    · exact False.elim p
  · exact False.elim p
theorem od_div : OpR X (binaryOp .FloorDiv) (rD X.K κ opDiv) := by
  intro pins s σ H x y v u Q I rx ry ⟨φ, h, dx, dy, S, qx, qy, p⟩
  unfold opDiv at p
  split at p
  · split at p
    · rename_i hz
      rw [RV.int_iff] at qx qy
      exact (opI (C := fun _ j => divOk j = true) (g := fun i j => i.fdiv j) fun _ _ _ _ _ _ _ hc q => by
        unfold divOk at hc
        rw [Bool.and_eq_true] at hc
        exact floordiv_int (of_decide_eq_true hc.1) q (.inl (PyProof.noPylong_of_log2 (of_decide_eq_true hc.2)))) pins s σ H _ _ v u Q I rx ry ⟨_, _, qx, qy, hz, p.of0 S (RV.int_iff.mpr rfl)⟩
    · exact False.elim p
  · exact False.elim p
theorem od_mod : OpR X (binaryOp .Mod) (rD X.K κ opMod) := by
  intro pins s σ H x y v u Q I rx ry ⟨φ, h, dx, dy, S, qx, qy, p⟩
  unfold opMod at p
  split at p
  · split at p
    · rename_i hz
      rw [RV.int_iff] at qx qy
      exact op_modN pins s σ H _ _ v u Q I rx ry ⟨_, _, qx, qy, hz, p.of0 S (RV.int_iff.mpr rfl)⟩
    · exact False.elim p
  · exact False.elim p
theorem od_pow : OpR X (binaryOp .Pow) (rD X.K κ opPow) := by
  intro pins s σ H x y v u Q I rx ry ⟨φ, h, dx, dy, S, qx, qy, p⟩
  unfold opPow at p
  split at p
  · split at p
    · rename_i hz
      rw [RV.int_iff] at qx qy
      exact op_pow pins s σ H _ _ v u Q I rx ry ⟨_, _, qx, qy, hz, p.of0 S (RV.int_iff.mpr rfl)⟩
    · exact False.elim p
  · exact False.elim p
theorem od_neg : UnR X (unaryOp .USub) (rDU X.K κ opNeg) := by
  intro pins s σ H x v Q I rx ⟨φ, h, dx, S, qx, p⟩
  unfold opNeg at p
  split at p
  · rw [RV.int_iff] at qx
    exact un_neg pins s σ H _ v Q I rx ⟨_, qx, p.of0 S (RV.int_iff.mpr rfl)⟩
  · exact False.elim p
theorem od_lt : OpR X (compareOp .Lt) (rD X.K κ opLt) := by
  intro pins s σ H x y v u Q I rx ry ⟨φ, h, dx, dy, S, qx, qy, p⟩
  unfold opLt at p
  split at p
  · rw [RV.int_iff] at qx qy
    exact op_lt pins s σ H _ _ v u Q I rx ry ⟨_, _, qx, qy, p.of0 S (RV.bl_iff.mpr rfl)⟩
  · exact False.elim p
theorem od_le : OpR X (compareOp .LtE) (rD X.K κ opLe) := by
  intro pins s σ H x y v u Q I rx ry ⟨φ, h, dx, dy, S, qx, qy, p⟩
  unfold opLe at p
  split at p
  · rw [RV.int_iff] at qx qy
    exact op_le pins s σ H _ _ v u Q I rx ry ⟨_, _, qx, qy, p.of0 S (RV.bl_iff.mpr rfl)⟩
  · exact False.elim p
theorem od_gt : OpR X (compareOp .Gt) (rD X.K κ opGt) := by
  intro pins s σ H x y v u Q I rx ry ⟨φ, h, dx, dy, S, qx, qy, p⟩
  unfold opGt at p
  split at p
  · rw [RV.int_iff] at qx qy
    exact op_gt pins s σ H _ _ v u Q I rx ry ⟨_, _, qx, qy, p.of0 S (RV.bl_iff.mpr rfl)⟩
  · exact False.elim p
theorem od_ge : OpR X (compareOp .GtE) (rD X.K κ opGe) := by
  intro pins s σ H x y v u Q I rx ry ⟨φ, h, dx, dy, S, qx, qy, p⟩
  unfold opGe at p
  split at p
  · rw [RV.int_iff] at qx qy
    exact op_ge pins s σ H _ _ v u Q I rx ry ⟨_, _, qx, qy, p.of0 S (RV.bl_iff.mpr rfl)⟩
  · exact False.elim p
theorem isNon_eq {φ : Nat → Addr} {n : Nat} {H : Hp} {d : D} {v : V} (q : RV φ n H d v) : decide (v = .non) = isNon d := by
  cases d with
  | non => rw [RV.non_iff] at q; subst q; rfl
  | bl b => rw [RV.bl_iff] at q; subst q; rfl
  | int b => rw [RV.int_iff] at q; subst q; rfl
  | str b => rw [RV.str_iff] at q; subst q; rfl
  | ref b => rw [RV.ref_iff] at q; rw [q.2]; rfl
  | tup b => rw [RV.tup_iff] at q; obtain ⟨p, vs, rfl, _⟩ := q; rfl
theorem od_isN : OpR X (compareOp .Is) (rD X.K κ opIsN) := by
  intro pins s σ H x y v u Q I rx ry ⟨φ, h, dx, dy, S, qx, qy, p⟩
  unfold opIsN at p
  split at p
  · rw [RV.non_iff] at qy
    exact op_isN pins s σ H _ _ v u Q I rx ry ⟨qy, p.of0 S (RV.bl_iff.mpr (by rw [isNon_eq qx]))⟩
  · exact False.elim p
theorem od_notN : OpR X (compareOp .IsNot) (rD X.K κ opNotN) := by
  intro pins s σ H x y v u Q I rx ry ⟨φ, h, dx, dy, S, qx, qy, p⟩
  unfold opNotN at p
  split at p
  · rw [RV.non_iff] at qy
    exact op_notN pins s σ H _ _ v u Q I rx ry ⟨qy, p.of0 S (RV.bl_iff.mpr (by rw [isNon_eq qx]))⟩
  · exact False.elim p
end
end Z
/-! Z3: equality, tests, displays, subscripts, calls. -/
namespace Z
open PySem L2 PyProof.Rows

/-! ### data of any depth -/
def seqO {α : Type} : List (Option α) → Option (List α)
  | [] => some []
  | none :: _ => none
  | some a :: r => (seqO r).map fun l => a :: l
def toPy : Nat → HP → D → Option PyData
  | _, _, .non => some .none
  | _, _, .bl b => some (.bool b)
  | _, _, .int i => some (.int i)
  | _, _, .str x => some (.str x)
  | 0, _, _ => none
  | n + 1, h, .tup ds => (seqO (ds.map (toPy n h))).map .tuple
  | n + 1, h, .ref i => match isL i h with
    | some ds => (seqO (ds.map (toPy n h))).map .list
    | none => none
def deepN : Nat := 70
def eqFlat : D → D → Option Bool
  | .int i, .int j => some (decide (i = j))
  | .str a, .str b => some (decide (a = b))
  | .bl a, .bl b => some (decide (a = b))
  | .non, .non => some true
  | .non, .int _ => some false
  | .int _, .non => some false
  | .non, .str _ => some false
  | .str _, .non => some false
  | .non, .bl _ => some false
  | .bl _, .non => some false
  | .int _, .str _ => some false
  | .str _, .int _ => some false
  | _, _ => none
def deepEq (x y : D) (h : HP) : Option Bool := match toPy deepN h x, toPy deepN h y with
  | some a, some b => if SeqAt.shaped a = true ∧ SeqAt.shaped b = true then some (PyData.eqv a b) else none
  | _, _ => none
def eqD (x y : D) (h : HP) : Option Bool := match eqFlat x y with
  | some b => some b
  | none => deepEq x y h
def opEq : D → D → HP → R D := fun x y h => match eqD x y h with
  | some b => .ok (.bl b) h
  | none => .no
def opNe : D → D → HP → R D := fun x y h => match eqD x y h with
  | some b => .ok (.bl (!b)) h
  | none => .no
/-- x in a list, a tuple of flat things, one sign in a text, a key in a dict -/
def flatD : D → Bool
  | .non => true
  | .bl _ => true
  | .int _ => true
  | .str _ => true
  | _ => false
def keyD : D → Option Key
  | .int i => some (.inl i)
  | .str x => some (.inr x)
  | _ => none
def keysD : List D → Option (List Key) := fun ds => seqO (ds.map keyD)
section
variable {κ : Type} [DecidableEq κ]
def valD (kvs : List (κ × D)) (k : κ) : Option D := (kvs.find? fun kv => decide (kv.1 = k)).map (·.2)
def putKD (kvs : List (κ × D)) (k : κ) (v : D) : List (κ × D) := if (kvs.any fun kv => decide (kv.1 = k)) = true then kvs.map (fun kv => if kv.1 = k then (kv.1, v) else kv) else kvs ++ [(k, v)]
end
def inFlat (x : D) : List D → Option Bool
  | [] => some false
  | y :: r => match eqFlat y x with
    | some true => some true
    | some false => inFlat x r
    | none => none
def inDeep (x : D) (ds : List D) (h : HP) : Option Bool := match toPy deepN h x, seqO (ds.map (toPy deepN h)) with
  | some a, some bs => if SeqAt.shaped a = true ∧ SeqAt.shaped (.list bs) = true then some (bs.any fun z => PyData.eqv z a) else none
  | _, _ => none
def inD (x y : D) (h : HP) : Option Bool := match y with
  | .ref i => match h[i]? with
    | some (.dic kvs) => match keyD x with
      | some k => some (valD kvs k).isSome
      | none => none
    | some (.dct kvs) => match x with
      | .tup ds => match keysD ds with
        | some k => some (valD kvs k).isSome
        | none => none
      | _ => none
    | _ => match isL i h with
      | some ds => if flatD x = true ∧ ds.all flatD = true then inFlat x ds else inDeep x ds h
      | none => none
  | .tup ds => if flatD x = true ∧ ds.all flatD = true then inFlat x ds else none
  | .str z => match x with
    | .str c => match c.cps.toList with
      | [k] => some (decide (k ∈ z.cps.toList))
      | _ => none
    | _ => none
  | _ => none
def opIn : D → D → HP → R D := fun x y h => match inD x y h with
  | some b => .ok (.bl b) h
  | none => .no
def opNin : D → D → HP → R D := fun x y h => match inD x y h with
  | some b => .ok (.bl (!b)) h
  | none => .no

section
variable {K : PySem.W.Frag} {κ φ : Nat → Addr} {h : HP} {H : Hp}
theorem dpAll_of {n : Nat} (ih : ∀ d v a, toPy n h d = some a → RV φ h.length H d v → Dp K H v a) : ∀ {ds : List D} {vs : List V} {as : List PyData}, seqO (ds.map (toPy n h)) = some as → RVs φ h.length H ds vs → DpAll K H vs as
  | [], vs, as, e, r => by
    simp only [List.map_nil, seqO, Option.some.injEq] at e
    simp only [RVs] at r
    subst e r
    exact .nil
  | d :: ds, vs, as, e, r => by
    simp only [List.map_cons] at e
    simp only [RVs] at r
    obtain ⟨v, r', rfl, q1, q2⟩ := r
    cases e1 : toPy n h d with
    | none => rw [e1] at e; simp [seqO] at e
    | some a =>
      rw [e1] at e
      simp only [seqO] at e
      cases e2 : seqO (ds.map (toPy n h)) with
      | none => rw [e2] at e; simp at e
      | some as' =>
        rw [e2] at e
        simp only [Option.map_some, Option.some.injEq] at e
        subst e
        exact .cons (ih d v a e1 q1) (dpAll_of ih e2 q2)
theorem dp_of (S : Sim K κ φ h H) : ∀ (n : Nat) (d : D) (v : V) (a : PyData), toPy n h d = some a → RV φ h.length H d v → Dp K H v a
  | n, .non, v, a, e, r => by
    rw [RV.non_iff] at r; subst r
    cases n <;> (simp only [toPy, Option.some.injEq] at e; subst e; exact .non)
  | n, .bl b, v, a, e, r => by
    rw [RV.bl_iff] at r; subst r
    cases n <;> (simp only [toPy, Option.some.injEq] at e; subst e; exact .bl b)
  | n, .int b, v, a, e, r => by
    rw [RV.int_iff] at r; subst r
    cases n <;> (simp only [toPy, Option.some.injEq] at e; subst e; exact .int b)
  | n, .str b, v, a, e, r => by
    rw [RV.str_iff] at r; subst r
    cases n <;> (simp only [toPy, Option.some.injEq] at e; subst e; exact .str b)
  | 0, .tup ds, v, a, e, r => by simp [toPy] at e
  | 0, .ref i, v, a, e, r => by simp [toPy] at e
  | n + 1, .tup ds, v, a, e, r => by
    rw [RV.tup_iff] at r
    obtain ⟨p, vs, rfl, hp, r⟩ := r
    simp only [toPy] at e
    cases e2 : seqO (ds.map (toPy n h)) with
    | none => rw [e2] at e; simp at e
    | some as =>
      rw [e2] at e
      simp only [Option.map_some, Option.some.injEq] at e
      subst e
      exact .tup (SqT.of hp) (dpAll_of (fun d v a => dp_of S n d v a) e2 r)
  | n + 1, .ref i, v, a, e, r => by
    rw [RV.ref_iff] at r
    obtain ⟨hi, rfl⟩ := r
    simp only [toPy] at e
    split at e
    · rename_i ds hl
      obtain ⟨vs, hs, r⟩ := S.isL hl
      cases e2 : seqO (ds.map (toPy n h)) with
      | none => rw [e2] at e; simp at e
      | some as =>
        rw [e2] at e
        simp only [Option.map_some, Option.some.injEq] at e
        subst e
        exact .lst hs (dpAll_of (fun d v a => dp_of S n d v a) e2 r)
    · cases e
theorem eqFlat_of {n : Nat} {x y : D} {v u : V} {b : Bool} (e : eqFlat x y = some b) (rx : RV φ n H x v) (ry : RV φ n H y u) : scal v u = true ∧ decide (v = u) = b := by
  unfold eqFlat at e
  split at e <;> first
    | (simp only [RV.int_iff, RV.str_iff, RV.bl_iff, RV.non_iff] at rx ry
       subst rx ry
       cases e
       simp [scal])
    | cases e
theorem flat_eq {n : Nat} {x y : D} {v u : V} {b : Bool} (e : eqFlat x y = some b) (rx : RV φ n H x v) (ry : RV φ n H y u) : eqV v u = b := by
  unfold eqFlat at e
  split at e <;> first
    | (simp only [RV.int_iff, RV.str_iff, RV.bl_iff, RV.non_iff] at rx ry
       subst rx ry
       cases e
       simp [eqV, Bool.beq_eq_decide_eq])
    | cases e
theorem flat_of {n : Nat} {x : D} {v : V} (f : flatD x = true) (rx : RV φ n H x v) : flatV v = true := by
  cases x with
  | non => rw [RV.non_iff] at rx; subst rx; rfl
  | bl _ => rw [RV.bl_iff] at rx; subst rx; rfl
  | int _ => rw [RV.int_iff] at rx; subst rx; rfl
  | str _ => rw [RV.str_iff] at rx; subst rx; rfl
  | tup _ => cases f
  | ref _ => cases f
theorem flat_all {n : Nat} : ∀ {ds : List D} {vs : List V}, ds.all flatD = true → RVs φ n H ds vs → vs.all flatV = true
  | [], vs, f, r => by simp only [RVs] at r; subst r; rfl
  | d :: ds, vs, f, r => by
    simp only [RVs] at r
    obtain ⟨v, r', rfl, q1, q2⟩ := r
    simp only [List.all_cons, Bool.and_eq_true] at f ⊢
    exact ⟨flat_of f.1 q1, flat_all f.2 q2⟩
theorem inFlat_of {n : Nat} {x : D} {v : V} (rx : RV φ n H x v) : ∀ {ds : List D} {vs : List V} {b : Bool}, inFlat x ds = some b → RVs φ n H ds vs → inV v vs = b
  | [], vs, b, e, r => by
    simp only [RVs] at r
    subst r
    simp only [inFlat, Option.some.injEq] at e
    subst e; rfl
  | d :: ds, vs, b, e, r => by
    simp only [RVs] at r
    obtain ⟨u, r', rfl, q1, q2⟩ := r
    simp only [inFlat] at e
    split at e
    · rename_i e1
      cases e
      have := flat_eq e1 q1 rx
      simp [inV, this]
    · rename_i e1
      have h1 := flat_eq e1 q1 rx
      have h2 := inFlat_of rx e q2
      simp only [inV, List.any_cons, h1, Bool.false_or]
      exact h2
    · cases e
theorem key_of' {n : Nat} {x : D} {v : V} {k : Key} (e : keyD x = some k) (rx : RV φ n H x v) : v = kV k := by
  cases x with
  | int i => simp only [keyD, Option.some.injEq] at e; subst e; rw [RV.int_iff] at rx; exact rx
  | str i => simp only [keyD, Option.some.injEq] at e; subst e; rw [RV.str_iff] at rx; exact rx
  | non => cases e
  | bl _ => cases e
  | tup _ => cases e
  | ref _ => cases e
theorem keys_of' {n : Nat} : ∀ {ds : List D} {vs : List V} {k : List Key}, keysD ds = some k → RVs φ n H ds vs → vs = k.map kV
  | [], vs, k, e, r => by
    simp only [keysD, List.map_nil, seqO, Option.some.injEq] at e
    simp only [RVs] at r
    subst e r; rfl
  | d :: ds, vs, k, e, r => by
    simp only [RVs] at r
    obtain ⟨v, r', rfl, q1, q2⟩ := r
    simp only [keysD, List.map_cons] at e
    cases e1 : keyD d with
    | none => rw [e1] at e; simp [seqO] at e
    | some a =>
      rw [e1] at e
      simp only [seqO] at e
      cases e2 : seqO (ds.map keyD) with
      | none => rw [e2] at e; simp at e
      | some as =>
        rw [e2] at e
        simp only [Option.map_some, Option.some.injEq] at e
        subst e
        rw [key_of' e1 q1, keys_of' (ds := ds) (k := as) e2 q2]; rfl
theorem RKs.val {κ' : Type} [DecidableEq κ'] {n : Nat} : ∀ {kvs : List (κ' × D)} {us : List (κ' × V)} (k : κ'), RKs φ n H kvs us → match valD kvs k with
    | some d => ∃ v, valV us k = some v ∧ RV φ n H d v
    | none => valV us k = none
  | [], us, k, r => by simp only [RKs] at r; subst r; rfl
  | (k', d) :: kvs, us, k, r => by
    simp only [RKs] at r
    obtain ⟨v, r', rfl, q1, q2⟩ := r
    by_cases hk : k' = k
    · simp only [valD, valV, List.find?_cons, hk, decide_true, Option.map_some]
      exact ⟨v, rfl, q1⟩
    · have := RKs.val k q2
      simpa only [valD, valV, List.find?_cons, hk, decide_false] using this
theorem RKs.len {κ' : Type} {n : Nat} : ∀ {kvs : List (κ' × D)} {us : List (κ' × V)}, RKs φ n H kvs us → us.length = kvs.length
  | [], us, r => by simp only [RKs] at r; subst r; rfl
  | (k', d) :: kvs, us, r => by
    simp only [RKs] at r
    obtain ⟨v, r', rfl, q1, q2⟩ := r
    simp [RKs.len q2]
theorem RKs.any {κ' : Type} [DecidableEq κ'] {n : Nat} (k : κ') : ∀ {kvs : List (κ' × D)} {us : List (κ' × V)}, RKs φ n H kvs us → (us.any fun kv => decide (kv.1 = k)) = kvs.any fun kv => decide (kv.1 = k)
  | [], us, r => by simp only [RKs] at r; subst r; rfl
  | (k', d) :: kvs, us, r => by
    simp only [RKs] at r
    obtain ⟨v, r', rfl, q1, q2⟩ := r
    simp only [List.any_cons, RKs.any k q2]
theorem RKs.repl {κ' : Type} [DecidableEq κ'] {n : Nat} (k : κ') {d : D} {v : V} (q : RV φ n H d v) : ∀ {kvs : List (κ' × D)} {us : List (κ' × V)}, RKs φ n H kvs us →
    RKs φ n H (kvs.map fun kv => if kv.1 = k then (kv.1, d) else kv) (us.map fun kv => if kv.1 = k then (kv.1, v) else kv)
  | [], us, r => by simp only [RKs] at r; subst r; simp [RKs]
  | (k', d') :: kvs, us, r => by
    simp only [RKs] at r
    obtain ⟨v', r', rfl, q1, q2⟩ := r
    have ih := RKs.repl k q q2
    by_cases hk : k' = k
    · simp only [List.map_cons, hk, if_true, RKs]
      exact ⟨v, _, rfl, q, ih⟩
    · simp only [List.map_cons, hk, if_false, RKs]
      exact ⟨v', _, rfl, q1, ih⟩
theorem RKs.snoc {κ' : Type} {n : Nat} (k : κ') {d : D} {v : V} (q : RV φ n H d v) : ∀ {kvs : List (κ' × D)} {us : List (κ' × V)}, RKs φ n H kvs us → RKs φ n H (kvs ++ [(k, d)]) (us ++ [(k, v)])
  | [], us, r => by simp only [RKs] at r; subst r; simp only [List.nil_append, RKs]; exact ⟨v, [], rfl, q, rfl⟩
  | (k', d') :: kvs, us, r => by
    simp only [RKs] at r
    obtain ⟨v', r', rfl, q1, q2⟩ := r
    simp only [List.cons_append, RKs]
    exact ⟨v', _, rfl, q1, RKs.snoc k q q2⟩
theorem RKs.put {κ' : Type} [DecidableEq κ'] {n : Nat} {kvs : List (κ' × D)} {us : List (κ' × V)} (r : RKs φ n H kvs us) (k : κ') {d : D} {v : V} (q : RV φ n H d v) : RKs φ n H (putKD kvs k d) (putK us k v) := by
  unfold putKD putK
  rw [RKs.any k r]
  split
  · exact RKs.repl k q r
  · exact RKs.snoc k q r
theorem RKs.look {n : Nat} : ∀ {kvs : List (Str × D)} {us : List (Str × V)} {f : Str} {d : D}, RKs φ n H kvs us → kvs.lookup f = some d → ∃ v, us.lookup f = some v ∧ RV φ n H d v
  | [], us, f, d, r, e => by cases e
  | (k', d') :: kvs, us, f, d, r, e => by
    simp only [RKs] at r
    obtain ⟨v', r', rfl, q1, q2⟩ := r
    rw [List.lookup_cons] at e ⊢
    cases hb : f == k' with
    | true => rw [hb] at e; simp only [Option.some.injEq] at e; subst e; exact ⟨v', rfl, q1⟩
    | false => rw [hb] at e; exact RKs.look q2 e
theorem RKs.look0 {n : Nat} : ∀ {kvs : List (Str × D)} {us : List (Str × V)} {f : Str}, RKs φ n H kvs us → kvs.lookup f = none → us.lookup f = none
  | [], us, f, r, e => by simp only [RKs] at r; subst r; rfl
  | (k', d') :: kvs, us, f, r, e => by
    simp only [RKs] at r
    obtain ⟨v', r', rfl, q1, q2⟩ := r
    rw [List.lookup_cons] at e ⊢
    cases hb : f == k' with
    | true => rw [hb] at e; cases e
    | false => rw [hb] at e; exact RKs.look0 q2 e
theorem RKs.putF {n : Nat} {f : Str} {d : D} {v : V} (q : RV φ n H d v) : ∀ {kvs : List (Str × D)} {us : List (Str × V)}, RKs φ n H kvs us → RKs φ n H (putD f d kvs) (L2.putF f v us)
  | [], us, r => by simp only [RKs] at r; subst r; simp only [putD, L2.putF, RKs]; exact ⟨v, [], rfl, q, rfl⟩
  | (k', d') :: kvs, us, r => by
    simp only [RKs] at r
    obtain ⟨v', r', rfl, q1, q2⟩ := r
    simp only [putD, L2.putF]
    split
    · simp only [RKs]; exact ⟨v, _, rfl, q, q2⟩
    · simp only [RKs]; exact ⟨v', _, rfl, q1, RKs.putF q q2⟩
end

section
variable {X : Cx} {κ : Nat → Addr}
theorem od_eq (hu : X.A.units + 64 < cLine) : OpR X (compareOp .Eq) (rD X.K κ opEq) := by
  intro pins s σ H x y v u Q I rx ry ⟨φ, h, dx, dy, S, qx, qy, p⟩
  unfold opEq at p
  split at p
  · rename_i b e
    unfold eqD at e
    split at e
    · rename_i b' e1
      cases e
      obtain ⟨h1, h2⟩ := eqFlat_of e1 qx qy
      exact op_eq pins s σ H _ _ v u Q I rx ry ⟨h1, p.of0 S (RV.bl_iff.mpr (by rw [h2]))⟩
    · unfold deepEq at e
      split at e
      · rename_i a b2 e1 e2
        split at e
        · rename_i hs
          cases e
          exact op_eqD hu pins s σ H _ _ v u Q I rx ry ⟨a, b2, dp_of S _ _ _ _ e1 qx, dp_of S _ _ _ _ e2 qy, hs.1, hs.2, p.of0 S (RV.bl_iff.mpr rfl)⟩
        · cases e
      · cases e
  · exact False.elim p
theorem od_ne (hu : X.A.units + 64 < cLine) : OpR X (compareOp .NotEq) (rD X.K κ opNe) := by
  intro pins s σ H x y v u Q I rx ry ⟨φ, h, dx, dy, S, qx, qy, p⟩
  unfold opNe at p
  split at p
  · rename_i b e
    unfold eqD at e
    split at e
    · rename_i b' e1
      cases e
      obtain ⟨h1, h2⟩ := eqFlat_of e1 qx qy
      exact op_ne pins s σ H _ _ v u Q I rx ry ⟨h1, p.of0 S (RV.bl_iff.mpr (by rw [h2]))⟩
    · unfold deepEq at e
      split at e
      · rename_i a b2 e1 e2
        split at e
        · rename_i hs
          cases e
          exact op_neD hu pins s σ H _ _ v u Q I rx ry ⟨a, b2, dp_of S _ _ _ _ e1 qx, dp_of S _ _ _ _ e2 qy, hs.1, hs.2, p.of0 S (RV.bl_iff.mpr rfl)⟩
        · cases e
      · cases e
  · exact False.elim p
/-- what in is asked of, by its kinds -/
inductive InK (K : PySem.W.Frag) (H : Hp) (x y : V) (b : Bool) : Prop where
  | flat {p : Addr} {vs : List V} (hy : y = .ref p) (hs : SqL K H p vs ∨ SqT K H p vs) (fx : flatV x = true) (fs : vs.all flatV = true) (e : inV x vs = b)
  | deep {d : PyData} {ds : List PyData} (hx : Dp K H x d) (hy : Dp K H y (.list ds)) (s1 : SeqAt.shaped d = true) (s2 : SeqAt.shaped (.list ds) = true) (e : (ds.any fun z => PyData.eqv z d) = b)
  | sign {c : Nat} {z : Str} (hx : x = .str ⟨#[c]⟩) (hy : y = .str z) (e : decide (c ∈ z.cps.toList) = b)
  | dict {a : Addr} {o : Option V} (hy : y = .ref a) (g : DGet H a x o) (e : o.isSome = b)
theorem inK_of {K : PySem.W.Frag} {φ : Nat → Addr} {h : HP} {H : Hp} {dx dy : D} {x y : V} {b : Bool} (S : Sim K κ φ h H) (qx : RV φ h.length H dx x) (qy : RV φ h.length H dy y) (e : inD dx dy h = some b) : InK K H x y b := by
  unfold inD at e
  split at e
  · rename_i i
    rw [RV.ref_iff] at qy
    split at e
    · rename_i kvs hk
      obtain ⟨us, hd, r⟩ := S.dic hk
      split at e
      · rename_i k ek
        cases e
        have := RKs.val k r
        have kx := key_of' ek qx
        subst kx
        refine .dict qy.2 (DGet.k hd) ?_
        cases e3 : valD kvs k with
        | some d => rw [e3] at this; obtain ⟨v, e4, _⟩ := this; rw [e4]; rfl
        | none => rw [e3] at this; rw [this]; rfl
      · cases e
    · rename_i kvs hk
      obtain ⟨us, hd, r⟩ := S.dct hk
      split at e
      · rename_i ds
        split at e
        · rename_i k ek
          cases e
          have := RKs.val k r
          rw [RV.tup_iff] at qx
          obtain ⟨p, vs, rfl, hp, rr⟩ := qx
          have kx := keys_of' ek rr
          subst kx
          refine .dict qy.2 (DGet.t hd hp) ?_
          cases e3 : valD kvs k with
          | some d => rw [e3] at this; obtain ⟨v, e4, _⟩ := this; rw [e4]; rfl
          | none => rw [e3] at this; rw [this]; rfl
        · cases e
      · cases e
    · split at e
      · rename_i ds hl
        obtain ⟨vs, hs, r⟩ := S.isL hl
        split at e
        · rename_i hf
          exact .flat qy.2 (.inl hs) (flat_of hf.1 qx) (flat_all hf.2 r) (inFlat_of qx e r)
        · unfold inDeep at e
          split at e
          · rename_i a bs e1 e2
            split at e
            · rename_i hh
              cases e
              refine .deep (dp_of S _ _ _ _ e1 qx) ?_ hh.1 hh.2 rfl
              rw [qy.2]
              exact .lst hs (dpAll_of (fun d v a => dp_of S _ d v a) e2 r)
            · cases e
          · cases e
      · cases e
  · rename_i ds
    rw [RV.tup_iff] at qy
    obtain ⟨p, vs, rfl, hp, r⟩ := qy
    split at e
    · rename_i hf
      exact .flat rfl (.inr (SqT.of hp)) (flat_of hf.1 qx) (flat_all hf.2 r) (inFlat_of qx e r)
    · cases e
  · rename_i z
    rw [RV.str_iff] at qy
    split at e
    · rename_i c
      rw [RV.str_iff] at qx
      split at e
      · rename_i k hk
        cases e
        refine .sign (c := k) ?_ qy rfl
        rw [qx]
        congr 1
        exact TL.ext_tl (by show c.cps.toList = [k]; exact hk)
      · cases e
    · cases e
  · cases e
theorem od_in (hu : X.A.units + 65 < cLine) : OpR X (compareOp .In) (rD X.K κ opIn) := by
  intro pins s σ H x y v u Q I rx ry ⟨φ, h, dx, dy, S, qx, qy, p⟩
  unfold opIn at p
  split at p
  · rename_i b e
    have q := p.of0 S (v := .bl b) (RV.bl_iff.mpr rfl)
    cases inK_of S qx qy e with
    | flat hy hs fx fs e =>
      subst hy e
      exact op_in_seq pins s σ H _ _ v u Q I rx ry ⟨_, _, rfl, hs, fx, fs, q⟩
    | deep hx hy s1 s2 e =>
      subst e
      exact op_inD hu pins s σ H _ _ v u Q I rx ry ⟨_, _, hx, hy, s1, s2, q⟩
    | sign hx hy e =>
      subst hx hy e
      exact op_in_sign pins s σ H _ _ v u Q I rx ry ⟨_, _, rfl, rfl, q⟩
    | dict hy g e =>
      subst hy e
      obtain rfl : u = Value.ref _ := ry
      exact d_in (by omega) I g rx fun s' I' => ⟨.bl _, H, I', rfl, q⟩
  · exact False.elim p
theorem od_nin (hu : X.A.units + 65 < cLine) : OpR X (compareOp .NotIn) (rD X.K κ opNin) := by
  intro pins s σ H x y v u Q I rx ry ⟨φ, h, dx, dy, S, qx, qy, p⟩
  unfold opNin at p
  split at p
  · rename_i b e
    have q := p.of0 S (v := .bl (!b)) (RV.bl_iff.mpr rfl)
    cases inK_of S qx qy e with
    | flat hy hs fx fs e =>
      subst hy e
      exact op_notIn_seq pins s σ H _ _ v u Q I rx ry ⟨_, _, rfl, hs, fx, fs, q⟩
    | deep hx hy s1 s2 e =>
      subst e
      exact op_notInD hu pins s σ H _ _ v u Q I rx ry ⟨_, _, hx, hy, s1, s2, q⟩
    | sign hx hy e =>
      subst hx hy e
      exact op_notIn_sign pins s σ H _ _ v u Q I rx ry ⟨_, _, rfl, rfl, q⟩
    | dict hy g e =>
      subst hy e
      obtain rfl : u = Value.ref _ := ry
      exact d_notIn (by omega) I g rx fun s' I' => ⟨.bl _, H, I', rfl, q⟩
  · exact False.elim p
end
end Z
/-! Z4: tests, arguments, displays, subscripts, fields, calls. -/
namespace Z
open PySem L2 PyProof.Rows
section
variable {X : Cx} {κ : Nat → Addr} {C : Ctx} {a b c e : Expr} {es : List Expr} {ma mb mc : ME} {ta tb : MT} {mas : MA} {pos : Pos}

/-! ### tests -/
theorem st_v (ha : SE X κ C a ma) (he : ∀ whole, isTrue a X.env whole = (do let v ← whole; standAt a.pos; holding [v] (truthy v)) := by intro _; rfl) : ST X κ C a (tV ma) :=
  ST.mk' (pt_val ha.pe he) fun φ ev h σ H Q S r p => by
    obtain ⟨dx, h1, e1, p⟩ := PostT.bind p
    refine td_of S r e1 fun φ1 H1 v st S1 r1 q1 => ?_
    cases dx with
    | bl k => rw [RV.bl_iff] at q1; exact ⟨k, q1, p φ1 H1 st S1⟩
    | non => exact False.elim p
    | int _ => exact False.elim p
    | str _ => exact False.elim p
    | tup _ => exact False.elim p
    | ref _ => exact False.elim p
theorem st_cmp {o : CmpOp} {op : D → D → HP → R D} (ho : OpR X (compareOp o) (rD X.K κ op)) (ha : SE X κ C a ma) (hb : SE X κ C b mb) (hm : behindInMarks o b = false) : ST X κ C (.Compare a [o] [b] pos) (tV (eOp op ma mb)) :=
  ST.mk' (pt_cmpR ho ha.pe hb.pe hm) fun φ ev h σ H Q S r p => by
    obtain ⟨dz, h3, e3, p⟩ := PostT.bind p
    cases ea : ma C ev h with
    | ok dx h1 =>
      cases eb : mb C ev h1 with
      | ok dy h2 =>
        have e4 : op dx dy h2 = .ok dz h3 := by
          have := e3
          unfold eOp at this
          rw [ea] at this
          simp only [R.bind_ok] at this
          rw [eb] at this
          exact this
        refine td_of S r ea fun φ1 H1 v st S1 r1 q1 => td_of S1 r1 eb fun φ2 H2 w st2 S2 r2 q2 => ⟨φ2, h2, dx, dy, S2, q1.step S1 st2, q2, ?_⟩
        rw [e4]
        intro φ3 H3 z st3 S3 q3
        cases dz with
        | bl k => rw [RV.bl_iff] at q3; exact ⟨k, q3, p φ3 H3 ((st.trans st2).trans st3) S3⟩
        | non => exact False.elim p
        | int _ => exact False.elim p
        | str _ => exact False.elim p
        | tup _ => exact False.elim p
        | ref _ => exact False.elim p
      | ex _ _ _ => unfold eOp at e3; rw [ea] at e3; simp only [R.bind_ok] at e3; rw [eb] at e3; cases e3
      | no => unfold eOp at e3; rw [ea] at e3; simp only [R.bind_ok] at e3; rw [eb] at e3; cases e3
    | ex _ _ _ => unfold eOp at e3; rw [ea] at e3; cases e3
    | no => unfold eOp at e3; rw [ea] at e3; cases e3
theorem st_w (h : SW X κ C a ta) : ST X κ C a ta := ⟨h.pw.pt⟩
theorem sw_and1 (h : ST X κ C a ta) : SW X κ C (.BoolOp .And [a] pos) ta := ⟨pw_and1 h.pt⟩
theorem sw_or1 (h : ST X κ C a ta) : SW X κ C (.BoolOp .Or [a] pos) ta := ⟨pw_or1 h.pt⟩
theorem sw_and {rest : List Expr} (ha : ST X κ C a ta) (hb : SW X κ C (.BoolOp .And (b :: rest) pos) tb) : SW X κ C (.BoolOp .And (a :: b :: rest) pos) (tAn ta tb) :=
  SW.mk' (pw_and ha.pt hb.pw) fun φ ev h σ H Q S r p => by
    obtain ⟨k, h1, e1, p⟩ := PostT.bind p
    refine tq_of S r e1 fun φ1 H1 st S1 r1 => ?_
    cases k with
    | true => rw [if_pos rfl] at p ⊢; exact ⟨φ1, ev, h1, S1, r1, p.step st⟩
    | false => rw [if_neg Bool.false_ne_true] at p ⊢; exact p φ1 H1 st S1
theorem sw_or {rest : List Expr} (ha : ST X κ C a ta) (hb : SW X κ C (.BoolOp .Or (b :: rest) pos) tb) : SW X κ C (.BoolOp .Or (a :: b :: rest) pos) (tOr ta tb) :=
  SW.mk' (pw_or ha.pt hb.pw) fun φ ev h σ H Q S r p => by
    obtain ⟨k, h1, e1, p⟩ := PostT.bind p
    refine tq_of S r e1 fun φ1 H1 st S1 r1 => ?_
    cases k with
    | true => rw [if_pos rfl] at p ⊢; exact p φ1 H1 st S1
    | false => rw [if_neg Bool.false_ne_true] at p ⊢; exact ⟨φ1, ev, h1, S1, r1, p.step st⟩
theorem st_not (ha : ST X κ C a ta) : ST X κ C (.UnaryOp .Not a pos) (tNt ta) :=
  ST.mk' (pt_not ha.pt) fun φ ev h σ H Q S r p => by
    obtain ⟨k, h1, e1, p⟩ := PostT.bind p
    exact tq_of S r e1 fun φ1 H1 st S1 r1 => p φ1 H1 st S1

/-! ### and, or, not, if as values -/
theorem se_one {o : BoolOp} (ha : SE X κ C a ma) : SE X κ C (.BoolOp o [a] pos) ma := ⟨pe_one ha.pe⟩
theorem se_and {rest : List Expr} (ha : SE X κ C a ma) (hb : SE X κ C (.BoolOp .And (b :: rest) pos) mb) : SE X κ C (.BoolOp .And (a :: b :: rest) pos) (eAn ma mb) :=
  SE.mk' (pe_and ha.pe hb.pe) fun φ ev h σ H Q S r p => by
    obtain ⟨dx, h1, e1, p⟩ := Post.bind p
    refine td_of S r e1 fun φ1 H1 v st S1 r1 q1 => ?_
    cases dx with
    | bl k =>
      rw [RV.bl_iff] at q1
      refine ⟨k, q1, ?_⟩
      cases k with
      | true => rw [if_pos rfl]; simp only [if_pos] at p; exact ⟨φ1, ev, h1, S1, r1, p.step st⟩
      | false => rw [if_neg Bool.false_ne_true]; exact p φ1 H1 _ st S1 (RV.bl_iff.mpr rfl)
    | non => exact False.elim p
    | int _ => exact False.elim p
    | str _ => exact False.elim p
    | tup _ => exact False.elim p
    | ref _ => exact False.elim p
theorem se_or {rest : List Expr} (ha : SE X κ C a ma) (hb : SE X κ C (.BoolOp .Or (b :: rest) pos) mb) : SE X κ C (.BoolOp .Or (a :: b :: rest) pos) (eOr ma mb) :=
  SE.mk' (pe_or ha.pe hb.pe) fun φ ev h σ H Q S r p => by
    obtain ⟨dx, h1, e1, p⟩ := Post.bind p
    refine td_of S r e1 fun φ1 H1 v st S1 r1 q1 => ?_
    cases dx with
    | bl k =>
      rw [RV.bl_iff] at q1
      refine ⟨k, q1, ?_⟩
      cases k with
      | true => rw [if_pos rfl]; exact p φ1 H1 _ st S1 (RV.bl_iff.mpr rfl)
      | false => rw [if_neg Bool.false_ne_true]; exact ⟨φ1, ev, h1, S1, r1, Post.step p st⟩
    | non => exact False.elim p
    | int _ => exact False.elim p
    | str _ => exact False.elim p
    | tup _ => exact False.elim p
    | ref _ => exact False.elim p
theorem se_not (ha : SE X κ C a ma) : SE X κ C (.UnaryOp .Not a pos) (eNt ma) :=
  SE.mk' (pe_not ha.pe) fun φ ev h σ H Q S r p => by
    obtain ⟨dx, h1, e1, p⟩ := Post.bind p
    refine td_of S r e1 fun φ1 H1 v st S1 r1 q1 => ?_
    cases dx with
    | bl k => rw [RV.bl_iff] at q1; exact ⟨k, q1, p φ1 H1 _ st S1 (RV.bl_iff.mpr rfl)⟩
    | non => exact False.elim p
    | int _ => exact False.elim p
    | str _ => exact False.elim p
    | tup _ => exact False.elim p
    | ref _ => exact False.elim p
theorem se_if (hc : ST X κ C c ta) (ha : SE X κ C a ma) (hb : SE X κ C b mb) : SE X κ C (.IfExp c a b pos) (eIf ta ma mb) :=
  SE.mk' (pe_ifExp hc.pt ha.pe hb.pe) fun φ ev h σ H Q S r p => by
    obtain ⟨k, h1, e1, p⟩ := Post.bind p
    refine tq_of S r e1 fun φ1 H1 st S1 r1 => ?_
    cases k with
    | true => rw [if_pos rfl] at p ⊢; exact ⟨φ1, ev, h1, S1, r1, p.step st⟩
    | false => rw [if_neg Bool.false_ne_true] at p ⊢; exact ⟨φ1, ev, h1, S1, r1, p.step st⟩

/-! ### arguments, displays -/
theorem sa_nil : SA X κ C [] aN := SA.mk' pa_nil fun φ ev h σ H Q S r p => p φ H [] Step.refl S (by simp [RVs])
theorem sa_cons (ha : SE X κ C e ma) (hr : SA X κ C es mas) (hs : starEach (e :: es) X.env = (false, eval e X.env) :: starEach es X.env := by rfl) : SA X κ C (e :: es) (aC ma mas) :=
  SA.mk' (pa_cons ha.pe hr.pa hs) fun φ ev h σ H Q S r p => by
    obtain ⟨dx, h1, e1, p⟩ := PostA.bind p
    obtain ⟨ds, h2, e2, p⟩ := PostA.bind p
    exact td_of S r e1 fun φ1 H1 v st S1 r1 q1 => ta_of S1 r1 e2 fun φ2 H2 vs st2 S2 r2 q2 => p φ2 H2 _ (st.trans st2) S2 (RVs.cons (q1.step S1 st2) q2)
theorem se_tup {x1 : Nat} (h : SA X κ C es mas) : SE X κ C (.Tuple es x1 pos) (eTup mas) :=
  SE.mk' (pe_tup h.pa) fun φ ev h σ H Q S r p => by
    obtain ⟨ds, h1, e1, p⟩ := Post.bind p
    split at p
    · rename_i hz
      exact ta_of S r e1 fun φ1 H1 vs st S1 r1 q1 => ⟨by rw [q1.len]; exact hz, fun q hq => (p.step st).newT S1 hq q1⟩
    · exact False.elim p
theorem se_lst (h : SA X κ C es mas) : SE X κ C (.List es pos) (eLst mas) :=
  SE.mk' (pe_lst h.pa) fun φ ev h σ H Q S r p => by
    obtain ⟨ds, h1, e1, p⟩ := Post.bind p
    split at p
    · rename_i hz
      exact ta_of S r e1 fun φ1 H1 vs st S1 r1 q1 => ⟨by rw [q1.len]; exact hz, fun q hq => (p.step st).newL S1 hq q1⟩
    · exact False.elim p

/-! ### subscripts -/
end
def opIx : D → D → HP → R D := fun x y h => match x with
  | .tup ds => match y with
    | .int i => match atI ds i with
      | some d => .ok d h
      | none => .no
    | _ => .no
  | .str z => match y with
    | .int i => if z.length ≤ sizeLine then match atI z.cps.toList i with
        | some c => .ok (.str ⟨#[c]⟩) h
        | none => .no
      else .no
    | _ => .no
  | .ref j => match h[j]? with
    | some (.dic kvs) => match keyD y with
      | some k => match valD kvs k with
        | some d => .ok d h
        | none => .no
      | none => .no
    | some (.dct kvs) => match y with
      | .tup ds => match keysD ds with
        | some k => match valD kvs k with
          | some d => .ok d h
          | none => .no
        | none => .no
      | _ => .no
    | _ => match isL j h with
      | some ds => match y with
        | .int i => match atI ds i with
          | some d => .ok d h
          | none => .no
        | _ => .no
      | none => .no
  | _ => .no
def cutD (xs : List D) (lo hi : Option Int) : List D := (xs.drop (HT.sIx xs.length 0 lo)).take (HT.sIx xs.length xs.length hi - HT.sIx xs.length 0 lo)
def opSl : D → Option Int → Option Int → HP → R D := fun x lo hi h => match x with
  | .tup ds => .ok (.tup (cutD ds lo hi)) h
  | .str z => if z.length ≤ sizeLine then .ok (.str (cutS z lo hi)) h else .no
  | .ref j => match isL j h with
    | some ds => .ok (.ref h.length) (h ++ [.lst (cutD ds lo hi)])
    | none => .no
  | _ => .no
section
variable {X : Cx} {κ : Nat → Addr} {C : Ctx} {a b c e : Expr} {es : List Expr} {ma mb mc : ME} {ta tb : MT} {mas : MA} {pos p2 : Pos}
theorem atI_rv {φ : Nat → Addr} {n : Nat} {H : Hp} {ds : List D} {vs : List V} {i : Int} {d : D} (r : RVs φ n H ds vs) (e : atI ds i = some d) : ∃ v, atI vs i = some v ∧ RV φ n H d v := by
  unfold atI at e ⊢
  rw [r.len]
  cases q : ixN ds.length i with
  | none => rw [q] at e; cases e
  | some j =>
    rw [q] at e
    exact r.get (by simpa using e)
theorem cut_rv {φ : Nat → Addr} {n : Nat} {H : Hp} {ds : List D} {vs : List V} {lo hi : Option Int} (r : RVs φ n H ds vs) : RVs φ n H (cutD ds lo hi) (cutV vs lo hi) := by
  unfold cutD cutV
  rw [r.len]
  exact (r.drop _).take _
/-- d[k] -/
theorem ix_dic : X.A.units + 1 < cLine → IxR X (fun x y H Q => ∃ a v, x = .ref a ∧ DGet H a y (some v) ∧ Q v H) := by
  intro hu value slice pins s σ H x y v u Q I rx ry h hs
  obtain ⟨a, w, rfl, g, q⟩ := h
  obtain rfl : v = Value.ref a := rx
  exact tail_any (dict_typeIs I g) PySem.F.slot_dict_getitem.lookup (d_getItem hu I g ry fun w' s3 I3 rw' => ⟨w, H, I3, rw', q⟩) hs
theorem ixd (hu : X.A.units + 1 < cLine) : IxR X (rD X.K κ opIx) := by
  intro value slice pins s σ H x y v u Q I rx ry ⟨φ, h, dx, dy, S, qx, qy, p⟩ hs
  unfold opIx at p
  split at p
  · rename_i ds
    split at p
    · rename_i i
      split at p
      · rename_i d e
        rw [RV.int_iff] at qy
        rw [RV.tup_iff] at qx
        obtain ⟨pp, vs, rfl, hp, r⟩ := qx
        obtain ⟨w, e1, q1⟩ := atI_rv r e
        exact ix_tup value slice pins s σ H _ _ v u Q I rx ry ⟨pp, vs, i, w, rfl, qy, SqT.of hp, e1, p.of0 S q1⟩ hs
      · exact False.elim p
    · exact False.elim p
  · rename_i z
    split at p
    · rename_i i
      split at p
      · rename_i hz
        split at p
        · rename_i d e
          rw [RV.int_iff] at qy
          rw [RV.str_iff] at qx
          exact ix_str value slice pins s σ H _ _ v u Q I rx ry ⟨z, i, d, qx, qy, hz, e, p.of0 S (RV.str_iff.mpr rfl)⟩ hs
        · exact False.elim p
      · exact False.elim p
    · exact False.elim p
  · rename_i j
    rw [RV.ref_iff] at qx
    obtain ⟨hj, rfl⟩ := qx
    split at p
    · rename_i kvs e
      obtain ⟨us, hd, r⟩ := S.dic e
      split at p
      · rename_i k ek
        split at p
        · rename_i d ed
          have kx := key_of' ek qy
          subst kx
          have := RKs.val k r
          rw [ed] at this
          obtain ⟨w, e1, q1⟩ := this
          refine ix_dic hu value slice pins s σ H _ _ v u Q I rx ry ⟨_, w, rfl, ?_, p.of0 S q1⟩ hs
          rw [← e1]
          exact DGet.k hd
        · exact False.elim p
      · exact False.elim p
    · rename_i kvs e
      obtain ⟨us, hd, r⟩ := S.dct e
      split at p
      · split at p
        · rename_i k ek
          split at p
          · rename_i d ed
            rw [RV.tup_iff] at qy
            obtain ⟨pp, vs, rfl, hp, rr⟩ := qy
            have kx := keys_of' ek rr
            subst kx
            have := RKs.val k r
            rw [ed] at this
            obtain ⟨w, e1, q1⟩ := this
            refine ix_dic hu value slice pins s σ H _ _ v u Q I rx ry ⟨_, w, rfl, ?_, p.of0 S q1⟩ hs
            rw [← e1]
            exact DGet.t hd hp
          · exact False.elim p
        · exact False.elim p
      · exact False.elim p
    · split at p
      · rename_i ds hl
        obtain ⟨vs, hs', r⟩ := S.isL hl
        split at p
        · rename_i i
          split at p
          · rename_i d ed
            rw [RV.int_iff] at qy
            obtain ⟨w, e1, q1⟩ := atI_rv r ed
            exact ix_list value slice pins s σ H _ _ v u Q I rx ry ⟨_, vs, i, w, rfl, qy, hs', e1, p.of0 S q1⟩ hs
          · exact False.elim p
        · exact False.elim p
      · exact False.elim p
  · exact False.elim p
theorem se_ix (hu : X.A.units + 1 < cLine) (ha : SE X κ C a ma) (hb : SE X κ C b mb) (hs : PlainIx b := by intro _ _; rfl) : SE X κ C (.Subscript a b pos) (eOp opIx ma mb) :=
  SE.mk' (pe_ix (ixd (κ := κ) hu) ha.pe hb.pe hs) fun φ ev h σ H Q S r p => by
    obtain ⟨dx, h1, e1, p⟩ := Post.bind p
    obtain ⟨dy, h2, e2, p⟩ := Post.bind p
    exact td_of S r e1 fun φ1 H1 v st S1 r1 q1 => td_of S1 r1 e2 fun φ2 H2 w st2 S2 r2 q2 => ⟨φ2, h2, dx, dy, S2, q1.step S1 st2, q2, p.step (st.trans st2)⟩
theorem so_n : SO X κ C none oN := SO.mk' po_none fun φ ev h σ H Q S r p => p φ H Step.refl S
theorem so_s (ha : SE X κ C a ma) : SO X κ C (some a) (oS ma) :=
  SO.mk' (po_some ha.pe) fun φ ev h σ H Q S r p => by
    obtain ⟨dx, h1, e1, p⟩ := PostO.bind p
    refine td_of S r e1 fun φ1 H1 v st S1 r1 q1 => ?_
    cases dx with
    | int k => rw [RV.int_iff] at q1; exact ⟨k, q1, p φ1 H1 st S1⟩
    | non => exact False.elim p
    | bl _ => exact False.elim p
    | str _ => exact False.elim p
    | tup _ => exact False.elim p
    | ref _ => exact False.elim p
def rSl (K : PySem.W.Frag) (κ : Nat → Addr) : V → Option Int → Option Int → Hp → VK → Prop := fun x lo hi H Q => ∃ φ h dx, Sim K κ φ h H ∧ RV φ h.length H dx x ∧ Post K κ φ h H (opSl dx lo hi h) Q
theorem sld : SlR X (rSl X.K κ) := by
  intro pins s σ H x v vl vu lo hi sl Q I rx hs pl pu ⟨φ, h, dx, S, qx, p⟩
  unfold opSl at p
  split at p
  · rename_i ds
    rw [RV.tup_iff] at qx
    obtain ⟨pp, vs, rfl, hp, r⟩ := qx
    refine sl_tupA pins s σ H _ v vl vu lo hi sl Q I rx hs pl pu ⟨pp, vs, rfl, SqT.of hp, fun hw => ?_, fun _ q hq => p.newT S hq (cut_rv r)⟩
    refine p.of0 S (RV.tup_iff.mpr ⟨pp, vs, rfl, hp, ?_⟩)
    have e : cutV vs lo hi = vs := by
      unfold cutV
      rw [hw.1, hw.2]
      simp
    have q := cut_rv (lo := lo) (hi := hi) r
    rw [e] at q
    exact q
  · rename_i z
    split at p
    · rename_i hz
      rw [RV.str_iff] at qx
      exact sl_str pins s σ H _ v vl vu lo hi sl Q I rx hs pl pu ⟨z, qx, hz, p.of0 S (RV.str_iff.mpr rfl)⟩
    · exact False.elim p
  · rename_i j
    split at p
    · rename_i ds hl
      rw [RV.ref_iff] at qx
      obtain ⟨vs, hs', r⟩ := S.isL hl
      exact sl_list pins s σ H _ v vl vu lo hi sl Q I rx hs pl pu ⟨_, vs, qx.2, hs', fun q hq => p.newL S hq (cut_rv r)⟩
    · exact False.elim p
  · exact False.elim p
theorem se_sl {lo hi : Option Expr} {ml mh : MO} (ha : SE X κ C a ma) (hl : SO X κ C lo ml) (hh : SO X κ C hi mh) : SE X κ C (.Subscript a (.Slice lo hi none p2) pos) (eSl opSl ma ml mh) :=
  SE.mk' (pe_slice (sld (κ := κ)) ha.pe hl.po hh.po) fun φ ev h σ H Q S r p => by
    obtain ⟨dx, h1, e1, p⟩ := Post.bind p
    obtain ⟨l, h2, e2, p⟩ := Post.bind p
    obtain ⟨u, h3, e3, p⟩ := Post.bind p
    exact td_of S r e1 fun φ1 H1 v st S1 r1 q1 => to_of S1 r1 e2 fun φ2 H2 st2 S2 r2 => to_of S2 r2 e3 fun φ3 H3 st3 S3 r3 =>
      ⟨φ3, h3, dx, S3, (q1.step S1 st2).step S2 st3, p.step ((st.trans st2).trans st3)⟩

/-! ### calls of built-in functions -/
def rB (K : PySem.W.Frag) (κ : Nat → Addr) (f : List D → HP → R D) : List V → Hp → VK → Prop := fun vs H Q => ∃ φ h ds, Sim K κ φ h H ∧ RVs φ h.length H ds vs ∧ Post K κ φ h H (f ds h) Q
theorem se_bf {x : Str} {id : String} {f : List D → HP → R D} {p : Pos} (hc : CallR X (.builtin id) (rB X.K κ f)) (hm : X.mg x = none) (hv : bootBuiltins x = some (.builtin id)) (ha : SA X κ C (e :: es) mas) (hg : Gl X x := by rfl) (hn : x ≠ "__name__" := by decide) (hdb : (x == ("__debug__" : Str)) = false := by decide)
    (he : starEach (e :: es) X.env = (false, eval e X.env) :: starEach es X.env := by rfl) (hpl : (backTo pos (starEach es X.env)).any (·.1) = false := by rfl) : SE X κ C (.Call (.Name x p) (e :: es) [] pos) (eBf f mas) :=
  SE.mk' (pe_callB hc hg hm hv ha.pa hn hdb he hpl) fun φ ev h σ H Q S r p => by
    obtain ⟨ds, h1, e1, p⟩ := Post.bind p
    exact ta_of S r e1 fun φ1 H1 vs st S1 r1 q1 => ⟨φ1, h1, ds, S1, q1, p.step st⟩
theorem se_bt {x : Str} {T : String} {f : List D → HP → R D} {p : Pos} (hc : CallR X (.type T) (rB X.K κ f)) (hm : X.mg x = none) (hv : bootBuiltins x = some (.type T)) (ha : SA X κ C (e :: es) mas) (hg : Gl X x := by rfl) (hn : x ≠ "__name__" := by decide) (hdb : (x == ("__debug__" : Str)) = false := by decide)
    (he : starEach (e :: es) X.env = (false, eval e X.env) :: starEach es X.env := by rfl) (hpl : (backTo pos (starEach es X.env)).any (·.1) = false := by rfl) : SE X κ C (.Call (.Name x p) (e :: es) [] pos) (eBf f mas) :=
  SE.mk' (pe_callTy hc hg hm hv ha.pa hn hdb he hpl) fun φ ev h σ H Q S r p => by
    obtain ⟨ds, h1, e1, p⟩ := Post.bind p
    exact ta_of S r e1 fun φ1 H1 vs st S1 r1 q1 => ⟨φ1, h1, ds, S1, q1, p.step st⟩
end
end Z
/-! Z5: built-in functions, fields, own defs, methods, comprehensions. -/
namespace Z
open PySem L2 PyProof.Rows

def intsD : List D → Option (List Int) := fun ds => seqO (ds.map fun d => match d with
  | .int i => some i
  | _ => none)
def bLen : List D → HP → R D := fun xs h => match xs with
  | [.str z] => if z.length ≤ sizeLine then .ok (.int z.length) h else .no
  | [.tup ds] => .ok (.int ds.length) h
  | [.ref i] => match h[i]? with
    | some (.dic kvs) => .ok (.int kvs.length) h
    | _ => match isL i h with
      | some ds => .ok (.int ds.length) h
      | none => .no
  | _ => .no
def bAbs : List D → HP → R D := fun xs h => match xs with
  | [.int i] => .ok (.int (if i < 0 then -i else i)) h
  | _ => .no
def maxL : List Int → Option Int
  | [] => none
  | i :: r => some (r.foldl (fun a b => if b > a then b else a) i)
def minL : List Int → Option Int
  | [] => none
  | i :: r => some (r.foldl (fun a b => if b < a then b else a) i)
def bMax : List D → HP → R D := fun xs h => match xs with
  | [.int i, .int j] => .ok (.int (if j > i then j else i)) h
  | [.int i, .int j, .int k] => .ok (.int (if j > i then (if k > j then k else j) else (if k > i then k else i))) h
  | [.ref i] => match isL i h with
    | some ds => match intsD ds with
      | some ns => match maxL ns with
        | some m => .ok (.int m) h
        | none => .no
      | none => .no
    | none => .no
  | _ => .no
def bMin : List D → HP → R D := fun xs h => match xs with
  | [.int i, .int j] => .ok (.int (if j < i then j else i)) h
  | [.ref i] => match isL i h with
    | some ds => match intsD ds with
      | some ns => match minL ns with
        | some m => .ok (.int m) h
        | none => .no
      | none => .no
    | none => .no
  | _ => .no
def bSum : List D → HP → R D := fun xs h => match xs with
  | [.ref i] => match isL i h with
    | some ds => match intsD ds with
      | some ns => .ok (.int ns.sum) h
      | none => .no
    | none => .no
  | _ => .no
def bInt : List D → HP → R D := fun xs h => match xs with
  | [.int i] => .ok (.int i) h
  | [.bl b] => .ok (.int (if b then 1 else 0)) h
  | [.str z] => match PySem.intText? z with
    | some n => if z.length ≤ 640 then .ok (.int n) h else .no
    | none => .no
  | _ => .no
def bStr : List D → HP → R D := fun xs h => match xs with
  | [.int i] => if i.natAbs.log2 < 1920 then .ok (.str (toString i)) h else .no
  | [.str z] => .ok (.str z) h
  | _ => .no
def bDvm : List D → HP → R D := fun xs h => match xs with
  | [.int i, .int j] => if 0 < j ∧ divOk j = true then .ok (.tup [.int (i / j), .int (i % j)]) h else .no
  | _ => .no
section
variable {K : PySem.W.Frag} {κ φ : Nat → Addr} {h : HP} {H : Hp}
theorem intsD_of : ∀ {ds : List D} {ns : List Int}, intsD ds = some ns → ds = ns.map D.int
  | [], ns, e => by simp only [intsD, List.map_nil, seqO, Option.some.injEq] at e; subst e; rfl
  | d :: ds, ns, e => by
    simp only [intsD, List.map_cons] at e
    cases d with
    | int i =>
      simp only [seqO] at e
      cases e2 : intsD ds with
      | none => unfold intsD at e2; rw [e2] at e; cases e
      | some as =>
        have e3 := e2
        unfold intsD at e3
        rw [e3] at e
        simp only [Option.map_some, Option.some.injEq] at e
        subst e
        rw [List.map_cons, intsD_of e2]
    | non => simp [seqO] at e
    | bl _ => simp [seqO] at e
    | str _ => simp [seqO] at e
    | tup _ => simp [seqO] at e
    | ref _ => simp [seqO] at e
theorem intsD_ints : ∀ ns : List Int, intsD (ns.map D.int) = some ns
  | [] => rfl
  | i :: r => by
    have ih := intsD_ints r
    unfold intsD at ih ⊢
    simp only [List.map_cons, seqO]
    rw [ih]; rfl
theorem Sim.intsL (S : Sim K κ φ h H) {i : Nat} {ds : List D} {ns : List Int} (e : Z.isL i h = some ds) (en : intsD ds = some ns) : SqL K H (φ i) (ns.map V.int) := by
  obtain ⟨vs, hs, r⟩ := S.isL e
  rw [intsD_of en] at r
  rw [r.ints] at hs
  exact hs
theorem foldl_max : ∀ (r : List Int) (i : Int), (∀ y ∈ i :: r, y ≤ r.foldl (fun a b => if b > a then b else a) i) ∧ r.foldl (fun a b => if b > a then b else a) i ∈ i :: r
  | [], i => by simp
  | b :: r, i => by
    obtain ⟨h1, h2⟩ := foldl_max r (if b > i then b else i)
    simp only [List.foldl_cons]
    refine ⟨fun y hy => ?_, ?_⟩
    · have h0 := h1 (if b > i then b else i) List.mem_cons_self
      have h3 := fun y hy => h1 y (List.mem_cons_of_mem _ hy)
      generalize List.foldl (fun a b => if b > a then b else a) (if b > i then b else i) r = m at h0 h3 ⊢
      rcases List.mem_cons.mp hy with hy | hy
      · split at h0 <;> omega
      · rcases List.mem_cons.mp hy with hy | hy
        · split at h0 <;> omega
        · exact h3 y hy
    · rcases List.mem_cons.mp h2 with e | h2
      · rw [e]
        split
        · exact List.mem_cons_of_mem _ List.mem_cons_self
        · exact List.mem_cons_self
      · exact List.mem_cons_of_mem _ (List.mem_cons_of_mem _ h2)
theorem foldl_min : ∀ (r : List Int) (i : Int), (∀ y ∈ i :: r, r.foldl (fun a b => if b < a then b else a) i ≤ y) ∧ r.foldl (fun a b => if b < a then b else a) i ∈ i :: r
  | [], i => by simp
  | b :: r, i => by
    obtain ⟨h1, h2⟩ := foldl_min r (if b < i then b else i)
    simp only [List.foldl_cons]
    refine ⟨fun y hy => ?_, ?_⟩
    · have h0 := h1 (if b < i then b else i) List.mem_cons_self
      have h3 := fun y hy => h1 y (List.mem_cons_of_mem _ hy)
      generalize List.foldl (fun a b => if b < a then b else a) (if b < i then b else i) r = m at h0 h3 ⊢
      rcases List.mem_cons.mp hy with hy | hy
      · split at h0 <;> omega
      · rcases List.mem_cons.mp hy with hy | hy
        · split at h0 <;> omega
        · exact h3 y hy
    · rcases List.mem_cons.mp h2 with e | h2
      · rw [e]
        split
        · exact List.mem_cons_of_mem _ List.mem_cons_self
        · exact List.mem_cons_self
      · exact List.mem_cons_of_mem _ (List.mem_cons_of_mem _ h2)
theorem maxL_of {ns : List Int} {m k : Int} (e : maxL ns = some m) (hk : k ∈ ns) (hy : ∀ y, y ∈ ns → y ≤ k) : k = m := by
  cases ns with
  | nil => cases e
  | cons i r =>
    simp only [maxL, Option.some.injEq] at e
    subst e
    obtain ⟨h1, h2⟩ := foldl_max r i
    exact Int.le_antisymm (h1 k hk) (hy _ h2)
theorem minL_of {ns : List Int} {m k : Int} (e : minL ns = some m) (hk : k ∈ ns) (hy : ∀ y, y ∈ ns → k ≤ y) : k = m := by
  cases ns with
  | nil => cases e
  | cons i r =>
    simp only [minL, Option.some.injEq] at e
    subst e
    obtain ⟨h1, h2⟩ := foldl_min r i
    exact Int.le_antisymm (hy _ h2) (h1 k hk)
theorem RVs.one_inv {n : Nat} {d : D} {vs : List V} (r : RVs φ n H [d] vs) : ∃ v, vs = [v] ∧ RV φ n H d v := by
  simp only [RVs] at r
  obtain ⟨v, r', rfl, q, rfl⟩ := r
  exact ⟨v, rfl, q⟩
theorem RVs.two_inv {n : Nat} {d d' : D} {vs : List V} (r : RVs φ n H [d, d'] vs) : ∃ v v', vs = [v, v'] ∧ RV φ n H d v ∧ RV φ n H d' v' := by
  simp only [RVs] at r
  obtain ⟨v, r', rfl, q, v', r2, rfl, q2, rfl⟩ := r
  exact ⟨v, v', rfl, q, q2⟩
theorem RVs.three_inv {n : Nat} {d d' d2 : D} {vs : List V} (r : RVs φ n H [d, d', d2] vs) : ∃ v v' v2, vs = [v, v', v2] ∧ RV φ n H d v ∧ RV φ n H d' v' ∧ RV φ n H d2 v2 := by
  simp only [RVs] at r
  obtain ⟨v, r', rfl, q, v', r2, rfl, q2, v3, r3, rfl, q3, rfl⟩ := r
  exact ⟨v, v', v3, rfl, q, q2, q3⟩
end
section
variable {X : Cx} {κ : Nat → Addr}
theorem cd_len : CallR X (.builtin "len") (rB X.K κ bLen) := by
  intro pins s σ H xs us Q I r ⟨φ, h, ds, S, q, p⟩
  unfold bLen at p
  split at p
  · (replace q := q.one_inv); obtain ⟨v, rfl, q⟩ := q
    split at p
    · rename_i hz
      rw [RV.str_iff] at q
      subst q
      exact call_len pins s σ H _ us Q I r ⟨_, _, rfl, ⟨hz, rfl⟩, p.of0 S (RV.int_iff.mpr rfl)⟩
    · exact False.elim p
  · (replace q := q.one_inv); obtain ⟨v, rfl, q⟩ := q
    rw [RV.tup_iff] at q
    obtain ⟨pp, vs, rfl, hp, q2⟩ := q
    exact call_len pins s σ H _ us Q I r ⟨_, _, rfl, .inr ⟨vs, SqT.of hp, q2.len.symm⟩, p.of0 S (RV.int_iff.mpr rfl)⟩
  · (replace q := q.one_inv); obtain ⟨v, rfl, q⟩ := q
    rw [RV.ref_iff] at q
    obtain ⟨hi, rfl⟩ := q
    split at p
    · rename_i e
      obtain ⟨us', hd, rr⟩ := S.dic e
      obtain ⟨u, rfl, ru⟩ := vals1 r
      obtain rfl : u = Value.ref _ := ru
      exact d_len I (.inl hd) fun t s' I' => ⟨.int us'.length, H, I', ⟨t, rfl⟩, by rw [rr.len]; exact p.of0 S (RV.int_iff.mpr rfl)⟩
    · split at p
      · rename_i ds' hl
        obtain ⟨vs, hs, rr⟩ := S.isL hl
        exact call_len pins s σ H _ us Q I r ⟨_, _, rfl, .inl ⟨vs, hs, rr.len.symm⟩, p.of0 S (RV.int_iff.mpr rfl)⟩
      · exact False.elim p
  · exact False.elim p
theorem cd_abs : CallR X (.builtin "abs") (rB X.K κ bAbs) := by
  intro pins s σ H xs us Q I r ⟨φ, h, ds, S, q, p⟩
  unfold bAbs at p
  split at p
  · (replace q := q.one_inv); obtain ⟨v, rfl, q⟩ := q
    rw [RV.int_iff] at q
    subst q
    exact call_abs pins s σ H _ us Q I r ⟨_, rfl, p.of0 S (RV.int_iff.mpr rfl)⟩
  · exact False.elim p
theorem cd_max (hc : X.calm = true) : CallR X (.builtin "max") (rB X.K κ bMax) := by
  intro pins s σ H xs us Q I r ⟨φ, h, ds, S, q, p⟩
  unfold bMax at p
  split at p
  · (replace q := q.two_inv); obtain ⟨v, v', rfl, q, q'⟩ := q
    rw [RV.int_iff] at q q'
    subst q q'
    exact call_max2 hc pins s σ H _ us Q I r ⟨_, _, rfl, p.of0 S (RV.int_iff.mpr rfl)⟩
  · rename_i i j k
    (replace q := q.three_inv); obtain ⟨v, v', v2, rfl, q, q', q2⟩ := q
    rw [RV.int_iff] at q q' q2
    subst q q' q2
    cases r with
    | cons r1 r =>
      cases r with
      | cons r2 r =>
        cases r with
        | cons r3 r =>
          cases r
          obtain ⟨t1, rfl⟩ := r1
          obtain ⟨t2, rfl⟩ := r2
          obtain ⟨t3, rfl⟩ := r3
          refine max_three_ints (I.ok.hd hc) fun h' tk k' => ⟨.int (if j > i then (if k > j then k else j) else (if k > i then k else i)), H, I.kept k', ?_, p.of0 S (RV.int_iff.mpr rfl)⟩
          by_cases h1 : j > i
          · rw [if_pos h1, if_pos h1]
            by_cases h2 : k > j
            · rw [if_pos h2, if_pos h2]; exact ⟨_, rfl⟩
            · rw [if_neg h2, if_neg h2]; exact ⟨_, rfl⟩
          · rw [if_neg h1, if_neg h1]
            by_cases h2 : k > i
            · rw [if_pos h2, if_pos h2]; exact ⟨_, rfl⟩
            · rw [if_neg h2, if_neg h2]; exact ⟨_, rfl⟩
  · (replace q := q.one_inv); obtain ⟨v, rfl, q⟩ := q
    rw [RV.ref_iff] at q
    obtain ⟨hi, rfl⟩ := q
    split at p
    · rename_i ds' hl
      split at p
      · rename_i ns en
        split at p
        · rename_i m em
          have hne : 0 < ns.length := by
            cases ns with
            | nil => cases em
            | cons _ _ => simp
          exact cr_max hc pins s σ H _ us Q I r ⟨_, ns, rfl, S.intsL hl en, hne, fun k hk hy => by rw [maxL_of em hk hy]; exact p.of0 S (RV.int_iff.mpr rfl)⟩
        · exact False.elim p
      · exact False.elim p
    · exact False.elim p
  · exact False.elim p
theorem cd_min (hc : X.calm = true) : CallR X (.builtin "min") (rB X.K κ bMin) := by
  intro pins s σ H xs us Q I r ⟨φ, h, ds, S, q, p⟩
  unfold bMin at p
  split at p
  · (replace q := q.two_inv); obtain ⟨v, v', rfl, q, q'⟩ := q
    rw [RV.int_iff] at q q'
    subst q q'
    exact call_min2 hc pins s σ H _ us Q I r ⟨_, _, rfl, p.of0 S (RV.int_iff.mpr rfl)⟩
  · (replace q := q.one_inv); obtain ⟨v, rfl, q⟩ := q
    rw [RV.ref_iff] at q
    obtain ⟨hi, rfl⟩ := q
    split at p
    · rename_i ds' hl
      split at p
      · rename_i ns en
        split at p
        · rename_i m em
          have hne : 0 < ns.length := by
            cases ns with
            | nil => cases em
            | cons _ _ => simp
          exact cr_min hc pins s σ H _ us Q I r ⟨_, ns, rfl, S.intsL hl en, hne, fun k hk hy => by rw [minL_of em hk hy]; exact p.of0 S (RV.int_iff.mpr rfl)⟩
        · exact False.elim p
      · exact False.elim p
    · exact False.elim p
  · exact False.elim p
theorem cd_sum (hc : X.calm = true) : CallR X (.builtin "sum") (rB X.K κ bSum) := by
  intro pins s σ H xs us Q I r ⟨φ, h, ds, S, q, p⟩
  unfold bSum at p
  split at p
  · (replace q := q.one_inv); obtain ⟨v, rfl, q⟩ := q
    rw [RV.ref_iff] at q
    obtain ⟨hi, rfl⟩ := q
    split at p
    · rename_i ds' hl
      split at p
      · rename_i ns en
        exact cr_sum hc pins s σ H _ us Q I r ⟨_, ns, rfl, S.intsL hl en, p.of0 S (RV.int_iff.mpr rfl)⟩
      · exact False.elim p
    · exact False.elim p
  · exact False.elim p
theorem cd_int : CallR X (.type "int") (rB X.K κ bInt) := by
  intro pins s σ H xs us Q I r ⟨φ, h, ds, S, q, p⟩
  unfold bInt at p
  split at p
  · (replace q := q.one_inv); obtain ⟨v, rfl, q⟩ := q
    rw [RV.int_iff] at q
    subst q
    exact call_int1 pins s σ H _ us Q I r (.inl ⟨_, rfl, p.of0 S (RV.int_iff.mpr rfl)⟩)
  · (replace q := q.one_inv); obtain ⟨v, rfl, q⟩ := q
    rw [RV.bl_iff] at q
    subst q
    exact call_int1 pins s σ H _ us Q I r (.inr ⟨_, rfl, p.of0 S (RV.int_iff.mpr rfl)⟩)
  · (replace q := q.one_inv); obtain ⟨v, rfl, q⟩ := q
    rw [RV.str_iff] at q
    subst q
    split at p
    · rename_i n en
      split at p
      · rename_i hz
        exact call_int_str pins s σ H _ us Q I r ⟨_, _, rfl, en, hz, p.of0 S (RV.int_iff.mpr rfl)⟩
      · exact False.elim p
    · exact False.elim p
  · exact False.elim p
theorem cd_str : CallR X (.type "str") (rB X.K κ bStr) := by
  intro pins s σ H xs us Q I r ⟨φ, h, ds, S, q, p⟩
  unfold bStr at p
  split at p
  · (replace q := q.one_inv); obtain ⟨v, rfl, q⟩ := q
    split at p
    · rename_i hz
      rw [RV.int_iff] at q
      subst q
      exact call_str_int pins s σ H _ us Q I r ⟨_, rfl, hz, p.of0 S (RV.str_iff.mpr rfl)⟩
    · exact False.elim p
  · (replace q := q.one_inv); obtain ⟨v, rfl, q⟩ := q
    rw [RV.str_iff] at q
    subst q
    exact SkE.call_str_str pins s σ H _ us Q I r ⟨_, rfl, p.of0 S (RV.str_iff.mpr rfl)⟩
  · exact False.elim p
theorem cd_dvm : CallR X (.builtin "divmod") (rB X.K κ bDvm) := by
  intro pins s σ H xs us Q I r ⟨φ, h, ds, S, q, p⟩
  unfold bDvm at p
  split at p
  · rename_i i j
    (replace q := q.two_inv); obtain ⟨v, v', rfl, q, q'⟩ := q
    split at p
    · rename_i hz
      rw [RV.int_iff] at q q'
      subst q q'
      have h2 := hz.2
      unfold divOk at h2
      rw [Bool.and_eq_true] at h2
      exact call_divmodW pins s σ H _ us Q I r ⟨_, _, rfl, ⟨hz.1, PyProof.noPylong_of_log2 (of_decide_eq_true h2.2)⟩, fun t ht => p.newT S ht (RVs.cons (RV.int_iff.mpr rfl) (RVs.one (RV.int_iff.mpr rfl)))⟩
    · exact False.elim p
  · exact False.elim p
end

/-! ### isinstance -/
def tyName (d : D) (h : HP) : Option String := match d with
  | .non => some "NoneType"
  | .bl _ => some "bool"
  | .int _ => some "int"
  | .str _ => some "str"
  | .tup _ => some "tuple"
  | .ref i => match h[i]? with
    | some (.lst _) => some "list"
    | some (.fz _) => some "list"
    | some (.dic _) => some "dict"
    | some (.dct _) => some "dict"
    | _ => none
def eIs (T : String) (a : ME) : ME := fun C e h => (a C e h).bind fun x h => match tyName x h with
  | some n => .ok (.bl (n == T || (n == "bool" && T == "int"))) h
  | none => .no
def isTs : List String := ["int", "bool", "str", "list", "tuple", "dict"]
theorem kit_all : (["NoneType", "bool", "int", "str", "tuple", "list", "dict"].all fun n => isTs.all fun T => kitB n T == some (n == T || (n == "bool" && T == "int"))) = true := by decide +kernel
theorem kit_is {n T : String} (hn : n ∈ ["NoneType", "bool", "int", "str", "tuple", "list", "dict"]) (hT : T ∈ isTs) : kitB n T = some (n == T || (n == "bool" && T == "int")) := by
  have h := List.all_eq_true.mp kit_all n hn
  have h2 := List.all_eq_true.mp h T hT
  exact beq_iff_eq.mp h2
theorem tyName_mem {d : D} {h : HP} {n : String} (e : tyName d h = some n) : n ∈ ["NoneType", "bool", "int", "str", "tuple", "list", "dict"] := by
  unfold tyName at e
  split at e
  iterate 5 (cases e; simp)
  split at e <;> first | (cases e; simp) | cases e
theorem tyX_of {K : PySem.W.Frag} {κ φ : Nat → Addr} {h : HP} {H : Hp} {d : D} {v : V} {n : String} (S : Sim K κ φ h H) (r : RV φ h.length H d v) (e : tyName d h = some n) : TyX K H v (.type n) := by
  unfold tyName at e
  split at e
  · cases e; rw [RV.non_iff] at r; subst r; exact .base .non
  · cases e; rw [RV.bl_iff] at r; subst r; exact .base (.bl _)
  · cases e; rw [RV.int_iff] at r; subst r; exact .base (.int _)
  · cases e; rw [RV.str_iff] at r; subst r; exact .base (.str _)
  · cases e; rw [RV.tup_iff] at r; obtain ⟨p, vs, rfl, hp, _⟩ := r; exact .base (.tup hp)
  · rw [RV.ref_iff] at r
    obtain ⟨hi, rfl⟩ := r
    split at e
    · rename_i q; cases e; obtain ⟨vs, hv, _⟩ := S.lst q; exact .base (.lst hv)
    · rename_i q
      cases e
      obtain ⟨vs, hv, _⟩ := S.obj _ _ q
      rcases hv with ⟨o, hv⟩ | ⟨o, its, m, hk, hc, _⟩
      · exact .base (.frz hv)
      · exact .kList hk hc
    · rename_i q; cases e; obtain ⟨vs, hv, _⟩ := S.dic q; exact .base (.dK hv)
    · rename_i q; cases e; obtain ⟨vs, hv, _⟩ := S.dct q; exact .base (.dT hv)
    · cases e
section
variable {X : Cx} {κ : Nat → Addr} {C : Ctx} {a b c e : Expr} {es : List Expr} {ma mb mc : ME} {ta tb : MT} {mas : MA} {pos p2 p3 : Pos}
theorem se_is {T : String} {Ts : Str} (ha : SE X κ C a ma) (hm : X.mg "isinstance" = none) (hT : X.mg Ts = none) (hv : bootBuiltins Ts = some (.type T)) (hTs : T ∈ isTs := by decide) (hg : Gl X "isinstance" := by rfl) (hgT : Gl X Ts := by rfl)
    (hn : Ts ≠ "__name__" := by decide) (hdb : (Ts == ("__debug__" : Str)) = false := by decide)
    (hs1 : starEach [a, .Name Ts p3] X.env = (false, eval a X.env) :: starEach [.Name Ts p3] X.env := by rfl) (hs2 : starEach [.Name Ts p3] X.env = (false, eval (.Name Ts p3) X.env) :: starEach [] X.env := by rfl)
    (hpl : (backTo pos (starEach [.Name Ts p3] X.env)).any (·.1) = false := by rfl) : SE X κ C (.Call (.Name "isinstance" p2) [a, .Name Ts p3] [] pos) (eIs T ma) :=
  SE.mk' (pe_callB call_isi hg hm (by decide +kernel) (pa_cons ha.pe (pa_cons (pe_bltn (v := .ty T) hgT hT hv rfl hn hdb) pa_nil hs2) hs1) (by decide) (by decide) hs1 hpl) fun φ ev h σ H Q S r p => by
    obtain ⟨dx, h1, e1, p⟩ := Post.bind p
    refine td_of S r e1 fun φ1 H1 v st S1 r1 q1 => ?_
    split at p
    · rename_i n en
      exact ⟨v, .ty T, .type n, .type T, _, rfl, .ty T, tyX_of S1 q1 en, kit_ty (kit_is (tyName_mem en) hTs), p φ1 H1 _ st S1 (RV.bl_iff.mpr rfl)⟩
    · exact False.elim p

/-! ### fields -/
/-- what is known of the field f of own classes -/
def FldOk (K : PySem.W.Frag) (κ : Nat → Addr) (cs : List Nat) (f : Str) : Prop := ∀ c ∈ cs, Cls K (κ c) ∧ NoAttr K (κ c) f
theorem se_fld {cs : List Nat} {f : Str} (hf : FldOk X.K κ cs f) (ha : SE X κ C a ma) (hb : attributeBase a f X.env (eval a X.env) = eval a X.env := by rfl) : SE X κ C (.Attribute a f pos) (eFld cs ma f) :=
  SE.mk' (pe_fld ha.pe hb) fun φ ev h σ H Q S r p => by
    obtain ⟨dx, h1, e1, p⟩ := Post.bind p
    refine td_of S r e1 fun φ1 H1 v st S1 r1 q1 => ?_
    split at p
    · rw [RV.ref_iff] at q1
      obtain ⟨hi, rfl⟩ := q1
      split at p
      · rename_i c fs e
        obtain ⟨dx, us, hu, rr⟩ := S1.ins e
        split at p
        · rename_i hc
          split at p
          · rename_i d ed
            obtain ⟨w, e2, q2⟩ := rr.look ed
            exact ⟨_, _, dx, us, w, rfl, hu, (hf c hc).1, (hf c hc).2, e2, p φ1 H1 w st S1 q2⟩
          · exact False.elim p
        · exact False.elim p
      · exact False.elim p
    · exact False.elim p
end

/-! ### own defs -/
/-- what a call of a def is worth -/
def spD (K : PySem.W.Frag) (κ : Nat → Addr) (np : Nat) (f : List D → HP → R D) : Sp := fun vs H Q _ => vs.length = np ∧ ∃ φ h ds, Sim K κ φ h H ∧ RVs φ h.length H ds vs ∧ Post K κ φ h H (f ds h) Q
/-- the def answers to so many arguments alone -/
def Ary (np : Nat) (f : List D → HP → R D) : Prop := ∀ ds h, ds.length ≠ np → f ds h = .no
structure FnF (P : Program) (w : World) (K : PySem.W.Frag) (mg : Str → Option Value) (base : Heap) (κ : Nat → Addr) (k : Nat) (nm : Str) (dfs : List Int) (f : List D → HP → R D) : Prop where
  ex : ∃ (fa : Addr) (fd : FuncData) (ps : List Str) (us : List Value), mg nm = some (.ref fa) ∧ PySem.W.keepIn K (.ref fa) = true ∧ Binds K fd ps [] ∧ Binds K fd ps us ∧ Vals (dfs.map V.int) us ∧ Ary ps.length f ∧ FnOk P w K mg base CX0 k fa fd ps (spD K κ ps.length f)
structure MeF (P : Program) (w : World) (K : PySem.W.Frag) (mg : Str → Option Value) (base : Heap) (κ : Nat → Addr) (k : Nat) (c : Nat) (nm : Str) (f : List D → HP → R D) : Prop where
  ex : ∃ (fa : Addr) (fd : FuncData) (ps : List Str), Cls K (κ c) ∧ Meth K (κ c) nm fa ∧ Binds K fd ps [] ∧ Ary ps.length f ∧ FnOk P w K mg base CX0 k fa fd ps (spD K κ ps.length f)
structure MkF (P : Program) (w : World) (K : PySem.W.Frag) (mg : Str → Option Value) (base : Heap) (κ : Nat → Addr) (k : Nat) (c : Nat) (nm : Str) (f : List D → HP → R D) : Prop where
  ex : ∃ (fa : Addr) (fd : FuncData) (ps : List Str), mg nm = some (.ref (κ c)) ∧ Mk K (κ c) fa ∧ Binds K fd ps [] ∧ Ary ps.length f ∧ FnOk P w K mg base CX0 k fa fd ps (spD K κ ps.length f)
/-- a new instance is laid -/
theorem Sim.make {K : PySem.W.Frag} {κ φ : Nat → Addr} {h : HP} {H : Hp} {x dx : Addr} {c : Nat} (S : Sim K κ φ h H) (hx : H x = none) (hd : H dx = none) (ne : dx ≠ x) :
    Step φ h H (ext φ h.length x) (h ++ [.ins c []]) (upd (upd H dx (.own x)) x (.ins (κ c) dx [])) ∧ Sim K κ (ext φ h.length x) (h ++ [.ins c []]) (upd (upd H dx (.own x)) x (.ins (κ c) dx [])) := by
  have S1 : Sim K κ φ h (upd H dx (.own x)) := S.temp hd
  have t1 : Step φ h H φ h (upd H dx (.own x)) := step_temp S hd
  have hx1 : upd H dx (.own x) x = none := by rw [upd_ne (Ne.symm ne)]; exact hx
  exact ⟨t1.trans (step_new S1 hx1), S1.new hx1 fun st => ⟨dx, [], upd_same, by simp [RKs]⟩⟩
theorem Ary.len {np : Nat} {f : List D → HP → R D} (a : Ary np f) {ds : List D} {h h' : HP} {d : D} (e : f ds h = .ok d h') : ds.length = np := by
  by_cases hn : ds.length = np
  · exact hn
  · rw [a ds h hn] at e; cases e
theorem Post.ok {K : PySem.W.Frag} {κ φ : Nat → Addr} {h : HP} {H : Hp} {r : R D} {Q : VK} (p : Post K κ φ h H r Q) : ∃ d h', r = .ok d h' := by
  cases r with
  | ok d h' => exact ⟨d, h', rfl⟩
  | ex _ _ _ => exact False.elim p
  | no => exact False.elim p
section
variable {X : Cx} {κ : Nat → Addr} {C : Ctx} {a b c e o : Expr} {es : List Expr} {ma mb mc mo : ME} {ta tb : MT} {mas : MA} {pos p2 p3 apos : Pos} {j k : Nat}
/-- f(e, ..), every argument given -/
theorem se_call {x : Str} {n : Nat} {dfs : List Int} (F : FnF X.prog X.w X.K X.mg X.base κ k x dfs (C.call n)) (hr : Room k X.A) (ha : SA X κ C (e :: es) mas) (hg : Gl X x := by rfl) (hdb : (x == ("__debug__" : Str)) = false := by decide)
    (he : starEach (e :: es) X.env = (false, eval e X.env) :: starEach es X.env := by rfl) (hpl : (backTo pos (starEach es X.env)).any (·.1) = false := by rfl) : SE X κ C (.Call (.Name x p2) (e :: es) [] pos) (eCall n mas []) := by
  obtain ⟨fa, fd, ps, us, hm, hk, hb, _, _, ar, G⟩ := F.ex
  refine SE.mk' (pe_call G hr hg hm hk hb .nil pass0 ha.pa hdb he hpl) fun φ ev h σ H Q S r p => ?_
  obtain ⟨ds, h1, e1, p⟩ := Post.bind p
  refine ta_of S r e1 fun φ1 H1 vs st S1 r1 q1 => ?_
  rw [List.append_nil] at p ⊢
  obtain ⟨d, h', ed⟩ := p.ok
  exact ⟨by rw [q1.len]; exact ar.len ed, φ1, h1, ds, S1, q1, p.step st⟩
/-- f(e, ..), the defaults filled up -/
theorem se_calld {x : Str} {n : Nat} {dfs : List Int} {dds : List D} (F : FnF X.prog X.w X.K X.mg X.base κ k x dfs (C.call n)) (hr : Room k X.A) (ha : SA X κ C (e :: es) mas) (hg : Gl X x := by rfl) (hdb : (x == ("__debug__" : Str)) = false := by decide)
    (he : starEach (e :: es) X.env = (false, eval e X.env) :: starEach es X.env := by rfl) (hpl : (backTo pos (starEach es X.env)).any (·.1) = false := by rfl) (hds : dfs.map D.int = dds := by rfl) : SE X κ C (.Call (.Name x p2) (e :: es) [] pos) (eCall n mas dds) := by
  subst hds
  obtain ⟨fa, fd, ps, us, hm, hk, _, hb, hv, ar, G⟩ := F.ex
  refine SE.mk' (pe_call G hr hg hm hk hb hv pass0 ha.pa hdb he hpl) fun φ ev h σ H Q S r p => ?_
  obtain ⟨ds, h1, e1, p⟩ := Post.bind p
  refine ta_of S r e1 fun φ1 H1 vs st S1 r1 q1 => ?_
  obtain ⟨d, h', ed⟩ := p.ok
  have q2 := q1.append (RVs.of_ints (φ := φ1) (n := h1.length) (H := H1) (ns := dfs))
  exact ⟨by rw [q2.len]; exact ar.len ed, φ1, h1, _, S1, q2, p.step st⟩
theorem se_call0 {x : Str} {n : Nat} {dfs : List Int} (F : FnF X.prog X.w X.K X.mg X.base κ k x dfs (C.call n)) (hr : Room k X.A) (hg : Gl X x := by rfl) (hdb : (x == ("__debug__" : Str)) = false := by decide) : SE X κ C (.Call (.Name x p2) [] [] pos) (eCall n aN []) := by
  obtain ⟨fa, fd, ps, us, hm, hk, hb, _, _, ar, G⟩ := F.ex
  refine SE.mk' (pe_call0 G hr hg hm hk hb .nil pass0 hdb) fun φ ev h σ H Q S r p => ?_
  have p : Post X.K κ φ h H (C.call n [] h) Q := p
  obtain ⟨d, h', ed⟩ := p.ok
  exact ⟨ar.len ed, φ, h, [], S, by simp [RVs], p⟩
/-- o.m(e, ..), o of one of the classes cs -/
theorem se_meth {cs : List Nat} {m : Str} {n : Nat} {pl : Sem Bool} (F : ∀ c ∈ cs, MeF X.prog X.w X.K X.mg X.base κ k c m (C.meth c n)) (hr : Room k X.A) (ho : SE X κ C o mo) (ha : SA X κ C (e :: es) mas)
    (hst : starEach (e :: es) X.env = (false, eval e X.env) :: starEach es X.env := by rfl) (hpl : (backTo pos (starEach es X.env)).any (·.1) = false := by rfl)
    (ht : eval (.Call (.Attribute o m apos) (e :: es) [] pos) X.env = (do { let ov ← eval o X.env; standAt apos.atName; let (f, first) ← holding [ov] (getMethod ov m pl); callWith pos f first (backTo pos (starEach (e :: es) X.env)) (backToKw pos (keywordEach [] X.env)) }) := by rfl) : SE X κ C (.Call (.Attribute o m apos) (e :: es) [] pos) (eMeth cs mo n m mas) := by
  refine ⟨⟨fun pins s σ H Q I ⟨φ, ev, h, S, r, p⟩ => ?_⟩⟩
  obtain ⟨dx, h1, e1, p⟩ := Post.bind p
  split at p
  · rename_i i
    split at p
    · rename_i c fs ei
      split at p
      · rename_i hc
        obtain ⟨ds, h2, e2, p⟩ := Post.bind p
        obtain ⟨d, h', ed⟩ := p.ok
        obtain ⟨fa, fd, ps, hcl, hme, hb, ar, G⟩ := (F c hc.1).ex
        refine (pe_meth ho.pe hcl hme G hr hb .nil pass0 ha.pa hst hpl ht).run pins s σ H Q I ?_
        refine td_of S r e1 fun φ1 H1 v st S1 r1 q1 => ?_
        have q0 := q1
        rw [RV.ref_iff] at q1
        obtain ⟨hi, rfl⟩ := q1
        obtain ⟨dx, us, hu, rr⟩ := S1.ins ei
        refine ⟨_, dx, us, rfl, hu, rr.look0 (Option.isNone_iff_eq_none.mp hc.2), ?_⟩
        refine ta_of S1 r1 e2 fun φ2 H2 vs st2 S2 r2 q2 => ?_
        rw [List.append_nil]
        have q3 := RVs.cons (q0.step S1 st2) q2
        exact ⟨by rw [q3.len]; exact ar.len ed, φ2, h2, _, S2, q3, p.step (st.trans st2)⟩
      · exact False.elim p
    · exact False.elim p
  · exact False.elim p
theorem se_meth0 {cs : List Nat} {m : Str} {n : Nat} {pl : Sem Bool} (F : ∀ c ∈ cs, MeF X.prog X.w X.K X.mg X.base κ k c m (C.meth c n)) (hr : Room k X.A) (ho : SE X κ C o mo)
    (ht : eval (.Call (.Attribute o m apos) [] [] pos) X.env = (do { let ov ← eval o X.env; standAt apos.atName; let (f, first) ← holding [ov] (getMethod ov m pl); callWith pos f first (backTo pos (starEach [] X.env)) (backToKw pos (keywordEach [] X.env)) }) := by rfl) : SE X κ C (.Call (.Attribute o m apos) [] [] pos) (eMeth cs mo n m aN) := by
  refine ⟨⟨fun pins s σ H Q I ⟨φ, ev, h, S, r, p⟩ => ?_⟩⟩
  obtain ⟨dx, h1, e1, p⟩ := Post.bind p
  split at p
  · rename_i i
    split at p
    · rename_i c fs ei
      split at p
      · rename_i hc
        have p : Post X.K κ φ h H (C.meth c n [.ref i] h1) Q := p
        obtain ⟨d, h', ed⟩ := p.ok
        obtain ⟨fa, fd, ps, hcl, hme, hb, ar, G⟩ := (F c hc.1).ex
        refine (pe_meth0 ho.pe hcl hme G hr hb .nil pass0 ht).run pins s σ H Q I ?_
        refine td_of S r e1 fun φ1 H1 v st S1 r1 q1 => ?_
        have q0 := q1
        rw [RV.ref_iff] at q1
        obtain ⟨hi, rfl⟩ := q1
        obtain ⟨dx, us, hu, rr⟩ := S1.ins ei
        refine ⟨_, dx, us, rfl, hu, rr.look0 (Option.isNone_iff_eq_none.mp hc.2), ?_⟩
        have q3 := RVs.one q0
        exact ⟨(show [V.ref (φ1 i)].length = ps.length by rw [q3.len]; exact ar.len ed), φ1, h1, _, S1, q3, p.step st⟩
      · exact False.elim p
    · exact False.elim p
  · exact False.elim p
/-- C(e, ..), an own class with an __init__ -/
theorem se_make {x : Str} {c : Nat} {me : Nat → Nat → List D → HP → R D} (hC : C.make = mkBy me) (F : MkF X.prog X.w X.K X.mg X.base κ k c x (me c 0)) (hr : Room (k + 1) X.A) (ha : SA X κ C (e :: es) mas) (hg : Gl X x := by rfl) (hdb : (x == ("__debug__" : Str)) = false := by decide)
    (he : starEach (e :: es) X.env = (false, eval e X.env) :: starEach es X.env := by rfl) (hpl : (backTo pos (starEach es X.env)).any (·.1) = false := by rfl) : SE X κ C (.Call (.Name x p2) (e :: es) [] pos) (eMake c mas) := by
  obtain ⟨fa, fd, ps, hm, M, hb, ar, G⟩ := F.ex
  refine SE.mk' (pe_make M G hr hg hm hb .nil pass0 ha.pa hdb he hpl) fun φ ev h σ H Q S r p => ?_
  obtain ⟨ds, h1, e1, p⟩ := Post.bind p
  rw [hC] at p
  obtain ⟨d, h', ed, p⟩ := Post.bind p
  refine ta_of S r e1 fun φ1 H1 vs st S1 r1 q1 => ?_
  intro x dx hx hdx ne
  obtain ⟨t2, S2⟩ := S1.make (c := c) hx hdx ne
  rw [List.append_nil]
  have q3 : RVs (Z.ext φ1 h1.length x) (h1 ++ [O.ins c []]).length (upd (upd H1 dx (.own x)) x (.ins (κ c) dx [])) (.ref h1.length :: ds) (.ref x :: vs) := RVs.cons (RV.ref_iff.mpr ⟨by simp, by rw [ext_at]⟩) (q1.step S1 t2)
  refine ⟨by rw [q3.len]; exact ar.len ed, _, _, _, S2, q3, ?_⟩
  rw [ed]
  intro φ3 H3 v st3 S3 rv
  split at p
  · rw [RV.non_iff] at rv
    have hl : h1.length < (h1 ++ [O.ins c []]).length := by simp
    exact ⟨rv, p φ3 H3 _ ((st.trans t2).trans st3) S3 (RV.ref_iff.mpr ⟨Nat.lt_of_lt_of_le hl st3.len, by rw [st3.agree _ hl, ext_at]⟩)⟩
  · exact False.elim p
theorem se_make0 {x : Str} {c : Nat} {me : Nat → Nat → List D → HP → R D} (hC : C.make = mkBy me) (F : MkF X.prog X.w X.K X.mg X.base κ k c x (me c 0)) (hr : Room (k + 1) X.A) (hg : Gl X x := by rfl) (hdb : (x == ("__debug__" : Str)) = false := by decide) : SE X κ C (.Call (.Name x p2) [] [] pos) (eMake c aN) := by
  obtain ⟨fa, fd, ps, hm, M, hb, ar, G⟩ := F.ex
  refine SE.mk' (pe_make0 M G hr hg hm hb .nil pass0 hdb) fun φ ev h σ H Q S r p => ?_
  have p : Post X.K κ φ h H (C.make c [] h) Q := p
  rw [hC] at p
  obtain ⟨d, h', ed, p⟩ := Post.bind p
  intro x dx hx hdx ne
  obtain ⟨t2, S2⟩ := S.make (c := c) hx hdx ne
  have q3 : RVs (Z.ext φ h.length x) (h ++ [O.ins c []]).length (upd (upd H dx (.own x)) x (.ins (κ c) dx [])) [.ref h.length] [.ref x] := RVs.one (RV.ref_iff.mpr ⟨by simp, by rw [ext_at]⟩)
  refine ⟨(show [V.ref x].length = ps.length by rw [q3.len]; exact ar.len ed), _, _, _, S2, q3, ?_⟩
  rw [ed]
  intro φ3 H3 v st3 S3 rv
  split at p
  · rw [RV.non_iff] at rv
    have hl : h.length < (h ++ [O.ins c []]).length := by simp
    exact ⟨rv, p φ3 H3 _ (t2.trans st3) S3 (RV.ref_iff.mpr ⟨Nat.lt_of_lt_of_le hl st3.len, by rw [st3.agree _ hl, ext_at]⟩)⟩
  · exact False.elim p
end
end Z
/-! Z6: targets, statements, loops, comprehensions, a def by its body. -/
namespace Z
open PySem L2 PyProof.Rows

/-! ### targets -/
def gsN : List Nat → TGs
  | [] => gNil
  | i :: r => gCons (gName i) (gsN r)
structure SGs (X : Cx) (es : List Expr) (is : List Nat) : Prop where
  pgs : PGs X es (gsN is)
def tG (K : PySem.W.Frag) (κ : Nat → Addr) (g : Tg) : TG := fun v σ H Q => ∃ φ e h d, Sim K κ φ h H ∧ EnvR φ h.length H e σ ∧ RV φ h.length H d v ∧ ∃ e', g e d = some e' ∧ ∀ σ', EnvR φ h.length H e' σ' → Q σ' H
structure SG (X : Cx) (κ : Nat → Addr) (t : Expr) (g : Tg) : Prop where
  pg : PG X t (tG X.K κ g)
section
variable {K : PySem.W.Frag} {κ φ φ' : Nat → Addr} {h h' : HP} {H H' : Hp}
theorem gsN_of {n : Nat} {Q : L2.St → Hp → Prop} : ∀ {is : List Nat} {ds : List D} {vs : List V} {e : Ev} {σ : L2.St}, ds.length = is.length → EnvR φ n H e σ → RVs φ n H ds vs →
    (∀ σ', EnvR φ n H ((is.zip ds).foldl (fun e p => e.set p.1 (some p.2)) e) σ' → Q σ' H) → gsN is vs σ H Q
  | [], [], vs, e, σ, _, r, q, k => by
    simp only [RVs] at q
    exact ⟨q, k σ r⟩
  | i :: is, d :: ds, vs, e, σ, hl, r, q, k => by
    simp only [RVs] at q
    obtain ⟨v, vr, rfl, q1, q2⟩ := q
    exact ⟨v, vr, rfl, gsN_of (is := is) (ds := ds) (by simpa using hl) (r.set q1 i) q2 k⟩
  | [], _ :: _, _, _, _, hl, _, _, _ => by simp at hl
  | _ :: _, [], _, _, _, hl, _, _, _ => by simp at hl
end
section
variable {X : Cx} {κ : Nat → Addr} {C : Ctx} {a b c e o : Expr} {es : List Expr} {ma mb mc mo : ME} {ta tb : MT} {mas : MA} {pos p2 p3 apos : Pos} {g : Tg}
theorem sgs_nil : SGs X [] [] := ⟨pgs_nil⟩
theorem sgs_cons {i : Nat} {x : Str} {is : List Nat} (hN : X.N.Nodup) (r : SGs X es is) (hi : X.N[i]? = some x := by rfl) (hx : Loc X.env.scope x := by first | exact Or.inl rfl | exact Or.inr rfl)
    (hf : X.fn x = true ∨ X.env.scope.names.lookup x = some .local := by first | exact .inl rfl | exact .inr rfl | assumption)
    (hs : (assignEach (Expr.Name x pos :: es) X.env).map (·.2) = assign (Expr.Name x pos) X.env :: (assignEach es X.env).map (·.2) := by rfl) : SGs X (.Name x pos :: es) (i :: is) := ⟨pgs_cons (pg_name hN hi hx hf) r.pgs hs⟩
theorem sg_n {i : Nat} {x : Str} (hN : X.N.Nodup) (hi : X.N[i]? = some x := by rfl) (hx : Loc X.env.scope x := by first | exact Or.inl rfl | exact Or.inr rfl)
    (hf : X.fn x = true ∨ X.env.scope.names.lookup x = some .local := by first | exact .inl rfl | exact .inr rfl | assumption) : SG X κ (.Name x pos) (gN i) := by
  refine ⟨⟨fun pins s σ H v u Q I r ⟨φ, ev, h, d, S, er, q, e', ge, k⟩ => ?_⟩⟩
  unfold gN at ge
  cases ge
  exact (pg_name hN hi hx hf).run pins s σ H v u Q I r (k _ (er.set q i))
theorem sg_t {is : List Nat} {k : Nat} {n : Nat} (hc : X.calm = true) (hs : SGs X es is) (hn : (assignEach es X.env).length = n := by rfl) (hst : (assignEach es X.env).findIdx? (·.1) = none := by rfl) (hn2 : is.length = n := by rfl) : SG X κ (.Tuple es k pos) (gT is) := by
  refine ⟨⟨fun pins s σ H v u Q I r ⟨φ, ev, h, d, S, er, q, e', ge, kk⟩ => ?_⟩⟩
  unfold gT at ge
  cases d with
  | tup ds =>
    simp only at ge
    split at ge
    · rename_i hl
      cases ge
      rw [RV.tup_iff] at q
      obtain ⟨p, vs, rfl, hp, q⟩ := q
      exact (pg_tup hc hs.pgs hn hst).run pins s σ H _ u Q I r ⟨p, vs, rfl, SqT.of hp, by rw [q.len, hl, hn2], gsN_of hl er q kk⟩
    · cases ge
  | non => cases ge
  | bl _ => cases ge
  | int _ => cases ge
  | str _ => cases ge
  | ref _ => cases ge

/-! ### plain statements -/
variable {ms mr : MS} {st : Stmt} {sts : List Stmt}
theorem ss_ex (ha : SE X κ C a ma) (hs : swapsWith a none pos.line X.env = pure false := by rfl) : SS X κ C (.Expr a pos) (sEx ma) :=
  SS.mk' (ps_expr ha.pe hs) fun φ ev h σ H Dn S r p => by
    obtain ⟨d, h1, e1, p⟩ := PostS.bind p
    exact td_of S r e1 fun φ1 H1 v st S1 r1 q1 => p φ1 H1 σ st S1 r1
theorem ss_doc {x : Str} {j : Nat} : SS X κ C (.Expr (.Constant (.str x) j p2) pos) sSk := SS.mk' ps_doc fun φ ev h σ H Dn S r p => p φ H σ Step.refl S r
theorem ss_ps : SS X κ C (.Pass pos) sSk := SS.mk' ps_pass fun φ ev h σ H Dn S r p => p φ H σ Step.refl S r
theorem ss_bk : SS X κ C (.Break pos) sBk := SS.mk' ps_break fun φ ev h σ H Dn S r p => p φ H σ Step.refl S r
theorem ss_ct : SS X κ C (.Continue pos) sCt := SS.mk' ps_continue fun φ ev h σ H Dn S r p => p φ H σ Step.refl S r
theorem ss_rt (ha : SE X κ C a ma) : SS X κ C (.Return (some a) pos) (sRt ma) :=
  SS.mk' (ps_ret ha.pe) fun φ ev h σ H Dn S r p => by
    obtain ⟨d, h1, e1, p⟩ := PostS.bind p
    exact td_of S r e1 fun φ1 H1 v st S1 r1 q1 => p φ1 H1 v st S1 q1
theorem ss_rn : SS X κ C (.Return none pos) sRN := SS.mk' ps_retN fun φ ev h σ H Dn S r p => p φ H .non Step.refl S (RV.non_iff.mpr rfl)
theorem ss_no : SS X κ C st sNo := SS.mk' ps_never fun φ ev h σ H Dn S r p => p
/-- name = a -/
theorem ss_as {i : Nat} {x : Str} (hN : X.N.Nodup) (ha : SE X κ C a ma) (hi : X.N[i]? = some x := by rfl) (hx : Loc X.env.scope x := by first | exact Or.inl rfl | exact Or.inr rfl) (hs : swapsWith a (some (.Name x p2)) pos.line X.env = pure false := by rfl)
    (hf : X.fn x = true ∨ X.env.scope.names.lookup x = some .local := by first | exact .inl rfl | exact .inr rfl | assumption) : SS X κ C (.Assign [.Name x p2] a pos) (sAs (gN i) ma) :=
  SS.mk' (ps_set hN hi hx ha.pe hs hf) fun φ ev h σ H Dn S r p => by
    obtain ⟨d, h1, e1, p⟩ := PostS.bind p
    exact td_of S r e1 fun φ1 H1 v st S1 r1 q1 => p φ1 H1 _ st S1 (r1.set q1 i)
/-- target = a -/
theorem ss_at {tg : Expr} (hg : SG X κ tg g) (ha : SE X κ C a ma) (hs : swapsWithSole [tg] a pos.line X.env = pure false := by rfl) (hw : swappedStores [tg] a X.env = pure none := by rfl) (h1 : (assignEach [tg] X.env).map (·.2) = [assign tg X.env] := by rfl) : SS X κ C (.Assign [tg] a pos) (sAs g ma) :=
  SS.mk' (ps_asg ha.pe hg.pg hs hw h1) fun φ ev h σ H Dn S r p => by
    obtain ⟨d, h1, e1, p⟩ := PostS.bind p
    refine td_of S r e1 fun φ1 H1 v st S1 r1 q1 => ?_
    split at p
    · rename_i e' ge
      exact ⟨φ1, ev, h1, d, S1, r1, q1, e', ge, fun σ' r2 => p φ1 H1 σ' st S1 r2⟩
    · exact False.elim p
/-- x, y = a, b -/
theorem ss_pr {i j : Nat} {x y : Str} {kt k2 : Nat} {px py pt pt2 : Pos} (hc : X.calm = true) (hN : X.N.Nodup) (ha : SE X κ C a ma) (hb : SE X κ C b mb) (hi : X.N[i]? = some x := by rfl) (hj : X.N[j]? = some y := by rfl) (hij : i ≠ j := by decide)
    (hx : X.env.scope.names.lookup x = some .local := by rfl) (hy : X.env.scope.names.lookup y = some .local := by rfl)
    (hw : swappedStores [.Tuple [.Name x px, .Name y py] kt pt] (.Tuple [a, b] k2 pt2) X.env = pure (some [x, y]) := by rfl)
    (hs : swapsWithSole [.Tuple [.Name x px, .Name y py] kt pt] (.Tuple [a, b] k2 pt2) pos.line X.env = pure false := by rfl)
    (h1 : starEach [a, b] X.env = (false, eval a X.env) :: starEach [b] X.env := by rfl) (h2 : starEach [b] X.env = (false, eval b X.env) :: starEach [] X.env := by rfl) :
    SS X κ C (.Assign [.Tuple [.Name x px, .Name y py] kt pt] (.Tuple [a, b] k2 pt2) pos) (sPr i j ma mb) :=
  SS.mk' (ps_par hc hN hi hj hij hx hy (pa_cons ha.pe (pa_cons hb.pe pa_nil h2) h1) hw hs) fun φ ev h σ H Dn S r p => by
    obtain ⟨d, h1, e1, p⟩ := PostS.bind p
    obtain ⟨d2, h2, e2, p⟩ := PostS.bind p
    exact td_of S r e1 fun φ1 H1 v st S1 r1 q1 => td_of S1 r1 e2 fun φ2 H2 w st2 S2 r2 q2 => ⟨v, w, rfl, p φ2 H2 _ (st.trans st2) S2 ((r2.set (q1.step S1 st2) i).set q2 j)⟩
theorem ss_if {p q : List Stmt} (hc : ST X κ C c ta) (ha : SSs X κ C p ms) (hb : SSs X κ C q mr) : SS X κ C (.If c p q pos) (sIf ta ms mr) :=
  SS.mk' (ps_if hc.pt ha.pss hb.pss) fun φ ev h σ H Dn S r p => by
    obtain ⟨k, h1, e1, p⟩ := PostS.bind p
    refine tq_of S r e1 fun φ1 H1 st S1 r1 => ?_
    cases k with
    | true => rw [if_pos rfl] at p ⊢; exact ⟨φ1, ev, h1, S1, r1, p.step st⟩
    | false => rw [if_neg Bool.false_ne_true] at p ⊢; exact ⟨φ1, ev, h1, S1, r1, p.step st⟩
theorem ss_nil : SSs X κ C [] sSk := SSs.mk' pss_nil fun φ ev h σ H Dn S r p => p φ H σ Step.refl S r
theorem ss_one (h : SS X κ C st ms) : SSs X κ C [st] ms := ⟨pss_one h.ps⟩
theorem ss_cons (h1 : SS X κ C st ms) (h2 : SSs X κ C sts mr) : SSs X κ C (st :: sts) (sSq ms mr) :=
  SSs.mk' (pss_cons h1.ps h2.pss) fun φ ev h σ H Dn S r p => by
    refine ⟨φ, ev, h, S, r, ?_⟩
    obtain ⟨f, h1, e1, p⟩ := PostS.bind p
    rw [e1]
    cases f with
    | nx e2 => exact fun φ' H' σ' st S' r' => ⟨φ', e2, h1, S', r', p.step st⟩
    | rt d => exact p
    | bk e2 => exact p
    | ct e2 => exact p
end

/-! ### op= -/
def opIAdd : D → D → HP → R D := fun x y h => match x, y with
  | .int i, .int j => .ok (.int (i + j)) h
  | .str a, .str b => if a.length + b.length ≤ sizeLine then .ok (.str (a ++ b)) h else .no
  | _, _ => .no
section
variable {X : Cx} {κ : Nat → Addr} {C : Ctx} {a b c e o : Expr} {es : List Expr} {ma mb mc mo : ME} {ta tb : MT} {mas : MA} {pos p2 p3 apos : Pos} {g : Tg} {ms mr : MS} {st : Stmt} {sts : List Stmt}
theorem iod_add : OpR X (inplaceOp .Add) (rD X.K κ opIAdd) := by
  intro pins s σ H x y v u Q I rx ry ⟨φ, h, dx, dy, S, qx, qy, p⟩
  unfold opIAdd at p
  split at p
  · rw [RV.int_iff] at qx qy
    exact iop_add pins s σ H _ _ v u Q I rx ry ⟨_, _, qx, qy, p.of0 S (RV.int_iff.mpr rfl)⟩
  · split at p
    · rename_i hz
      rw [RV.str_iff] at qx qy
      exact iop_add_str pins s σ H _ _ v u Q I rx ry ⟨_, _, qx, qy, hz, p.of0 S (RV.str_iff.mpr rfl)⟩
    · exact False.elim p
  · exact False.elim p
theorem iod_sub : OpR X (inplaceOp .Sub) (rD X.K κ opSub) := by
  intro pins s σ H x y v u Q I rx ry ⟨φ, h, dx, dy, S, qx, qy, p⟩
  unfold opSub at p
  split at p
  · rw [RV.int_iff] at qx qy
    exact iop_sub pins s σ H _ _ v u Q I rx ry ⟨_, _, qx, qy, p.of0 S (RV.int_iff.mpr rfl)⟩
  · exact False.elim p
theorem ss_au {i : Nat} {x : Str} {o : Operator} {op : D → D → HP → R D} (hN : X.N.Nodup) (ho : OpR X (inplaceOp o) (rD X.K κ op)) (ha : SE X κ C a ma) (hi : X.N[i]? = some x := by rfl) (hx : Loc X.env.scope x := by first | exact Or.inl rfl | exact Or.inr rfl)
    (hf : X.fn x = true ∨ X.env.scope.names.lookup x = some .local := by first | exact .inl rfl | exact .inr rfl | assumption) : SS X κ C (.AugAssign (.Name x p2) o a pos) (sAu i op ma) :=
  SS.mk' (ps_aug hN hi hx ha.pe (ti := rD X.K κ op) ho hf) fun φ ev h σ H Dn S r p => by
    unfold sAu at p
    split at p
    · rename_i d e
      obtain ⟨v, e1, q⟩ := r.get i d e
      obtain ⟨d2, h1, e2, p⟩ := PostS.bind p
      refine ⟨v, e1, td_of S r e2 fun φ1 H1 w st S1 r1 q1 => ⟨φ1, h1, d, d2, S1, q.step S st, q1, ?_⟩⟩
      obtain ⟨d3, h2, e3, p⟩ := PostS.bind p
      rw [e3]
      exact fun φ2 H2 z st2 S2 q2 => p φ2 H2 _ (st.trans st2) S2 ((r1.step S1 st2).set q2 i)
    · exact False.elim p

/-! ### stores -/
end
def stD : D → D → D → HP → R Unit := fun x y v h => match x with
  | .ref i => match h[i]? with
    | some (.lst ds) => match y with
      | .int k => match ixN ds.length k with
        | some j => .ok () (h.set i (.lst (ds.set j v)))
        | none => .no
      | _ => .no
    | some (.dic kvs) => match keyD y with
      | some k => if kvs.length < sizeLine then .ok () (h.set i (.dic (putKD kvs k v))) else .no
      | none => .no
    | some (.dct kvs) => match y with
      | .tup ds => match keysD ds with
        | some k => if kvs.length < sizeLine then .ok () (h.set i (.dct (putKD kvs k v))) else .no
        | none => .no
      | _ => .no
    | _ => .no
  | _ => .no
def rSt (K : PySem.W.Frag) (κ : Nat → Addr) (f : D → D → D → HP → R Unit) : V → V → V → Hp → (Hp → Prop) → Prop := fun o i v H Q => ∃ φ h x y d h', Sim K κ φ h H ∧ RV φ h.length H x o ∧ RV φ h.length H y i ∧ RV φ h.length H d v ∧ f x y d h = .ok () h' ∧
  ∀ φ' H', Step φ h H φ' h' H' → Sim K κ φ' h' H' → Q H'
section
variable {X : Cx} {κ : Nat → Addr} {C : Ctx} {a b c e o : Expr} {es : List Expr} {ma mb mc mo : ME} {ta tb : MT} {mas : MA} {pos p2 p3 apos : Pos} {g : Tg} {ms mr : MS} {st : Stmt} {sts : List Stmt}
theorem set_ok {K : PySem.W.Frag} {κ φ : Nat → Addr} {h : HP} {H : Hp} {i : Nat} {ob ob' : O} {u : HO} (S : Sim K κ φ h H) (hi : h[i]? = some ob) (m : ob.mu = true) (m' : ob'.mu = true)
    (new : ∀ st : Step φ h H φ (h.set i ob') (upd H (φ i) u), RO K κ φ (h.set i ob').length (upd H (φ i) u) (φ i) ob') {Q : Hp → Prop} (k : ∀ φ' H', Step φ h H φ' (h.set i ob') H' → Sim K κ φ' (h.set i ob') H' → Q H') : Q (upd H (φ i) u) :=
  k φ _ (step_set S hi m m') (S.set hi m m' new)
section
variable {K : PySem.W.Frag} {κ φ : Nat → Addr} {h : HP} {H : Hp} {i c : Nat} {Q : Hp → Prop}
theorem set_okL {ds ds' : List D} {vs : List V} (S : Sim K κ φ h H) (hi : h[i]? = some (.lst ds)) (r : RVs φ h.length H ds' vs) (k : ∀ φ' H', Step φ h H φ' (h.set i (.lst ds')) H' → Sim K κ φ' (h.set i (.lst ds')) H' → Q H') : Q (upd H (φ i) (.lst vs)) :=
  set_ok (ob' := .lst ds') S hi rfl rfl (fun st => ⟨vs, upd_same, r.step S st⟩) k
theorem set_okK {ds ds' : List (Key × D)} {vs : List (Key × V)} (S : Sim K κ φ h H) (hi : h[i]? = some (.dic ds)) (r : RKs φ h.length H ds' vs) (k : ∀ φ' H', Step φ h H φ' (h.set i (.dic ds')) H' → Sim K κ φ' (h.set i (.dic ds')) H' → Q H') : Q (upd H (φ i) (.dK vs)) :=
  set_ok (ob' := .dic ds') S hi rfl rfl (fun st => ⟨vs, upd_same, r.step S st⟩) k
theorem set_okT {ds ds' : List (List Key × D)} {vs : List (List Key × V)} (S : Sim K κ φ h H) (hi : h[i]? = some (.dct ds)) (r : RKs φ h.length H ds' vs) (k : ∀ φ' H', Step φ h H φ' (h.set i (.dct ds')) H' → Sim K κ φ' (h.set i (.dct ds')) H' → Q H') : Q (upd H (φ i) (.dT vs)) :=
  set_ok (ob' := .dct ds') S hi rfl rfl (fun st => ⟨vs, upd_same, r.step S st⟩) k
theorem set_okI {ds ds' : List (Str × D)} {vs : List (Str × V)} {dx : Addr} (S : Sim K κ φ h H) (hi : h[i]? = some (.ins c ds)) (r : RKs φ h.length H ds' vs) (k : ∀ φ' H', Step φ h H φ' (h.set i (.ins c ds')) H' → Sim K κ φ' (h.set i (.ins c ds')) H' → Q H') : Q (upd H (φ i) (.ins (κ c) dx vs)) :=
  set_ok (ob' := .ins c ds') S hi rfl rfl (fun st => ⟨dx, vs, upd_same, r.step S st⟩) k
end
theorem pset (hu : X.A.units + 1 < cLine) : PSet X (rSt X.K κ stD) := by
  intro pins s σ H o i v ov iv u Q I ro ri rv ⟨φ, h, x, y, d, h', S, qx, qy, qd, e, k⟩
  unfold stD at e
  split at e
  · rename_i i'
    rw [RV.ref_iff] at qx
    obtain ⟨hi, rfl⟩ := qx
    split at e
    · rename_i ds ei
      obtain ⟨vs, hv, r⟩ := S.lst ei
      split at e
      · split at e
        · rename_i kk j ej
          cases e
          rw [RV.int_iff] at qy
          exact set_list pins s σ H _ _ _ ov iv u Q I ro ri rv ⟨_, vs, _, j, rfl, qy, hv, by rw [r.len]; exact ej, set_okL S ei (r.set j qd) k⟩
        · cases e
      · cases e
    · rename_i kvs ei
      obtain ⟨us, hd, r⟩ := S.dic ei
      split at e
      · rename_i kk ek
        split at e
        · rename_i hz
          cases e
          have ky := key_of' ek qy
          subst ky
          obtain rfl : ov = Value.ref _ := ro
          exact d_setItem hu I (DPut.k hd (by rw [r.len]; exact hz)) ri rv fun s' I' => ⟨_, I', set_okK S ei (r.put kk qd) k⟩
        · cases e
      · cases e
    · rename_i kvs ei
      obtain ⟨us, hd, r⟩ := S.dct ei
      split at e
      · split at e
        · rename_i kk ek
          split at e
          · rename_i hz
            cases e
            rw [RV.tup_iff] at qy
            obtain ⟨p, vs, rfl, hp, rr⟩ := qy
            have ky := keys_of' ek rr
            subst ky
            obtain rfl : ov = Value.ref _ := ro
            exact d_setItem hu I (DPut.t hd hp (by rw [r.len]; exact hz)) ri rv fun s' I' => ⟨_, I', set_okT S ei (r.put kk qd) k⟩
          · cases e
        · cases e
      · cases e
    · cases e
  · cases e
/-- o[i] = a -/
theorem ss_st {i : Expr} {mi : ME} (hu : X.A.units + 1 < cLine) (ho : SE X κ C o mo) (hi : SE X κ C i mi) (ha : SE X κ C a ma)
    (has : ∀ v, assign (.Subscript o i p2) X.env v = (do { let ov ← holding [v] (eval o X.env); let iv ← holding [v, ov] (eval i X.env); standAt p2; holding [v, ov, iv] (setItem ov iv v); release [v, ov, iv] [] }) := by intro _; rfl)
    (hs : swapsWithSole [.Subscript o i p2] a pos.line X.env = pure false := by rfl) (hw : swappedStores [.Subscript o i p2] a X.env = pure none := by rfl) : SS X κ C (.Assign [.Subscript o i p2] a pos) (sSt stD mo mi ma) :=
  SS.mk' (ps_asg ha.pe (pg_sub ho.pe hi.pe (pset (κ := κ) hu) has) hs hw) fun φ ev h σ H Dn S r p => by
    obtain ⟨d, h1, e1, p⟩ := PostS.bind p
    obtain ⟨x, h2, e2, p⟩ := PostS.bind p
    obtain ⟨y, h3, e3, p⟩ := PostS.bind p
    obtain ⟨_, h4, e4, p⟩ := PostS.bind p
    exact td_of S r e1 fun φ1 H1 v st S1 r1 q1 => td_of S1 r1 e2 fun φ2 H2 w st2 S2 r2 q2 => td_of S2 r2 e3 fun φ3 H3 z st3 S3 r3 q3 =>
      ⟨φ3, h3, x, y, d, h4, S3, q2.step S2 st3, q3, (q1.step S1 st2).step S2 st3, e4, fun φ4 H4 st4 S4 => p φ4 H4 σ (((st.trans st2).trans st3).trans st4) S4 (r3.step S3 st4)⟩
/-- o.f = a -/
theorem ss_fl {cs : List Nat} {f : Str} (hf : FldOk X.K κ cs f) (ho : SE X κ C o mo) (ha : SE X κ C a ma) (hs : swapsWith a (some (.Attribute o f p2)) pos.line X.env = pure false := by rfl) : SS X κ C (.Assign [.Attribute o f p2] a pos) (sFl cs mo f ma) :=
  SS.mk' (ps_fld ho.pe ha.pe hs) fun φ ev h σ H Dn S r p => by
    obtain ⟨d, h1, e1, p⟩ := PostS.bind p
    obtain ⟨x, h2, e2, p⟩ := PostS.bind p
    refine td_of S r e1 fun φ1 H1 v st S1 r1 q1 => td_of S1 r1 e2 fun φ2 H2 w st2 S2 r2 q2 => ?_
    split at p
    · rw [RV.ref_iff] at q2
      obtain ⟨hi, rfl⟩ := q2
      split at p
      · rename_i c fs ei
        split at p
        · rename_i hc
          obtain ⟨dx, us, hu, rr⟩ := S2.ins ei
          exact ⟨_, _, dx, us, rfl, hu, (hf c hc.1).1, (hf c hc.1).2, by rw [rr.len]; exact hc.2, set_okI (Q := fun H' => Dn.nx σ H') S2 ei (rr.putF (q1.step S1 st2)) fun φ' H' st3 S3 => p φ' H' σ ((st.trans st2).trans st3) S3 (r2.step S2 st3)⟩
        · exact False.elim p
      · exact False.elim p
    · exact False.elim p
/-- o.f += a, o.f -= a -/
theorem ss_fa {cs : List Nat} {f : Str} {op : Operator} {f2 : D → D → HP → R D} (hf : FldOk X.K κ cs f) (hop : OpR X (inplaceOp op) (rD X.K κ f2)) (ho : SE X κ C o mo) (ha : SE X κ C a ma) : SS X κ C (.AugAssign (.Attribute o f p2) op a pos) (sFa cs mo f f2 ma) :=
  SS.mk' (ps_fldaug (rd := rD X.K κ f2) ho.pe ha.pe hop) fun φ ev h σ H Dn S r p => by
    obtain ⟨x, h1, e1, p⟩ := PostS.bind p
    refine td_of S r e1 fun φ1 H1 v st S1 r1 q1 => ?_
    split at p
    · rename_i i
      rw [RV.ref_iff] at q1
      obtain ⟨hi, rfl⟩ := q1
      split at p
      · rename_i c fs ei
        obtain ⟨dx, us, hu, rr⟩ := S1.ins ei
        split at p
        · rename_i v ev
          obtain ⟨w, ew, qw⟩ := rr.look ev
          obtain ⟨y, h2, e2, p⟩ := PostS.bind p
          obtain ⟨z, h3, e3, p⟩ := PostS.bind p
          split at p
          · rename_i c2 fs2 ei2
            split at p
            · rename_i hc
              obtain ⟨hc1, hcc, hz⟩ := hc
              subst hcc
              have hc : c ∈ cs ∧ fs2.length < 1000 := ⟨hc1, hz⟩
              refine ⟨_, _, dx, us, w, rfl, hu, (hf c hc.1).1, (hf c hc.1).2, ew, td_of S1 r1 e2 fun φ2 H2 u st2 S2 r2 q2 => ⟨φ2, h2, v, y, S2, qw.step S1 st2, q2, ?_⟩⟩
              rw [e3]
              intro φ3 H3 t st3 S3 q3
              obtain ⟨dx2, us2, hu2, rr2⟩ := S3.ins ei2
              have hi2 := st2.agree i hi
              have hi3 := st3.agree i (Nat.lt_of_lt_of_le hi st2.len)
              have ea : φ3 i = φ1 i := hi3.trans hi2
              rw [← ea]
              exact ⟨dx2, us2, hu2, by rw [rr2.len]; exact hc.2, set_okI (Q := fun H' => Dn.nx σ H') S3 ei2 (rr2.putF q3) fun φ' H' st4 S4 => p φ' H' σ (((st.trans st2).trans st3).trans st4) S4 ((r2.step S2 st3).step S3 st4)⟩
            · exact False.elim p
          · exact False.elim p
        · exact False.elim p
      · exact False.elim p
    · exact False.elim p
end
end Z
/-! Z7: what is walked, loops, comprehensions, a def by its body. -/
namespace Z
open PySem L2 PyProof.Rows

def ItR (K : PySem.W.Frag) (κ φ1 : Nat → Addr) (h1 : HP) (H1 : Hp) (it : Itr) (J : It) : Prop := ∀ φ h H, Step φ1 h1 H1 φ h H → Sim K κ φ h H → ∀ j, (it j h = some none → J.stop j H) ∧
  ∀ d, it j h = some (some d) → J.go j H ∧ ∀ x H', J.yld j H x H' → ∃ φ', Step φ h H φ' h H' ∧ Sim K κ φ' h H' ∧ RV φ' h.length H' d x
def tI (K : PySem.W.Frag) (κ : Nat → Addr) (C : Ctx) (mi : MI) : TI := fun σ H R => ∃ φ e h, Sim K κ φ h H ∧ EnvR φ h.length H e σ ∧ ∃ it h1, mi C e h = .ok it h1 ∧
  ∀ φ1 H1 J, Step φ h H φ1 h1 H1 → Sim K κ φ1 h1 H1 → ItR K κ φ1 h1 H1 it J → R J H1
structure SI (X : Cx) (κ : Nat → Addr) (C : Ctx) (tg iter : Expr) (mi : MI) : Prop where
  pi : PI X tg iter (tI X.K κ C mi)
theorem itL_eq (i j : Nat) (h : HP) : itL i j h = (isL i h).map fun ds => ds[j]? := by
  unfold itL isL
  split <;> rfl
section
variable {K : PySem.W.Frag} {κ φ φ1 : Nat → Addr} {h h1 : HP} {H H1 : Hp} {it : Itr} {J : It}
/-- the item of the list at i, at turn j -/
theorem isL_at {i j : Nat} (hi : i < h1.length) (st : Step φ1 h1 H1 φ h H) (S : Sim K κ φ h H) : (itL i j h = some none → ∃ vs, SqL K H (φ1 i) vs ∧ vs.length ≤ j) ∧
    ∀ d, itL i j h = some (some d) → ∃ vs v, SqL K H (φ1 i) vs ∧ vs[j]? = some v ∧ RV φ h.length H d v := by
  have ea := st.agree i hi
  rw [itL_eq]
  cases e : isL i h with
  | none => exact ⟨fun z => by simp at z, fun d z => by simp at z⟩
  | some ds =>
    obtain ⟨vs, hs, r⟩ := S.isL e
    rw [ea] at hs
    refine ⟨fun z => ⟨vs, hs, ?_⟩, fun d z => ?_⟩
    · simp only [Option.map_some, Option.some.injEq] at z
      rw [r.len]
      exact List.getElem?_eq_none_iff.mp z
    · simp only [Option.map_some, Option.some.injEq] at z
      obtain ⟨v, ev, q⟩ := r.get z
      exact ⟨vs, v, hs, ev, q⟩
theorem itL_of {i : Nat} (hi : i < h1.length) : ItR K κ φ1 h1 H1 (itL i) (Itl K (φ1 i)) := by
  intro φ h H st S j
  obtain ⟨k1, k2⟩ := isL_at (j := j) hi st S
  refine ⟨k1, fun d e => ?_⟩
  obtain ⟨vs, v, hs, ev, q⟩ := k2 d e
  refine ⟨⟨vs, v, hs, ev⟩, fun x H' y => ?_⟩
  obtain ⟨e1, y⟩ := y
  subst e1
  have := y vs hs
  rw [ev] at this
  cases this
  exact ⟨φ, Step.refl, S, q⟩
theorem itT_of {ds : List D} {p : Addr} {vs : List V} (S1 : Sim K κ φ1 h1 H1) (hp : H1 p = some (.tup vs)) (r : RVs φ1 h1.length H1 ds vs) : ItR K κ φ1 h1 H1 (itT ds) (Itt K p) := by
  intro φ h H st S j
  have hp' := S1.tup st hp
  have r' := r.step S1 st
  refine ⟨fun z => ⟨vs, SqT.of hp', ?_⟩, fun d z => ?_⟩
  · simp only [itT, Option.some.injEq] at z
    rw [r.len]
    exact List.getElem?_eq_none_iff.mp z
  · simp only [itT, Option.some.injEq] at z
    obtain ⟨v, ev, q⟩ := r'.get z
    refine ⟨⟨vs, v, SqT.of hp', ev⟩, fun x H' y => ?_⟩
    obtain ⟨e1, y⟩ := y
    subst e1
    have := y vs (SqT.of hp')
    rw [ev] at this
    cases this
    exact ⟨φ, Step.refl, S, q⟩
theorem itS_of {z : Str} : ItR K κ φ1 h1 H1 (itS z) (Its z) := by
  intro φ h H st S j
  refine ⟨fun e => ?_, fun d e => ?_⟩
  · simp only [itS, Option.some.injEq, Option.map_eq_none_iff] at e
    exact Array.getElem?_eq_none_iff.mp e
  · simp only [itS, Option.some.injEq, Option.map_eq_some_iff] at e
    obtain ⟨c, ec, rfl⟩ := e
    refine ⟨(Array.getElem?_eq_some_iff.mp ec).1, fun x H' y => ?_⟩
    obtain ⟨e1, c', ec', rfl⟩ := y
    subst e1
    rw [ec] at ec'
    cases ec'
    exact ⟨φ, Step.refl, S, RV.str_iff.mpr rfl⟩
theorem itR_of {lo : Int} {n : Nat} : ItR K κ φ1 h1 H1 (itR lo n) (L2.Itr lo n) := by
  intro φ h H st S j
  unfold itR
  refine ⟨fun e => ?_, fun d e => ?_⟩
  · split at e
    · cases e
    · rename_i hj; exact Nat.not_lt.mp hj
  · split at e
    · rename_i hj
      cases e
      refine ⟨hj, fun x H' y => ?_⟩
      obtain ⟨e1, rfl⟩ := y
      subst e1
      exact ⟨φ, Step.refl, S, RV.int_iff.mpr rfl⟩
    · cases e
theorem itRc_of {lo c : Int} {n : Nat} : ItR K κ φ1 h1 H1 (itRc lo c n) (Itc lo c n) := by
  intro φ h H st S j
  unfold itRc
  refine ⟨fun e => ?_, fun d e => ?_⟩
  · split at e
    · cases e
    · rename_i hj; exact Nat.not_lt.mp hj
  · split at e
    · rename_i hj
      cases e
      refine ⟨hj, fun x H' y => ?_⟩
      obtain ⟨e1, rfl⟩ := y
      subst e1
      exact ⟨φ, Step.refl, S, RV.int_iff.mpr rfl⟩
    · cases e
theorem itE_of {i : Nat} (hi : i < h1.length) : ItR K κ φ1 h1 H1 (itE i) (Ite K (φ1 i)) := by
  intro φ h H st S j
  obtain ⟨k1, k2⟩ := isL_at (j := j) hi st S
  unfold itE
  refine ⟨fun e => ?_, fun d e => ?_⟩
  · rw [Option.map_eq_some_iff] at e
    obtain ⟨o, e1, e2⟩ := e
    rw [Option.map_eq_none_iff] at e2
    subst e2
    exact k1 e1
  · rw [Option.map_eq_some_iff] at e
    obtain ⟨o, e1, e2⟩ := e
    rw [Option.map_eq_some_iff] at e2
    obtain ⟨d', rfl, rfl⟩ := e2
    obtain ⟨vs, v, hs, ev, q⟩ := k2 d' e1
    refine ⟨⟨vs, v, hs, ev⟩, fun x H' y => ?_⟩
    obtain ⟨T, w, rfl, hT, rfl, y⟩ := y
    have := y vs hs
    rw [ev] at this
    cases this
    have t := step_temp S (u := .tup [.int (j : Nat), v]) hT
    exact ⟨φ, t, S.temp hT, RV.tup_iff.mpr ⟨T, _, rfl, upd_same, RVs.cons (RV.int_iff.mpr rfl) (RVs.one (q.step S t))⟩⟩
theorem itZ_of {a b : Nat} (ha : a < h1.length) (hb : b < h1.length) : ItR K κ φ1 h1 H1 (itZ a b) (Itz K (φ1 a) (φ1 b)) := by
  intro φ h H st S j
  obtain ⟨k1, k2⟩ := isL_at (j := j) ha st S
  obtain ⟨l1, l2⟩ := isL_at (j := j) hb st S
  unfold itZ
  refine ⟨fun e => ?_, fun d e => ?_⟩
  · split at e
    · cases e
    · rename_i r1 r2 hno e1 e2
      cases r1 with
      | none =>
        obtain ⟨vs, hs, hl⟩ := k1 e1
        cases r2 with
        | none =>
          obtain ⟨us, hu, hl2⟩ := l1 e2
          exact ⟨vs, us, hs, hu, .inl hl⟩
        | some y =>
          obtain ⟨us, v, hu, _⟩ := l2 y e2
          exact ⟨vs, us, hs, hu, .inl hl⟩
      | some x =>
        obtain ⟨vs, v, hs, _⟩ := k2 x e1
        cases r2 with
        | none =>
          obtain ⟨us, hu, hl2⟩ := l1 e2
          exact ⟨vs, us, hs, hu, .inr hl2⟩
        | some y => exact absurd rfl (hno x y rfl)
    · cases e
  · split at e
    · rename_i x y e1 e2
      cases e
      obtain ⟨vs, v, hs, ev, q⟩ := k2 x e1
      obtain ⟨us, w, hu, ew, q2⟩ := l2 y e2
      refine ⟨⟨vs, us, v, w, hs, hu, ev, ew⟩, fun x H' y => ?_⟩
      obtain ⟨T, x1, y1, rfl, hT, rfl, z1, z2⟩ := y
      have t1 := z1 vs hs
      have t2 := z2 us hu
      rw [ev] at t1
      rw [ew] at t2
      cases t1
      cases t2
      have t := step_temp S (u := .tup [v, w]) hT
      exact ⟨φ, t, S.temp hT, RV.tup_iff.mpr ⟨T, _, rfl, upd_same, RVs.cons (q.step S t) (RVs.one (q2.step S t))⟩⟩
    · cases e
    · cases e
theorem itV_of {i n : Nat} (hi : i < h1.length) : ItR K κ φ1 h1 H1 (itV i n) (Itv K (φ1 i) n) := by
  intro φ h H st S j
  obtain ⟨k1, k2⟩ := isL_at (j := n - 1 - j) hi st S
  unfold itV
  refine ⟨fun e => ?_, fun d e => ?_⟩
  · split at e
    · split at e <;> cases e
    · rename_i hj; exact Nat.not_lt.mp hj
  · split at e
    · rename_i hj
      split at e
      · rename_i d' e1
        cases e
        obtain ⟨vs, v, hs, ev, q⟩ := k2 d e1
        refine ⟨⟨hj, vs, v, hs, ev⟩, fun x H' y => ?_⟩
        obtain ⟨e1, y⟩ := y
        subst e1
        have := y vs hs
        rw [ev] at this
        cases this
        exact ⟨φ, Step.refl, S, q⟩
      · cases e
    · cases e
end
section
variable {X : Cx} {κ : Nat → Addr} {C : Ctx} {a b c e o tg : Expr} {es : List Expr} {ma mb mc mo : ME} {ta tb : MT} {mas : MA} {pos p2 p3 apos tpos : Pos} {g : Tg} {ms mr : MS} {st : Stmt} {sts : List Stmt}
theorem isL_lt {i : Nat} {h : HP} {ds : List D} (e : isL i h = some ds) : i < h.length := by
  unfold isL at e
  split at e
  · rename_i q; exact (List.getElem?_eq_some_iff.mp q).1
  · rename_i q; exact (List.getElem?_eq_some_iff.mp q).1
  · cases e
theorem Rok {α β : Type} {r : R α} {f : α → HP → R β} {b : β} {h2 : HP} (e : r.bind f = .ok b h2) : ∃ a h1, r = .ok a h1 ∧ f a h1 = .ok b h2 := by
  cases r with
  | ok a h1 => exact ⟨a, h1, rfl, e⟩
  | ex _ _ _ => cases e
  | no => cases e
/-- for .. in a -/
theorem si_a (ha : SE X κ C a ma) : SI X κ C tg a (iA ma) := by
  refine ⟨⟨fun pins s σ H R I ⟨φ, ev, h, S, r, it, h1, e, k⟩ => ?_⟩⟩
  obtain ⟨dx, h1', e1, e⟩ := Rok e
  split at e
  · split at e
    · rename_i i _ ds el
      cases e
      refine (pi_list (tg := tg) ha.pe).run pins s σ H R I (td_of S r e1 fun φ1 H1 v st S1 r1 q1 => ?_)
      rw [RV.ref_iff] at q1
      obtain ⟨hi, rfl⟩ := q1
      obtain ⟨vs, hs, _⟩ := S1.isL el
      exact ⟨_, rfl, ⟨vs, hs⟩, k φ1 H1 _ st S1 (itL_of hi)⟩
    · cases e
  · cases e
    refine (pi_tup (tg := tg) ha.pe).run pins s σ H R I (td_of S r e1 fun φ1 H1 v st S1 r1 q1 => ?_)
    rw [RV.tup_iff] at q1
    obtain ⟨p, vs, rfl, hp, q1⟩ := q1
    exact ⟨_, rfl, ⟨vs, SqT.of hp⟩, k φ1 H1 _ st S1 (itT_of S1 hp q1)⟩
  · cases e
    refine (pi_str (tg := tg) ha.pe).run pins s σ H R I (td_of S r e1 fun φ1 H1 v st S1 r1 q1 => ?_)
    rw [RV.str_iff] at q1
    exact ⟨_, q1, k φ1 H1 _ st S1 itS_of⟩
  · cases e
theorem si_r1 (hm : X.mg "range" = none) (ha : SE X κ C a ma) (hg : Gl X "range" := by rfl) (hs : starEach [a] X.env = [(false, eval a X.env)] := by rfl) : SI X κ C tg (.Call (.Name "range" p2) [a] [] pos) (iR1 ma) := by
  refine ⟨⟨fun pins s σ H R I ⟨φ, ev, h, S, r, it, h1, e, k⟩ => ?_⟩⟩
  obtain ⟨dx, h1', e1, e⟩ := Rok e
  split at e
  · split at e
    · rename_i n hn
      cases e
      refine (pi_range1 (tg := tg) hg hm (pa_cons ha.pe pa_nil hs) hs).run pins s σ H R I (td_of S r e1 fun φ1 H1 v st S1 r1 q1 => ?_)
      rw [RV.int_iff] at q1
      subst q1
      exact ⟨_, rfl, hn.1, hn.2, k φ1 H1 _ st S1 itR_of⟩
    · cases e
  · cases e
theorem si_r2 (hm : X.mg "range" = none) (ha : SE X κ C a ma) (hb : SE X κ C b mb) (hg : Gl X "range" := by rfl) (hs : starEach [a, b] X.env = [(false, eval a X.env), (false, eval b X.env)] := by rfl) (hs2 : starEach [b] X.env = [(false, eval b X.env)] := by rfl) : SI X κ C tg (.Call (.Name "range" p2) [a, b] [] pos) (iR2 ma mb) := by
  refine ⟨⟨fun pins s σ H R I ⟨φ, ev, h, S, r, it, h1, e, k⟩ => ?_⟩⟩
  obtain ⟨dx, h1', e1, e⟩ := Rok e
  obtain ⟨dy, h2', e2, e⟩ := Rok e
  split at e
  · split at e
    · rename_i hn
      cases e
      refine (pi_range2 (tg := tg) hg hm (pa_cons ha.pe (pa_cons hb.pe pa_nil hs2) (by rw [hs, hs2])) hs hs2).run pins s σ H R I (td_of S r e1 fun φ1 H1 v st S1 r1 q1 => td_of S1 r1 e2 fun φ2 H2 w st2 S2 r2 q2 => ?_)
      rw [RV.int_iff] at q1 q2
      subst q1 q2
      exact ⟨_, _, rfl, hn, k φ2 H2 _ (st.trans st2) S2 itR_of⟩
    · cases e
  · cases e
theorem si_en {elts : List Expr} {kk : Nat} (hm : X.mg "enumerate" = none) (ha : SE X κ C a ma) (hg : Gl X "enumerate" := by rfl) (hs : starEach [a] X.env = [(false, eval a X.env)] := by rfl) : SI X κ C (.Tuple elts kk tpos) (.Call (.Name "enumerate" p2) [a] [] pos) (iEn ma) := by
  refine ⟨⟨fun pins s σ H R I ⟨φ, ev, h, S, r, it, h1, e, k⟩ => ?_⟩⟩
  obtain ⟨dx, h1', e1, e⟩ := Rok e
  split at e
  · split at e
    · rename_i i _ ds el
      cases e
      refine (pi_enum hg hm (pa_cons ha.pe pa_nil hs) hs).run pins s σ H R I (td_of S r e1 fun φ1 H1 v st S1 r1 q1 => ?_)
      rw [RV.ref_iff] at q1
      obtain ⟨hi, rfl⟩ := q1
      obtain ⟨vs, hs, _⟩ := S1.isL el
      exact ⟨_, vs, rfl, hs, k φ1 H1 _ st S1 (itE_of hi)⟩
    · cases e
  · cases e
theorem si_zp {elts : List Expr} {kk : Nat} (hm : X.mg "zip" = none) (ha : SE X κ C a ma) (hb : SE X κ C b mb) (hg : Gl X "zip" := by rfl) (hs : starEach [a, b] X.env = (false, eval a X.env) :: starEach [b] X.env := by rfl) (hs2 : starEach [b] X.env = [(false, eval b X.env)] := by rfl)
    (hpl : (backTo pos (starEach [b] X.env)).any (·.1) = false := by rfl) : SI X κ C (.Tuple elts kk tpos) (.Call (.Name "zip" p2) [a, b] [] pos) (iZp ma mb) := by
  refine ⟨⟨fun pins s σ H R I ⟨φ, ev, h, S, r, it, h1, e, k⟩ => ?_⟩⟩
  obtain ⟨dx, h1', e1, e⟩ := Rok e
  obtain ⟨dy, h2', e2, e⟩ := Rok e
  split at e
  · split at e
    · rename_i i j _ _ xs ys ex ey
      cases e
      refine (pi_zip hg hm (pa_cons ha.pe (pa_cons hb.pe pa_nil hs2) hs) hs hpl).run pins s σ H R I (td_of S r e1 fun φ1 H1 v st S1 r1 q1 => td_of S1 r1 e2 fun φ2 H2 w st2 S2 r2 q2 => ?_)
      have q3 := q1.step S1 st2
      rw [RV.ref_iff] at q2 q3
      obtain ⟨hi, rfl⟩ := q3
      obtain ⟨hj, rfl⟩ := q2
      obtain ⟨vs, hvs, _⟩ := S2.isL ex
      obtain ⟨us, hus, _⟩ := S2.isL ey
      exact ⟨_, _, vs, us, rfl, hvs, hus, k φ2 H2 _ (st.trans st2) S2 (itZ_of hi hj)⟩
    · cases e
  · cases e
theorem si_rv (hm : X.mg "reversed" = none) (ha : SE X κ C a ma) (hg : Gl X "reversed" := by rfl) (hs : starEach [a] X.env = [(false, eval a X.env)] := by rfl) : SI X κ C tg (.Call (.Name "reversed" p2) [a] [] pos) (iRv ma) := by
  refine ⟨⟨fun pins s σ H R I ⟨φ, ev, h, S, r, it, h1, e, k⟩ => ?_⟩⟩
  obtain ⟨dx, h1', e1, e⟩ := Rok e
  split at e
  · split at e
    · rename_i i _ ds el
      cases e
      refine (pi_reversed hg hm (pa_cons ha.pe pa_nil hs) hs).run pins s σ H R I (td_of S r e1 fun φ1 H1 v st S1 r1 q1 => ?_)
      rw [RV.ref_iff] at q1
      obtain ⟨hi, rfl⟩ := q1
      obtain ⟨vs, hs, rr⟩ := S1.isL el
      refine ⟨_, vs, rfl, hs, ?_⟩
      rw [rr.len]
      exact k φ1 H1 _ st S1 (itV_of hi)
    · cases e
  · cases e

/-! ### loops -/
theorem PostS.loop {K : PySem.W.Frag} {φ φ1 : Nat → Addr} {h h1 : HP} {H H1 : Hp} {r : R FL} {Dn : Ends} {N : L2.St → Hp → Prop} {f : FL → HP → R FL} (p : PostS K κ φ h H (r.bind f) Dn) (st : Step φ h H φ1 h1 H1)
    (fn : ∀ e2 h2, PostS K κ φ h H (f (.nx e2) h2) Dn → ∀ φ' H' σ', Step φ1 h1 H1 φ' h2 H' → Sim K κ φ' h2 H' → EnvR φ' h2.length H' e2 σ' → N σ' H')
    (fc : ∀ e2 h2, PostS K κ φ h H (f (.ct e2) h2) Dn → ∀ φ' H' σ', Step φ1 h1 H1 φ' h2 H' → Sim K κ φ' h2 H' → EnvR φ' h2.length H' e2 σ' → N σ' H')
    (fb : ∀ e2 h2, f (.bk e2) h2 = .ok (.nx e2) h2) (fr : ∀ d h2, f (.rt d) h2 = .ok (.rt d) h2) : PostS K κ φ1 h1 H1 r { Dn with nx := N, ct := N, bk := Dn.nx } := by
  cases r with
  | ok x h2 =>
    have p : PostS K κ φ h H (f x h2) Dn := p
    cases x with
    | nx e2 => exact fun φ' H' σ' => fn e2 h2 p φ' H' σ'
    | ct e2 => exact fun φ' H' σ' => fc e2 h2 p φ' H' σ'
    | bk e2 =>
      rw [fb] at p
      exact fun φ' H' σ' st' S' r' => p φ' H' σ' (st.trans st') S' r'
    | rt d =>
      rw [fr] at p
      exact fun φ' H' v st' S' r' => p φ' H' v (st.trans st') S' r'
  | ex _ _ _ => exact False.elim p
  | no => exact False.elim p
theorem ss_fo {body : List Stmt} {mi : MI} (hc : X.calm = true) (hi : SI X κ C tg e mi) (hg : SG X κ tg g) (hb : SSs X κ C body ms) (hp : PassesOwn (model X.prog X.w) X.A X.env X.xe := by exact PassesOwn.never)
    (hs : ∀ x, foldedSetIterable e X.env x = pure x := by intro _; rfl) : SS X κ C (.For tg e body [] pos) (sFo g mi ms) :=
  SS.mk' (ps_for hp hc hi.pi hg.pg hb.pss hs) fun φ ev h σ H Dn S r p => by
    obtain ⟨it, h1, e1, p⟩ := PostS.bind p
    refine ⟨φ, ev, h, S, r, it, h1, e1, fun φ1 H1 J st S1 hJ => ?_⟩
    refine ⟨fun j m σ' H' => ∃ φ' e' h', Step φ1 h1 H1 φ' h' H' ∧ Sim X.K κ φ' h' H' ∧ EnvR φ' h'.length H' e' σ' ∧ PostS X.K κ φ' h' H' (forN it g ms m j C e' h') Dn,
      ⟨C.fuel, φ1, ev, h1, Step.refl, S1, r.step S st, p.step st⟩, ?_⟩
    rintro j m σ' H' ⟨φ', e', h', st', S', r', p'⟩
    cases m with
    | zero => exact False.elim p'
    | succ m =>
      obtain ⟨k1, k2⟩ := hJ φ' h' H' st' S' j
      simp only [forN] at p'
      cases ei : it j h' with
      | none => rw [ei] at p'; exact False.elim p'
      | some o =>
        rw [ei] at p'
        cases o with
        | none => exact .inl ⟨k1 ei, p' φ' H' σ' Step.refl S' r'⟩
        | some d =>
          obtain ⟨g1, g2⟩ := k2 d ei
          simp only at p'
          refine .inr ⟨g1, fun σ2 H2 => ∃ φ2 e2 h2, Step φ1 h1 H1 φ2 h2 H2 ∧ Sim X.K κ φ2 h2 H2 ∧ EnvR φ2 h2.length H2 e2 σ2 ∧ PostS X.K κ φ2 h2 H2 (forN it g ms m (j + 1) C e2 h2) Dn, fun σ2 H2 n => ⟨m, Nat.lt_succ_self m, n⟩, fun x H2 y => ?_⟩
          obtain ⟨φ2, st2, S2, q2⟩ := g2 x H2 y
          cases eg : g e' d with
          | none => rw [eg] at p'; exact False.elim p'
          | some e2 =>
            rw [eg] at p'
            refine ⟨φ2, e', h', d, S2, r'.step S' st2, q2, e2, eg, fun σ3 r3 => ⟨φ2, e2, h', S2, r3, ?_⟩⟩
            have p2 := PostS.step p' st2
            have nxt : ∀ (e3 : Ev) (h3 : HP), PostS X.K κ φ2 h' H2 (forN it g ms m (j + 1) C e3 h3) Dn → ∀ φ' H' σ', Step φ2 h' H2 φ' h3 H' → Sim X.K κ φ' h3 H' → EnvR φ' h3.length H' e3 σ' →
                ∃ φ2 e2 h2, Step φ1 h1 H1 φ2 h2 H' ∧ Sim X.K κ φ2 h2 H' ∧ EnvR φ2 h2.length H' e2 σ' ∧ PostS X.K κ φ2 h2 H' (forN it g ms m (j + 1) C e2 h2) Dn := fun e3 h3 q φ4 H4 σ4 st4 S4 r4 =>
              ⟨φ4, e3, h3, (st'.trans st2).trans st4, S4, r4, q.step st4⟩
            exact PostS.loop p2 Step.refl nxt nxt (fun _ _ => rfl) (fun _ _ => rfl)
theorem ss_wh {body : List Stmt} (hc : ST X κ C c ta) (hb : SSs X κ C body ms) (hp : PassesOwn (model X.prog X.w) X.A X.env X.xe := by exact PassesOwn.never) : SS X κ C (.While c body [] pos) (sWh ta ms) :=
  SS.mk' (ps_while hp hc.pt hb.pss) fun φ ev h σ H Dn S r p => by
    refine ⟨fun m σ' H' => ∃ φ' e' h', Step φ h H φ' h' H' ∧ Sim X.K κ φ' h' H' ∧ EnvR φ' h'.length H' e' σ' ∧ PostS X.K κ φ' h' H' (whileN ta ms m C e' h') Dn, ⟨C.fuel, φ, ev, h, Step.refl, S, r, p⟩, ?_⟩
    rintro m σ' H' ⟨φ', e', h', st', S', r', p'⟩
    cases m with
    | zero => exact False.elim p'
    | succ m =>
      obtain ⟨b, h1, e1, p'⟩ := PostS.bind p'
      refine tq_of S' r' e1 fun φ1 H1 st1 S1 r1 => ?_
      cases b with
      | false =>
        rw [if_neg Bool.false_ne_true] at p' ⊢
        exact p' φ1 H1 σ' st1 S1 r1
      | true =>
        rw [if_pos rfl] at p' ⊢
        refine ⟨fun σ2 H2 => ∃ φ2 e2 h2, Step φ h H φ2 h2 H2 ∧ Sim X.K κ φ2 h2 H2 ∧ EnvR φ2 h2.length H2 e2 σ2 ∧ PostS X.K κ φ2 h2 H2 (whileN ta ms m C e2 h2) Dn, fun σ2 H2 n => ⟨m, Nat.lt_succ_self m, n⟩, φ1, e', h1, S1, r1, ?_⟩
        have p2 := PostS.step p' st1
        have nxt : ∀ (e3 : Ev) (h3 : HP), PostS X.K κ φ1 h1 H1 (whileN ta ms m C e3 h3) Dn → ∀ φ' H' σ', Step φ1 h1 H1 φ' h3 H' → Sim X.K κ φ' h3 H' → EnvR φ' h3.length H' e3 σ' →
            ∃ φ2 e2 h2, Step φ h H φ2 h2 H' ∧ Sim X.K κ φ2 h2 H' ∧ EnvR φ2 h2.length H' e2 σ' ∧ PostS X.K κ φ2 h2 H' (whileN ta ms m C e2 h2) Dn := fun e3 h3 q φ4 H4 σ4 st4 S4 r4 =>
          ⟨φ4, e3, h3, (st'.trans st1).trans st4, S4, r4, q.step st4⟩
        exact PostS.loop p2 Step.refl nxt nxt (fun _ _ => rfl) (fun _ _ => rfl)
end

/-! ### a def by its body -/
/-- a def of the text behind the top, with whole numbers as defaults -/
abbrev FunZ (K : PySem.W.Frag) (x qual : Str) (st : Stmt) (dfs : List Int) (f : Addr) (fd : FuncData) : Prop := FunD K x qual (defArgs st) (defBody st) (defScope st) (dfs.map V.int) [] f fd
theorem fnOk_of {P : Program} {w : World} {K : PySem.W.Frag} {mg : Str → Option Value} {base : Heap} {κ : Nat → Addr} {C : Ctx} {np nn : Nat} {body : MS} {x qual : Str} {st : Stmt} {f : Addr} {fd : FuncData} {N ps : List Str} {k : Nat} {dfs : List Int} (F : FunZ K x qual st dfs f fd) (S : FnScope N ps (defScope st))
    (hp : ps.length = np) (hn : N.length = nn)
    (hbody : ∀ (cdv : Value) (A : Around) (outer : List Env) (s : Shared) (H : Hp) (E : XK), Room k (A.deeper (envOfC qual (defScope st) s.heap.objs.size f cdv)) →
      SSs (cxOf CX0 P w K mg base N qual (defScope st) f cdv A outer s H E).nox κ C (defBody st) body) : FnOk P w K mg base CX0 (k + 1) f fd ps (spD K κ ps.length (runFn C ⟨np, nn, body⟩)) := by
  refine FunD.ok F S (fun vs H Q E h => h.1) fun cdv A outer s H vs Q E hr h => ?_
  obtain ⟨hl, φ, h, ds, Sm, r, p⟩ := h
  refine ⟨_, (hbody cdv A outer s H E hr).pss.nox, ?_⟩
  unfold runFn at p
  split at p
  · rename_i hd
    obtain ⟨fl, h1, e1, p⟩ := Post.bind p
    simp only at e1 p hd
    refine ⟨φ, ds.map some ++ List.replicate (nn - ds.length) none, h, Sm, ⟨?_, fun i d e => ?_⟩, ?_⟩
    · show (ds.map some ++ List.replicate (nn - ds.length) none).length = (L2.start N vs).length
      unfold L2.start
      simp only [List.length_append, List.length_map, List.length_replicate]
      rw [r.len, hn]
    · unfold L2.start
      by_cases hi : i < ds.length
      · rw [List.getElem?_append_left (by simpa using hi), List.getElem?_map] at e
        rw [List.getElem?_append_left (by simpa [r.len] using hi), List.getElem?_map]
        cases ed : ds[i]? with
        | none => rw [ed] at e; cases e
        | some d' =>
          rw [ed] at e
          cases e
          obtain ⟨v, ev, q⟩ := r.get ed
          exact ⟨v, by rw [ev]; rfl, q⟩
      · rw [List.getElem?_append_right (by simpa using hi), List.getElem?_replicate] at e
        split at e <;> cases e
    · rw [e1]
      cases fl with
      | nx e2 => exact fun φ' H' σ' st' S' r' => p φ' H' _ st' S' (RV.non_iff.mpr rfl)
      | rt d => exact fun φ' H' v st' S' r' => p φ' H' v st' S' r'
      | bk e2 => exact False.elim p
      | ct e2 => exact False.elim p
  · exact False.elim p
theorem ary_run {C : Ctx} {fn : Fn} : Ary fn.np (runFn C fn) := fun ds h hn => by unfold runFn; rw [if_neg hn]
end Z
/-! Z8: comprehensions. -/
namespace Z
open PySem L2 PyProof.Rows

/-! ### values in a heap that grew elsewhere -/
section
variable {K : PySem.W.Frag} {κ φ φ' φ1 : Nat → Addr} {h h' h1 : HP} {H H' H1 : Hp} {n m : Nat}
mutual
theorem RV.gen (a : ∀ i, i < n → φ' i = φ i) (l : n ≤ m) (t : ∀ p vs, H p = some (.tup vs) → H' p = some (.tup vs)) : ∀ {d : D} {v : V}, RV φ n H d v → RV φ' m H' d v
  | .non, v, q => by simpa only [RV] using q
  | .bl b, v, q => by simpa only [RV] using q
  | .int i, v, q => by simpa only [RV] using q
  | .str x, v, q => by simpa only [RV] using q
  | .ref i, v, q => by
    simp only [RV] at q ⊢
    exact ⟨Nat.lt_of_lt_of_le q.1 l, by rw [a i q.1]; exact q.2⟩
  | .tup ds, v, q => by
    simp only [RV] at q ⊢
    obtain ⟨p, vs, e, e2, r⟩ := q
    exact ⟨p, vs, e, t p vs e2, RVs.gen a l t r⟩
theorem RVs.gen (a : ∀ i, i < n → φ' i = φ i) (l : n ≤ m) (t : ∀ p vs, H p = some (.tup vs) → H' p = some (.tup vs)) : ∀ {ds : List D} {vs : List V}, RVs φ n H ds vs → RVs φ' m H' ds vs
  | [], vs, q => by simpa only [RVs] using q
  | d :: ds, vs, q => by
    simp only [RVs] at q ⊢
    obtain ⟨v, r, e, q1, q2⟩ := q
    exact ⟨v, r, e, RV.gen a l t q1, RVs.gen a l t q2⟩
end
theorem RKs.gen {κ' : Type} (a : ∀ i, i < n → φ' i = φ i) (l : n ≤ m) (t : ∀ p vs, H p = some (.tup vs) → H' p = some (.tup vs)) : ∀ {ds : List (κ' × D)} {vs : List (κ' × V)}, RKs φ n H ds vs → RKs φ' m H' ds vs
  | [], vs, q => by simpa only [RKs] using q
  | (k, d) :: ds, vs, q => by
    simp only [RKs] at q ⊢
    obtain ⟨v, r, e, q1, q2⟩ := q
    exact ⟨v, r, e, RV.gen a l t q1, RKs.gen a l t q2⟩
theorem EnvR.gen (a : ∀ i, i < n → φ' i = φ i) (l : n ≤ m) (t : ∀ p vs, H p = some (.tup vs) → H' p = some (.tup vs)) {e : Ev} {σ : L2.St} (r : EnvR φ n H e σ) : EnvR φ' m H' e σ :=
  ⟨r.len, fun i d q => by obtain ⟨v, e, rv⟩ := r.get i d q; exact ⟨v, e, rv.gen a l t⟩⟩
/-- an object at an address that holds the same -/
theorem RO.gen {b : Addr} {o : O} (a : ∀ i, i < n → φ' i = φ i) (l : n ≤ m) (t : ∀ p vs, H p = some (.tup vs) → H' p = some (.tup vs)) (e : ∀ u, H b = some u → H' b = some u) (q : RO K κ φ n H b o) : RO K κ φ' m H' b o := by
  cases o with
  | lst ds => obtain ⟨vs, e1, r⟩ := q; exact ⟨vs, e _ e1, r.gen a l t⟩
  | fz ds =>
    obtain ⟨vs, e1, r⟩ := q
    refine ⟨vs, ?_, r.gen a l t⟩
    rcases e1 with ⟨o, e1⟩ | e1
    · exact .inl ⟨o, e _ e1⟩
    · exact .inr e1
  | dic ds => obtain ⟨vs, e1, r⟩ := q; exact ⟨vs, e _ e1, r.gen a l t⟩
  | dct ds => obtain ⟨vs, e1, r⟩ := q; exact ⟨vs, e _ e1, r.gen a l t⟩
  | ins c fs => obtain ⟨dx, vs, e1, r⟩ := q; exact ⟨dx, vs, e _ e1, r.gen a l t⟩
/-- a list that the evaluator does not know is changed -/
theorem tup_off {b : Addr} {l : List V} {u : HO} (hb : H b = some (.lst l)) : ∀ p vs, H p = some (.tup vs) → upd H b u p = some (.tup vs) := fun p vs e => by
  by_cases z : p = b
  · subst z; rw [hb] at e; cases e
  · rw [upd_ne z]; exact e
theorem Sim.off (S : Sim K κ φ h H) {b : Addr} {l l' : List V} (hb : H b = some (.lst l)) (no : ¬ Own φ h b) : Sim K κ φ h (upd H b (.lst l')) := by
  refine ⟨S.inj, fun i o hi => ?_⟩
  by_cases m : o.mu = true
  · have ne : φ i ≠ b := fun z => no ⟨i, o, hi, m, z⟩
    exact RO.gen (fun _ _ => rfl) (Nat.le_refl _) (tup_off hb) (fun u e => by rw [upd_ne ne]; exact e) (S.obj i o hi)
  · cases o with
    | fz ds =>
      obtain ⟨vs, e1, r⟩ := S.obj i _ hi
      refine ⟨vs, ?_, r.gen (fun _ _ => rfl) (Nat.le_refl _) (tup_off hb)⟩
      rcases e1 with ⟨o, e1⟩ | e1
      · refine .inl ⟨o, ?_⟩
        by_cases z : φ i = b
        · rw [z, hb] at e1; cases e1
        · rw [upd_ne z]; exact e1
      · exact .inr e1
    | lst _ => exact absurd rfl m
    | dic _ => exact absurd rfl m
    | dct _ => exact absurd rfl m
    | ins _ _ => exact absurd rfl m
/-- .. becomes one of the evaluator's -/
theorem Sim.adopt (S : Sim K κ φ h H) {b : Addr} {ds : List D} {l : List V} (hb : H b = some (.lst l)) (no : ¬ Own φ h b) (r : RVs φ h.length H ds l) : Sim K κ (ext φ h.length b) (h ++ [.lst ds]) H := by
  have a : ∀ i, i < h.length → ext φ h.length b i = φ i := fun i hi => ext_lt hi
  have le : h.length ≤ (h ++ [O.lst ds]).length := by simp
  refine ⟨fun i j oi oj hi hj mi mj e => ?_, fun i o' hi => ?_⟩
  · rcases get_snoc hi with ⟨li, hi2⟩ | ⟨ei, eoi⟩ <;> rcases get_snoc hj with ⟨lj, hj2⟩ | ⟨ej, eoj⟩
    · rw [ext_lt li, ext_lt lj] at e
      exact S.inj i j oi oj hi2 hj2 mi mj e
    · rw [ext_lt li, ej, ext_at] at e
      exact absurd ⟨i, oi, hi2, mi, e⟩ no
    · rw [ext_lt lj, ei, ext_at] at e
      exact absurd ⟨j, oj, hj2, mj, e.symm⟩ no
    · rw [ei, ej]
  · rcases get_snoc hi with ⟨li, hi⟩ | ⟨rfl, rfl⟩
    · rw [ext_lt li]
      exact RO.gen a le (fun _ _ e => e) (fun _ e => e) (S.obj i o' hi)
    · rw [ext_at]
      exact ⟨l, hb, r.gen a le fun _ _ e => e⟩
end
/-! ### slots forgotten -/
theorem wipe_get (σ : L2.St) : ∀ (vs : List Nat) (j : Nat), (wipe σ vs)[j]? = if j ∈ vs then (σ[j]?).map (fun _ => none) else σ[j]?
  | [], j => by simp [wipe]
  | v :: vs, j => by
    show ((wipe σ vs).set v none)[j]? = _
    rw [List.getElem?_set, wipe_get σ vs j, wipe_length]
    by_cases hv : v = j
    · subst hv
      by_cases hl : v < σ.length
      · simp [hl]
      · simp [hl]
    · have : ¬ j = v := fun z => hv z.symm
      simp [hv, this]
theorem wipe_set {σ : L2.St} {vs : List Nat} {i : Nat} {x : Option V} (hi : i ∈ vs) : wipe (σ.set i x) vs = wipe σ vs := by
  apply List.ext_getElem?
  intro j
  rw [wipe_get, wipe_get]
  by_cases hj : j ∈ vs
  · rw [if_pos hj, if_pos hj, List.getElem?_set]
    by_cases e : i = j
    · subst e
      by_cases hl : i < σ.length
      · simp [hl]
      · simp [hl]
    · simp [e]
  · rw [if_neg hj, if_neg hj, List.getElem?_set_ne (fun e => hj (by rw [← e]; exact hi))]
theorem wipe_wipe {σ : L2.St} {vs : List Nat} : wipe (wipe σ vs) vs = wipe σ vs := by
  apply List.ext_getElem?
  intro j
  rw [wipe_get, wipe_get]
  by_cases hj : j ∈ vs
  · rw [if_pos hj, if_pos hj]
    cases σ[j]? <;> rfl
  · rw [if_neg hj, if_neg hj]
/-- a target of a block's own names -/
def GW (K : PySem.W.Frag) (vs : List Nat) (tg : TG) (g : Tg) : Prop := ∀ (φ : Nat → Addr) (n : Nat) (H : Hp) (e e' : Ev) (σ : L2.St) (d : D) (v : V) (Q : L2.St → Hp → Prop), EnvR φ n H e σ → RV φ n H d v → g e d = some e' →
  (∀ σ', EnvR φ n H e' σ' → wipe σ' vs = wipe σ vs → Q σ' H) → tg v σ H Q
theorem gw_name {K : PySem.W.Frag} {vs : List Nat} {i : Nat} (hi : i ∈ vs) : GW K vs (gName i) (gN i) := by
  intro φ n H e e' σ d v Q r q ge k
  unfold gN at ge
  cases ge
  exact k _ (r.set q i) (wipe_set hi)
theorem gsN_w {φ : Nat → Addr} {H : Hp} {n : Nat} {vs : List Nat} {Q : L2.St → Hp → Prop} : ∀ {is : List Nat} {ds : List D} {us : List V} {e : Ev} {σ : L2.St}, (∀ i ∈ is, i ∈ vs) → ds.length = is.length → EnvR φ n H e σ → RVs φ n H ds us →
    (∀ σ', EnvR φ n H ((is.zip ds).foldl (fun e p => e.set p.1 (some p.2)) e) σ' → wipe σ' vs = wipe σ vs → Q σ' H) → gsN is us σ H Q
  | [], [], us, e, σ, _, _, r, q, k => by
    simp only [RVs] at q
    exact ⟨q, k σ r rfl⟩
  | i :: is, d :: ds, us, e, σ, hv, hl, r, q, k => by
    simp only [RVs] at q
    obtain ⟨v, vr, rfl, q1, q2⟩ := q
    exact ⟨v, vr, rfl, gsN_w (is := is) (ds := ds) (fun j hj => hv j (List.mem_cons_of_mem _ hj)) (by simpa using hl) (r.set q1 i) q2 fun σ' r' w => k σ' r' (w.trans (wipe_set (hv i (List.mem_cons_self ..))))⟩
  | [], _ :: _, _, _, _, _, hl, _, _, _ => by simp at hl
  | _ :: _, [], _, _, _, _, hl, _, _, _ => by simp at hl
theorem gw_tup {K : PySem.W.Frag} {vs is : List Nat} {n : Nat} (hi : ∀ i ∈ is, i ∈ vs) (hn : is.length = n) : GW K vs (gTup K n (gsN is)) (gT is) := by
  intro φ m H e e' σ d v Q r q ge k
  unfold gT at ge
  cases d with
  | tup ds =>
    simp only at ge
    split at ge
    · rename_i hl
      cases ge
      rw [RV.tup_iff] at q
      obtain ⟨p, us, rfl, hp, q⟩ := q
      exact ⟨p, us, rfl, SqT.of hp, by rw [q.len, hl, hn], gsN_w hi hl r q k⟩
    · cases ge
  | non => cases ge
  | bl _ => cases ge
  | int _ => cases ge
  | str _ => cases ge
  | ref _ => cases ge
/-! ### the core -/
section
variable {K : PySem.W.Frag} {κ φ φ1 : Nat → Addr} {h h1 hF : HP} {H H1 : Hp} {C : Ctx}
theorem lc_go {e : Ev} {σ : L2.St} {it : Itr} {J : It} {g : Tg} {tg : TG} {vs : List Nat} {mt : MT} {me : ME} {xs : List D} {Qd : Hp → Prop} {Dl : Addr} (S1 : Sim K κ φ1 h1 H1) (r1 : EnvR φ1 h1.length H1 e σ) (hJ : ItR K κ φ1 h1 H1 it J) (hg : GW K vs tg g)
    (hc : cmpN it g mt me (wipeE e vs) C C.fuel 0 [] h1 = .ok xs hF) (hD : H1 Dl = none)
    (kQ : ∀ φ' H', Step φ1 h1 H1 φ' (hF ++ [.lst xs]) H' → Sim K κ φ' (hF ++ [.lst xs]) H' → φ' hF.length = Dl → Qd H') :
    ∃ W : Nat → Nat → Hp → Prop, (∃ m, W 0 m (upd H1 Dl (.lst []))) ∧ ∀ i m H, W i m H →
      (J.stop i H ∧ Qd H) ∨ (J.go i H ∧ ∃ Nx : Hp → Prop, (∀ H', Nx H' → ∃ m', m' < m ∧ W (i + 1) m' H') ∧ ∀ x H', J.yld i H x H' → tg x (wipe σ vs) H' fun σ2 H2 => wipe σ2 vs = wipe σ vs ∧ tQ K κ C mt σ2 H2 fun b H3 =>
        if b = true then tD K κ C me σ2 H3 fun y H4 => ∃ acc, H4 Dl = some (.lst acc) ∧ acc.length < sizeLine ∧ Nx (upd H4 Dl (.lst (acc ++ [y]))) else Nx H3) := by
  let W : Nat → Nat → Hp → Prop := fun i m H => ∃ φ h acc l, Step φ1 h1 H1 φ h H ∧ Sim K κ φ h H ∧ H Dl = some (.lst l) ∧ RVs φ h.length H acc l ∧ EnvR φ h.length H (wipeE e vs) (wipe σ vs) ∧ ¬ Own φ h Dl ∧ cmpN it g mt me (wipeE e vs) C m i acc h = .ok xs hF
  refine ⟨W, ⟨C.fuel, φ1, h1, [], [], step_temp S1 hD, S1.temp hD, upd_same, RVs.nil_iff.mpr rfl, ?_, fun o => ?_, hc⟩, ?_⟩
  · exact (r1.step S1 (step_temp S1 hD)).wipe vs
  · obtain ⟨u, e', _⟩ := S1.own o
    rw [hD] at e'; cases e'
  rintro i m H ⟨φ, h, acc, l, st, S, hl, ra, re, no, hcm⟩
  have neD : ∀ b, H1 b ≠ none → b ≠ Dl := fun b hb z => hb (z ▸ hD)
  cases m with
  | zero => cases hcm
  | succ m =>
    obtain ⟨k1, k2⟩ := hJ φ h H st S i
    simp only [cmpN] at hcm
    cases ei : it i h with
    | none => rw [ei] at hcm; cases hcm
    | some o =>
      rw [ei] at hcm
      cases o with
      | none =>
        simp only [R.ok.injEq] at hcm
        obtain ⟨rfl, rfl⟩ := hcm
        refine .inl ⟨k1 ei, kQ (ext φ h.length Dl) H ⟨?_, fun j hj => ?_, fun b hb ob => ?_⟩ (S.adopt hl no ra) ext_at⟩
        · have := st.len; simp; omega
        · rw [ext_lt (Nat.lt_of_lt_of_le hj st.len)]; exact st.agree j hj
        · obtain ⟨e1, o1⟩ := st.frame b hb ob
          refine ⟨e1, fun z => ?_⟩
          obtain ⟨j, oj, hj, mj, rfl⟩ := z
          rcases get_snoc hj with ⟨lj, hj⟩ | ⟨rfl, rfl⟩
          · exact o1 ⟨j, oj, hj, mj, (ext_lt lj).symm⟩
          · exact neD _ hb ext_at
      | some d =>
        simp only at hcm
        obtain ⟨g1, g2⟩ := k2 d ei
        refine .inr ⟨g1, W (i + 1) m, fun H' w => ⟨m, Nat.lt_succ_self m, w⟩, fun x H2 y => ?_⟩
        obtain ⟨φ2, st2, S2, q2⟩ := g2 x H2 y
        cases eg : g (wipeE e vs) d with
        | none => rw [eg] at hcm; cases hcm
        | some e2 =>
          rw [eg] at hcm
          simp only at hcm
          have hl2 := st2.frame Dl (by rw [hl]; simp) no
          refine hg φ2 h.length H2 _ e2 _ d x _ (re.step S st2) q2 eg fun σ3 r3 w3 => ⟨w3.trans wipe_wipe, ?_⟩
          cases et : mt C e2 h with
          | no => rw [et] at hcm; cases hcm
          | ex _ _ _ => rw [et] at hcm; cases hcm
          | ok b h3 =>
            rw [et] at hcm
            simp only [R.bind_ok] at hcm
            refine tq_of S2 r3 et fun φ3 H3 st3 S3 r4 => ?_
            have hl3 := st3.frame Dl (by rw [hl2.1, hl]; simp) hl2.2
            have rw3 := (re.step S st2).step S2 st3
            cases b with
            | false =>
              rw [if_neg Bool.false_ne_true] at hcm ⊢
              exact ⟨φ3, h3, acc, l, (st.trans st2).trans st3, S3, hl3.1.trans (hl2.1.trans hl), (ra.step S st2).step S2 st3, rw3, hl3.2, hcm⟩
            | true =>
              rw [if_pos rfl] at hcm ⊢
              cases ea : me C e2 h3 with
              | no => rw [ea] at hcm; cases hcm
              | ex _ _ _ => rw [ea] at hcm; cases hcm
              | ok yv h4 =>
                rw [ea] at hcm
                simp only [R.bind_ok] at hcm
                refine td_of S3 r4 ea fun φ4 H4 v st4 S4 r5 q4 => ?_
                have hl4 := st4.frame Dl (by rw [hl3.1, hl2.1, hl]; simp) hl3.2
                have hD4 : H4 Dl = some (.lst l) := hl4.1.trans (hl3.1.trans (hl2.1.trans hl))
                have ra4 := ((ra.step S st2).step S2 st3).step S3 st4
                split at hcm
                · rename_i hz
                  have tf := tup_off (u := .lst (l ++ [v])) hD4
                  refine ⟨l, hD4, by rw [ra4.len]; exact hz, φ4, h4, acc ++ [yv], l ++ [v], ⟨?_, fun j hj => ?_, fun b hb ob => ?_⟩, S4.off hD4 hl4.2, upd_same, ?_, ?_, hl4.2, hcm⟩
                  · exact Nat.le_trans st.len (Nat.le_trans st2.len (Nat.le_trans st3.len st4.len))
                  · exact ((st.trans st2).trans (st3.trans st4)).agree j hj
                  · obtain ⟨e1, o1⟩ := ((st.trans st2).trans (st3.trans st4)).frame b hb ob
                    exact ⟨by rw [upd_ne (neD b hb)]; exact e1, o1⟩
                  · exact (RVs.append ra4 (RVs.one q4)).gen (fun _ _ => rfl) (Nat.le_refl _) tf
                  · exact (rw3.step S3 st4).gen (fun _ _ => rfl) (Nat.le_refl _) tf
                · cases hcm
end
structure STs (X : Cx) (κ : Nat → Addr) (C : Ctx) (ifs : List Expr) (m : MT) : Prop where
  pts : PTs X ifs (tQ X.K κ C m)
section
variable {X : Cx} {κ : Nat → Addr} {C : Ctx} {c elt iter : Expr} {ifs : List Expr} {me : ME} {mt : MT} {mi : MI} {g : Tg} {scope : Scope} {own : List (Str × Nat)} {vs is : List Nat} {pos px spos py : Pos}
theorem sts_nil : STs X κ C [] tY := ⟨⟨fun pins s σ H Q I ⟨φ, ev, h, S, r, p⟩ => pts_nil.run pins s σ H Q I (p φ H Step.refl S)⟩⟩
theorem sts_one (h : ST X κ C c mt) : STs X κ C [c] mt := ⟨pts_one h.pt⟩
theorem lc_read {tg : TG} {e : Ev} {σ : L2.St} {φ : Nat → Addr} {h : HP} {H : Hp} {Q : VK} (hg : GW X.K vs tg g) (S : Sim X.K κ φ h H) (r : EnvR φ h.length H e σ) (p : Post X.K κ φ h H (eLc vs g mi mt me C e h) Q) : tLc (tI X.K κ C mi) tg (tQ X.K κ C mt) (tD X.K κ C me) vs σ H Q := by
  obtain ⟨it, h1, e1, p⟩ := Post.bind p
  obtain ⟨xs, hF, e2, p⟩ := Post.bind p
  refine ⟨φ, e, h, S, r, it, h1, e1, fun φ1 H1 J st S1 hJ Dl hD => ?_⟩
  refine lc_go S1 (r.step S st) hJ hg e2 hD fun φ' H' st' S' ed => ?_
  exact p φ' H' (.ref Dl) (st.trans st') S' (RV.ref_iff.mpr ⟨by simp, by rw [ed]⟩)
theorem se_lc {i : Nat} {x : Str} (hc : X.calm = true) (hN : X.N.Nodup) (hi : SI X κ C (.Name x px) iter mi) (ok : BlkOk X.N X.env.scope scope own)
    (hg : ∀ (s : Shared) (H : Hp) (A : Addr) (cl : List (Str × Addr)) (fp : List Addr), PG (X.blk s H scope (compEnvC scope cl A X.env) fp) (.Name x px) (gName i))
    (ht : ∀ (s : Shared) (H : Hp) (A : Addr) (cl : List (Str × Addr)) (fp : List Addr), STs (X.blk s H scope (compEnvC scope cl A X.env) fp) κ C ifs mt)
    (he : ∀ (s : Shared) (H : Hp) (A : Addr) (cl : List (Str × Addr)) (fp : List Addr), SE (X.blk s H scope (compEnvC scope cl A X.env) fp) κ C elt me)
    (hvs : own.map (·.2) = vs := by rfl) (hv : i ∈ vs := by decide) (hs : ∀ x, foldedSetIterable iter X.env x = pure x := by intro _; rfl) : SE X κ C (.ListComp elt [⟨.Name x px, iter, ifs, 0⟩] scope pos) (eLc vs (gN i) mi mt me) := by
  subst hvs
  exact SE.mk' (pe_lc hc hN hi.pi ok hg (fun s H A cl fp => (ht s H A cl fp).pts) (fun s H A cl fp => (he s H A cl fp).pe) hs) fun φ ev h σ H Q S r p => lc_read (gw_name hv) S r p
theorem se_lct {es : List Expr} {kk : Nat} (hc : X.calm = true) (hN : X.N.Nodup) (hi : SI X κ C (.Tuple es kk px) iter mi) (ok : BlkOk X.N X.env.scope scope own)
    (hg : ∀ (s : Shared) (H : Hp) (A : Addr) (cl : List (Str × Addr)) (fp : List Addr), SGs (X.blk s H scope (compEnvC scope cl A X.env) fp) es is)
    (ht : ∀ (s : Shared) (H : Hp) (A : Addr) (cl : List (Str × Addr)) (fp : List Addr), STs (X.blk s H scope (compEnvC scope cl A X.env) fp) κ C ifs mt)
    (he : ∀ (s : Shared) (H : Hp) (A : Addr) (cl : List (Str × Addr)) (fp : List Addr), SE (X.blk s H scope (compEnvC scope cl A X.env) fp) κ C elt me)
    (hvs : own.map (·.2) = vs := by rfl) (hv : ∀ i ∈ is, i ∈ vs := by decide) (hs : ∀ x, foldedSetIterable iter X.env x = pure x := by intro _; rfl)
    (hn : ∀ env : Env, (assignEach es env).length = is.length := by intro _; rfl) (hst : ∀ env : Env, (assignEach es env).findIdx? (·.1) = none := by intro _; rfl) : SE X κ C (.ListComp elt [⟨.Tuple es kk px, iter, ifs, 0⟩] scope pos) (eLc vs (gT is) mi mt me) := by
  subst hvs
  exact SE.mk' (pe_lc hc hN hi.pi ok (fun s H A cl fp => pg_tup (X := X.blk s H scope (compEnvC scope cl A X.env) fp) hc (hg s H A cl fp).pgs (hn _) (hst _)) (fun s H A cl fp => (ht s H A cl fp).pts) (fun s H A cl fp => (he s H A cl fp).pe) hs) fun φ ev h σ H Q S r p => lc_read (gw_tup hv rfl) S r p
/-- y = [..] -/
theorem ss_lc {j i : Nat} {x y : Str} (hc : X.calm = true) (hsw : swapsWith (.ListComp elt [⟨.Name x px, iter, ifs, 0⟩] scope pos) (some (.Name y py)) spos.line X.env = pure true) (hN : X.N.Nodup) (hi : SI X κ C (.Name x px) iter mi) (ok : BlkOk X.N X.env.scope scope own)
    (hg : ∀ (s : Shared) (H : Hp) (A : Addr) (cl : List (Str × Addr)) (fp : List Addr), PG (X.blk s H scope (compEnvC scope cl A X.env) fp) (.Name x px) (gName i))
    (ht : ∀ (s : Shared) (H : Hp) (A : Addr) (cl : List (Str × Addr)) (fp : List Addr), STs (X.blk s H scope (compEnvC scope cl A X.env) fp) κ C ifs mt)
    (he : ∀ (s : Shared) (H : Hp) (A : Addr) (cl : List (Str × Addr)) (fp : List Addr), SE (X.blk s H scope (compEnvC scope cl A X.env) fp) κ C elt me)
    (hy : X.N[j]? = some y := by rfl) (hyl : X.env.scope.names.lookup y = some .local := by rfl)
    (hvs : own.map (·.2) = vs := by rfl) (hv : i ∈ vs := by decide) (hs : ∀ x, foldedSetIterable iter X.env x = pure x := by intro _; rfl) : SS X κ C (.Assign [.Name y py] (.ListComp elt [⟨.Name x px, iter, ifs, 0⟩] scope pos) spos) (sAs (gN j) (eLc vs (gN i) mi mt me)) := by
  subst hvs
  refine SS.mk' (ps_setLc (te := tD X.K κ C me) (tt := tQ X.K κ C mt) hc hN hy hyl hsw hi.pi ok hg (fun s H A cl fp => (ht s H A cl fp).pts) (fun s H A cl fp => (he s H A cl fp).pe) hs) fun φ ev h σ H Dn S r p => ?_
  obtain ⟨d, h1, e1, p⟩ := PostS.bind p
  refine lc_read (Q := fun x H1 => gName j x σ H1 Dn.nx) (gw_name hv) S r ?_
  rw [e1]
  exact fun φ1 H1 v st S1 q1 => p φ1 H1 _ st S1 ((r.step S st).set q1 j)
theorem ss_lct {j : Nat} {y : Str} {es : List Expr} {kk : Nat} (hc : X.calm = true) (hsw : swapsWith (.ListComp elt [⟨.Tuple es kk px, iter, ifs, 0⟩] scope pos) (some (.Name y py)) spos.line X.env = pure true) (hN : X.N.Nodup) (hi : SI X κ C (.Tuple es kk px) iter mi) (ok : BlkOk X.N X.env.scope scope own)
    (hg : ∀ (s : Shared) (H : Hp) (A : Addr) (cl : List (Str × Addr)) (fp : List Addr), SGs (X.blk s H scope (compEnvC scope cl A X.env) fp) es is)
    (ht : ∀ (s : Shared) (H : Hp) (A : Addr) (cl : List (Str × Addr)) (fp : List Addr), STs (X.blk s H scope (compEnvC scope cl A X.env) fp) κ C ifs mt)
    (he : ∀ (s : Shared) (H : Hp) (A : Addr) (cl : List (Str × Addr)) (fp : List Addr), SE (X.blk s H scope (compEnvC scope cl A X.env) fp) κ C elt me)
    (hy : X.N[j]? = some y := by rfl) (hyl : X.env.scope.names.lookup y = some .local := by rfl)
    (hvs : own.map (·.2) = vs := by rfl) (hv : ∀ i ∈ is, i ∈ vs := by decide) (hs : ∀ x, foldedSetIterable iter X.env x = pure x := by intro _; rfl)
    (hn : ∀ env : Env, (assignEach es env).length = is.length := by intro _; rfl) (hst : ∀ env : Env, (assignEach es env).findIdx? (·.1) = none := by intro _; rfl) : SS X κ C (.Assign [.Name y py] (.ListComp elt [⟨.Tuple es kk px, iter, ifs, 0⟩] scope pos) spos) (sAs (gN j) (eLc vs (gT is) mi mt me)) := by
  subst hvs
  refine SS.mk' (ps_setLc (g := gTup X.K is.length (gsN is)) (te := tD X.K κ C me) (tt := tQ X.K κ C mt) hc hN hy hyl hsw hi.pi ok (fun s H A cl fp => pg_tup (X := X.blk s H scope (compEnvC scope cl A X.env) fp) hc (hg s H A cl fp).pgs (hn _) (hst _)) (fun s H A cl fp => (ht s H A cl fp).pts) (fun s H A cl fp => (he s H A cl fp).pe) hs) fun φ ev h σ H Dn S r p => ?_
  obtain ⟨d, h1, e1, p⟩ := PostS.bind p
  refine lc_read (Q := fun x H1 => gName j x σ H1 Dn.nx) (gw_tup hv rfl) S r ?_
  rw [e1]
  exact fun φ1 H1 v st S1 q1 => p φ1 H1 _ st S1 ((r.step S st).set q1 j)
end
end Z
/-! Z8m: methods of lists and texts, list(), tuple(), sorted(), chains of comparisons. -/
namespace Z
open PySem L2 PyProof.Rows

/-- o.m(..), o of a built-in type (looked at ahead of the arguments) -/
def eBk (ok : D → HP → Bool) (f : D → List D → HP → R D) (o : ME) (as : MA) : ME := fun C e h => (o C e h).bind fun x h => if ok x h = true then (as C e h).bind fun xs h => f x xs h else .no
def okL : D → HP → Bool := fun x h => match x with
  | .ref i => (isL i h).isSome
  | _ => false
def okS : D → HP → Bool := fun x _ => match x with
  | .str _ => true
  | _ => false
def mApp : D → List D → HP → R D := fun x ys h => match x, ys with
  | .ref i, [y] => match h[i]? with
    | some (.lst xs) => if xs.length < sizeLine then .ok .non (h.set i (.lst (xs ++ [y]))) else .no
    | _ => .no
  | _, _ => .no
def mExt : D → List D → HP → R D := fun x ys h => match x, ys with
  | .ref i, [.ref j] => match h[i]?, h[j]? with
    | some (.lst xs), some (.lst zs) => if xs.length + zs.length ≤ sizeLine then .ok .non (h.set i (.lst (xs ++ zs))) else .no
    | _, _ => .no
  | _, _ => .no
def mPop : D → List D → HP → R D := fun x ys h => match x, ys with
  | .ref i, [] => match h[i]? with
    | some (.lst xs) => match xs[xs.length - 1]? with
      | some y => .ok y (h.set i (.lst xs.dropLast))
      | none => .no
    | _ => .no
  | _, _ => .no
def mClr : D → List D → HP → R D := fun x ys h => match x, ys with
  | .ref i, [] => match h[i]? with
    | some (.lst _) => .ok .non (h.set i (.lst []))
    | _ => .no
  | _, _ => .no
def mCnt : D → List D → HP → R D := fun x ys h => match x, ys with
  | .ref i, [.int k] => match isL i h with
    | some ds => match intsD ds with
      | some ns => .ok (.int (ns.count k : Nat)) h
      | none => .no
    | none => .no
  | _, _ => .no
/-- the first place, among flat things -/
def idxD (y : D) : List D → Nat → Option Nat
  | [], _ => none
  | z :: r, j => match eqFlat z y with
    | some true => some j
    | some false => idxD y r (j + 1)
    | none => none
def mIdx : D → List D → HP → R D := fun x ys h => match x, ys with
  | .ref i, [y] => match isL i h with
    | some ds => if flatD y = true ∧ ds.all flatD = true then match idxD y ds 0 with
        | some j => .ok (.int (j : Nat)) h
        | none => .no
      else .no
    | none => .no
  | _, _ => .no
def strD : D → Option Str
  | .str x => some x
  | _ => none
def strsD (ds : List D) : Option (List Str) := seqO (ds.map strD)
def mJoin : D → List D → HP → R D := fun x ys h => match x, ys with
  | .str a, [.ref i] => match isL i h with
    | some ds => match strsD ds with
      | some zs => if (zs.map (·.length)).sum + zs.length * a.length ≤ 16777216 then .ok (.str (Txt.join a zs)) h else .no
      | none => .no
    | none => .no
  | .str a, [.tup ds] => match strsD ds with
    | some zs => if (zs.map (·.length)).sum + zs.length * a.length ≤ 16777216 then .ok (.str (Txt.join a zs)) h else .no
    | none => .no
  | _, _ => .no
def mSplit : D → List D → HP → R D := fun x ys h => match x, ys with
  | .str a, [.str b] => if (b.length == 0) = false ∧ a.length + 2 ≤ sizeLine then .ok (.ref h.length) (h ++ [.lst ((Txt.split a b).map D.str)]) else .no
  | _, _ => .no
def mFind : D → List D → HP → R D := fun x ys h => match x, ys with
  | .str a, [.str b] => .ok (.int (Txt.find a b)) h
  | _, _ => .no
def bLst : List D → HP → R D := fun xs h => match xs with
  | [.ref i] => match isL i h with
    | some ds => .ok (.ref h.length) (h ++ [.lst ds])
    | none => .no
  | [.tup ds] => .ok (.ref h.length) (h ++ [.lst ds])
  | _ => .no
def bTup : List D → HP → R D := fun xs h => match xs with
  | [.ref i] => match isL i h with
    | some ds => .ok (.tup ds) h
    | none => .no
  | [.tup ds] => .ok (.tup ds) h
  | _ => .no
def srtI (ns : List Int) : List Int := ns.mergeSort (fun a b => decide (a ≤ b))
def bSrt : List D → HP → R D := fun xs h => match xs with
  | [.ref i] => match isL i h with
    | some ds => match intsD ds with
      | some ns => .ok (.ref h.length) (h ++ [.lst ((srtI ns).map D.int)])
      | none => .no
    | none => .no
  | _ => .no
section
variable {K : PySem.W.Frag} {κ φ : Nat → Addr} {h : HP} {H : Hp}
theorem okL_ok {φ : Nat → Addr} {h : HP} {H : Hp} {d : D} {v : V} (S : Sim K κ φ h H) (r : RV φ h.length H d v) (e : okL d h = true) : tyV K "list" v H := by
  unfold okL at e
  split at e
  · rw [RV.ref_iff] at r
    obtain ⟨_, rfl⟩ := r
    obtain ⟨ds, e2⟩ := Option.isSome_iff_exists.mp e
    obtain ⟨vs, hs, _⟩ := S.isL e2
    exact .inl ⟨rfl, vs, hs⟩
  · cases e
theorem okS_ok {φ : Nat → Addr} {h : HP} {H : Hp} {d : D} {v : V} (S : Sim K κ φ h H) (r : RV φ h.length H d v) (e : okS d h = true) : tyV K "str" v H := by
  unfold okS at e
  split at e
  · rw [RV.str_iff] at r
    subst r
    rfl
  · cases e
theorem strsD_of : ∀ {ds : List D} {zs : List Str}, strsD ds = some zs → ds = zs.map D.str
  | [], zs, e => by simp only [strsD, List.map_nil, seqO, Option.some.injEq] at e; subst e; rfl
  | d :: ds, zs, e => by
    unfold strsD at e
    cases d with
    | str i =>
      have e : (strsD ds).map (fun l => i :: l) = some zs := e
      rw [Option.map_eq_some_iff] at e
      obtain ⟨as, e2, rfl⟩ := e
      rw [strsD_of e2]; rfl
    | non => cases e
    | bl _ => cases e
    | int _ => cases e
    | tup _ => cases e
    | ref _ => cases e
theorem strsD_strs : ∀ zs : List Str, strsD (zs.map D.str) = some zs
  | [] => rfl
  | i :: r => by
    have ih := strsD_strs r
    unfold strsD at ih ⊢
    simp only [List.map_cons, seqO, strD]
    rw [ih]; rfl
theorem RVs.strs {φ : Nat → Addr} {n : Nat} {H : Hp} : ∀ {zs : List Str} {vs : List V}, RVs φ n H (zs.map D.str) vs → vs = zs.map V.str
  | [], vs, h => by simpa [RVs] using h
  | i :: zs, vs, h => by
    simp only [List.map_cons, RVs] at h
    obtain ⟨v, r, rfl, h1, h⟩ := h
    simp only [RV] at h1
    subst h1
    rw [RVs.strs h]; rfl
theorem RVs.of_strs {φ : Nat → Addr} {n : Nat} {H : Hp} : ∀ {zs : List Str}, RVs φ n H (zs.map D.str) (zs.map V.str)
  | [] => by simp [RVs]
  | i :: zs => by
    simp only [List.map_cons, RVs]
    exact ⟨_, _, rfl, by simp [RV], RVs.of_strs⟩
theorem RVs.dropLast {φ : Nat → Addr} {n : Nat} {H : Hp} : ∀ {ds : List D} {vs : List V}, RVs φ n H ds vs → RVs φ n H ds.dropLast vs.dropLast
  | [], vs, h => by simp only [RVs] at h; subst h; simp [RVs]
  | [d], vs, h => by
    simp only [RVs] at h
    obtain ⟨v, r, rfl, _, rfl⟩ := h
    simp [RVs]
  | d :: d2 :: ds, vs, h => by
    have h' := h
    simp only [RVs] at h'
    obtain ⟨v, r, rfl, h1, v2, r2, rfl, h2, h3⟩ := h'
    have ih := RVs.dropLast (ds := d2 :: ds) (vs := v2 :: r2) (by simp only [RVs]; exact ⟨_, _, rfl, h2, h3⟩)
    simp only [List.dropLast_cons₂]
    exact RVs.cons h1 ih
/-- an object of the evaluator's is changed: what is to be shown of the result -/
theorem Post.setL {Q : VK} {d : D} {v : V} {i : Nat} {o : O} {ds : List D} {vs : List V} (p : Post K κ φ h H (.ok d (h.set i (.lst ds))) Q) (S : Sim K κ φ h H) (hi : h[i]? = some o) (m : o.mu = true) (r : RVs φ h.length H ds vs) (q : RV φ h.length H d v) : Q v (upd H (φ i) (.lst vs)) := by
  have st := step_set S (o' := .lst ds) (u := .lst vs) hi m rfl
  exact p _ _ _ st (S.set hi m rfl fun st => ⟨vs, upd_same, r.step S st⟩) (q.step S st)
theorem idxD_of {y : D} {u : V} (ry : RV φ h.length H y u) : ∀ {ds : List D} {vs : List V} {j k : Nat}, RVs φ h.length H ds vs → idxD y ds j = some k → ∃ i z, k = j + i ∧ vs[i]? = some z ∧ eqV z u = true ∧ ∀ m z', m < i → vs[m]? = some z' → eqV z' u = false
  | [], vs, j, k, r, e => by cases e
  | d :: ds, vs, j, k, r, e => by
    simp only [RVs] at r
    obtain ⟨v, r2, rfl, q1, q2⟩ := r
    unfold idxD at e
    split at e
    · rename_i e1
      cases e
      exact ⟨0, v, rfl, rfl, flat_eq e1 q1 ry, fun m z' hm => absurd hm (Nat.not_lt_zero m)⟩
    · rename_i e1
      obtain ⟨i, z, rfl, e2, e3, e4⟩ := idxD_of ry q2 e
      refine ⟨i + 1, z, by omega, by simpa using e2, e3, fun m z' hm hz => ?_⟩
      cases m with
      | zero =>
        simp only [List.getElem?_cons_zero, Option.some.injEq] at hz
        subst hz
        exact flat_eq e1 q1 ry
      | succ m => exact e4 m z' (by omega) (by simpa using hz)
    · cases e
theorem flats_of : ∀ {ds : List D} {vs : List V}, ds.all flatD = true → RVs φ h.length H ds vs → vs.all flatV = true
  | [], vs, _, r => by simp only [RVs] at r; subst r; rfl
  | d :: ds, vs, f, r => by
    simp only [RVs] at r
    obtain ⟨v, r2, rfl, q1, q2⟩ := r
    simp only [List.all_cons, Bool.and_eq_true] at f ⊢
    exact ⟨flat_of f.1 q1, flats_of f.2 q2⟩
end
/-- what a method's reading asks, by the evaluator -/
def MetD (X : Cx) (κ : Nat → Addr) (r : V → List V → Hp → VK → Prop) (f : D → List D → HP → R D) : Prop := ∀ (φ : Nat → Addr) (h : HP) (H : Hp) (x : D) (xs : List D) (v : V) (vs : List V) (Q : VK), Sim X.K κ φ h H → RV φ h.length H x v → RVs φ h.length H xs vs → Post X.K κ φ h H (f x xs h) Q → r v vs H Q
section
variable {X : Cx} {κ : Nat → Addr} {C : Ctx} {a b c e o : Expr} {es : List Expr} {ma mb mc mo : ME} {ta tb : MT} {mas : MA} {pos apos cpos p2 : Pos}
theorem md_append : MetD X κ rAppend mApp := by
  intro φ h H x xs v vs Q S rx rs p
  unfold mApp at p
  split at p
  · (replace rs := rs.one_inv); obtain ⟨u, rfl, ry⟩ := rs
    rw [RV.ref_iff] at rx
    obtain ⟨hi, rfl⟩ := rx
    split at p
    · rename_i ds e
      split at p
      · rename_i hz
        obtain ⟨ws, e2, r⟩ := S.lst e
        exact ⟨_, ws, u, rfl, rfl, e2, by rw [r.len]; exact hz, p.setL S e rfl (r.append (RVs.one ry)) (RV.non_iff.mpr rfl)⟩
      · exact False.elim p
    · exact False.elim p
  · exact False.elim p
theorem md_extend : MetD X κ rExtend mExt := by
  intro φ h H x xs v vs Q S rx rs p
  unfold mExt at p
  split at p
  · (replace rs := rs.one_inv); obtain ⟨u, rfl, ry⟩ := rs
    rw [RV.ref_iff] at rx ry
    obtain ⟨hi, rfl⟩ := rx
    obtain ⟨hj, rfl⟩ := ry
    split at p
    · rename_i ds zs e ez
      split at p
      · rename_i hz
        obtain ⟨ws, e2, r⟩ := S.lst e
        obtain ⟨ys, e3, r2⟩ := S.lst ez
        exact ⟨_, _, ws, ys, rfl, rfl, e2, e3, by rw [r.len, r2.len]; exact hz, p.setL S e rfl (r.append r2) (RV.non_iff.mpr rfl)⟩
      · exact False.elim p
    · exact False.elim p
  · exact False.elim p
theorem md_pop : MetD X κ rPop mPop := by
  intro φ h H x xs v vs Q S rx rs p
  unfold mPop at p
  split at p
  · simp only [RVs] at rs
    subst rs
    rw [RV.ref_iff] at rx
    obtain ⟨hi, rfl⟩ := rx
    split at p
    · rename_i ds e
      split at p
      · rename_i y ey
        obtain ⟨ws, e2, r⟩ := S.lst e
        obtain ⟨u, eu, ru⟩ := r.get ey
        exact ⟨_, ws, u, rfl, rfl, e2, by rw [r.len]; exact eu, p.setL S e rfl r.dropLast ru⟩
      · exact False.elim p
    · exact False.elim p
  · exact False.elim p
theorem md_clear : MetD X κ rClear mClr := by
  intro φ h H x xs v vs Q S rx rs p
  unfold mClr at p
  split at p
  · simp only [RVs] at rs
    subst rs
    rw [RV.ref_iff] at rx
    obtain ⟨hi, rfl⟩ := rx
    split at p
    · rename_i ds e
      obtain ⟨ws, e2, r⟩ := S.lst e
      exact ⟨_, ws, rfl, rfl, e2, p.setL S e rfl (RVs.nil_iff.mpr rfl) (RV.non_iff.mpr rfl)⟩
    · exact False.elim p
  · exact False.elim p
theorem md_count : MetD X κ (rCntI X.K) mCnt := by
  intro φ h H x xs v vs Q S rx rs p
  unfold mCnt at p
  split at p
  · (replace rs := rs.one_inv); obtain ⟨u, rfl, ry⟩ := rs
    rw [RV.ref_iff] at rx
    rw [RV.int_iff] at ry
    obtain ⟨hi, rfl⟩ := rx
    subst ry
    split at p
    · rename_i ds e
      split at p
      · rename_i ns en
        exact ⟨_, ns, _, rfl, rfl, S.intsL e en, p.of0 S (RV.int_iff.mpr rfl)⟩
      · exact False.elim p
    · exact False.elim p
  · exact False.elim p
theorem md_index : MetD X κ (rIndex X.K) mIdx := by
  intro φ h H x xs v vs Q S rx rs p
  unfold mIdx at p
  split at p
  · (replace rs := rs.one_inv); obtain ⟨u, rfl, ry⟩ := rs
    rw [RV.ref_iff] at rx
    obtain ⟨hi, rfl⟩ := rx
    split at p
    · rename_i ds e
      split at p
      · rename_i hf
        split at p
        · rename_i j ej
          obtain ⟨ws, e2, r⟩ := S.isL e
          obtain ⟨i, z, hk, e3, e4, e5⟩ := idxD_of ry r ej
          have : j = i := by omega
          subst this
          exact ⟨_, ws, u, j, z, rfl, rfl, e2, flat_of hf.1 ry, flats_of hf.2 r, e3, e4, e5, p.of0 S (RV.int_iff.mpr rfl)⟩
        · exact False.elim p
      · exact False.elim p
    · exact False.elim p
  · exact False.elim p
theorem md_join : MetD X κ (fun x xs H Q => ∃ a p, ∃ ys : List Str, x = .str a ∧ xs = [.ref p] ∧ (SqL X.K H p (ys.map V.str) ∨ SqT X.K H p (ys.map V.str)) ∧ (ys.map (·.length)).sum + ys.length * a.length ≤ 16777216 ∧ Q (.str (Txt.join a ys)) H) mJoin := by
  intro φ h H x xs v vs Q S rx rs p
  unfold mJoin at p
  split at p
  · (replace rs := rs.one_inv); obtain ⟨u, rfl, ry⟩ := rs
    rw [RV.str_iff] at rx
    rw [RV.ref_iff] at ry
    obtain ⟨hi, rfl⟩ := ry
    subst rx
    split at p
    · rename_i ds e
      split at p
      · rename_i zs ez
        split at p
        · rename_i hz
          obtain ⟨ws, e2, r⟩ := S.isL e
          rw [strsD_of ez] at r
          rw [r.strs] at e2
          exact ⟨_, _, zs, rfl, rfl, .inl e2, hz, p.of0 S (RV.str_iff.mpr rfl)⟩
        · exact False.elim p
      · exact False.elim p
    · exact False.elim p
  · (replace rs := rs.one_inv); obtain ⟨u, rfl, ry⟩ := rs
    rw [RV.str_iff] at rx
    rw [RV.tup_iff] at ry
    obtain ⟨q, ws, rfl, hq, r⟩ := ry
    subst rx
    split at p
    · rename_i zs ez
      split at p
      · rename_i hz
        rw [strsD_of ez] at r
        rw [r.strs] at hq
        exact ⟨_, _, zs, rfl, rfl, .inr (SqT.of hq), hz, p.of0 S (RV.str_iff.mpr rfl)⟩
      · exact False.elim p
    · exact False.elim p
  · exact False.elim p
theorem md_split : MetD X κ (fun x xs H Q => ∃ a b, x = .str a ∧ xs = [.str b] ∧ (b.length == 0) = false ∧ a.length + 2 ≤ sizeLine ∧ rNewStrs (Txt.split a b) H Q) mSplit := by
  intro φ h H x xs v vs Q S rx rs p
  unfold mSplit at p
  split at p
  · (replace rs := rs.one_inv); obtain ⟨u, rfl, ry⟩ := rs
    rw [RV.str_iff] at rx ry
    subst rx ry
    split at p
    · rename_i hz
      exact ⟨_, _, rfl, rfl, hz.1, hz.2, fun q hq => p.newL S hq RVs.of_strs⟩
    · exact False.elim p
  · exact False.elim p
theorem md_find : MetD X κ (fun x xs H Q => ∃ a b, x = .str a ∧ xs = [.str b] ∧ Q (.int (Txt.find a b)) H) mFind := by
  intro φ h H x xs v vs Q S rx rs p
  unfold mFind at p
  split at p
  · (replace rs := rs.one_inv); obtain ⟨u, rfl, ry⟩ := rs
    rw [RV.str_iff] at rx ry
    subst rx ry
    exact ⟨_, _, rfl, rfl, p.of0 S (RV.int_iff.mpr rfl)⟩
  · exact False.elim p
theorem se_bk {T id : String} {name : Str} {r : V → List V → Hp → VK → Prop} {ok : D → HP → Bool} {f : D → List D → HP → R D} (pa : PlainAttrs T) (slot : Slot T name id) (hty : typeOf (.builtin id) = pure (.type "method_descriptor")) (hm : MtR X id r)
    (hk : ∀ {φ : Nat → Addr} {h : HP} {H : Hp} {d : D} {v : V}, Sim X.K κ φ h H → RV φ h.length H d v → ok d h = true → tyV X.K T v H) (M : MetD X κ r f) (ho : SE X κ C o mo) (ha : SA X κ C (e :: es) mas)
    (hbase : attributeBase o name X.env (eval o X.env) = eval o X.env := by rfl)
    (hfew : ((backTo cpos (starEach (e :: es) X.env)).all (fun x => !x.1) && (backToKw cpos (keywordEach [] X.env)).all (fun x => x.1.isSome)
      && decide ((e :: es).length + ([] : List Keyword).length + (if ([] : List Keyword).isEmpty then 0 else 1) < 30)) = true := by rfl)
    (hline : (apos.endLine == cpos.line) = true := by rfl) (hs : starEach (e :: es) X.env = (false, eval e X.env) :: starEach es X.env := by rfl) (hplain : (backTo cpos (starEach es X.env)).any (·.1) = false := by rfl) :
    SE X κ C (.Call (.Attribute o name apos) (e :: es) [] cpos) (eBk ok f mo mas) :=
  SE.mk' (pe_bm pa slot hty hm ho.pe ha.pa hbase hfew hline hs hplain) fun φ ev h σ H Q S r p => by
    obtain ⟨d, h1, e1, p⟩ := Post.bind p
    split at p
    · rename_i hok
      obtain ⟨ds, h2, e2, p⟩ := Post.bind p
      exact td_of S r e1 fun φ1 H1 v st S1 r1 q1 => ⟨hk S1 q1 hok, ta_of S1 r1 e2 fun φ2 H2 vs st2 S2 r2 q2 => M φ2 h2 H2 d ds v vs Q S2 (q1.step S1 st2) q2 (p.step (st.trans st2))⟩
    · exact False.elim p
theorem se_bk0 {T id : String} {name : Str} {r : V → List V → Hp → VK → Prop} {ok : D → HP → Bool} {f : D → List D → HP → R D} (pa : PlainAttrs T) (slot : Slot T name id) (hty : typeOf (.builtin id) = pure (.type "method_descriptor")) (hm : MtR X id r)
    (hk : ∀ {φ : Nat → Addr} {h : HP} {H : Hp} {d : D} {v : V}, Sim X.K κ φ h H → RV φ h.length H d v → ok d h = true → tyV X.K T v H) (M : MetD X κ r f) (ho : SE X κ C o mo)
    (hbase : attributeBase o name X.env (eval o X.env) = eval o X.env := by rfl) (hline : (apos.endLine == cpos.line) = true := by rfl) : SE X κ C (.Call (.Attribute o name apos) [] [] cpos) (eBk ok f mo aN) :=
  SE.mk' (pe_bm0 pa slot hty hm ho.pe hbase hline) fun φ ev h σ H Q S r p => by
    obtain ⟨d, h1, e1, p⟩ := Post.bind p
    split at p
    · rename_i hok
      exact td_of S r e1 fun φ1 H1 v st S1 r1 q1 => ⟨hk S1 q1 hok, M φ1 h1 H1 d [] v [] Q S1 q1 (RVs.nil_iff.mpr rfl) (p.step st)⟩
    · exact False.elim p
theorem cd_lst : CallR X (.type "list") (rB X.K κ bLst) := by
  intro pins s σ H xs us Q I r ⟨φ, h, ds, S, q, p⟩
  unfold bLst at p
  split at p
  · (replace q := q.one_inv); obtain ⟨v, rfl, q⟩ := q
    rw [RV.ref_iff] at q
    obtain ⟨hi, rfl⟩ := q
    split at p
    · rename_i ds e
      obtain ⟨vs, hs, r2⟩ := S.isL e
      exact call_list_of pins s σ H _ us Q I r ⟨_, vs, rfl, .inl hs, fun l hl => p.newL S hl r2⟩
    · exact False.elim p
  · (replace q := q.one_inv); obtain ⟨v, rfl, q⟩ := q
    rw [RV.tup_iff] at q
    obtain ⟨a, vs, rfl, ha, r2⟩ := q
    exact call_list_of pins s σ H _ us Q I r ⟨_, vs, rfl, .inr (SqT.of ha), fun l hl => p.newL S hl r2⟩
  · exact False.elim p
theorem cd_tup : CallR X (.type "tuple") (rB X.K κ bTup) := by
  intro pins s σ H xs us Q I r ⟨φ, h, ds, S, q, p⟩
  unfold bTup at p
  split at p
  · (replace q := q.one_inv); obtain ⟨v, rfl, q⟩ := q
    rw [RV.ref_iff] at q
    obtain ⟨hi, rfl⟩ := q
    split at p
    · rename_i ds e
      obtain ⟨vs, hs, r2⟩ := S.isL e
      exact call_tuple_of pins s σ H _ us Q I r ⟨_, vs, rfl, .inl ⟨hs, fun l hl => p.newT S hl r2⟩⟩
    · exact False.elim p
  · (replace q := q.one_inv); obtain ⟨v, rfl, q⟩ := q
    have q' := q
    rw [RV.tup_iff] at q
    obtain ⟨a, vs, rfl, ha, r2⟩ := q
    exact call_tuple_of pins s σ H _ us Q I r ⟨_, vs, rfl, .inr ⟨SqT.of ha, p.of0 S q'⟩⟩
  · exact False.elim p
theorem srt_uniq {ns ms : List Int} (hp : ms.Perm ns) (hs : ms.Pairwise (· ≤ ·)) : ms = srtI ns := by
  have p2 : (srtI ns).Perm ns := List.mergeSort_perm ns _
  have s2 : (srtI ns).Pairwise (· ≤ ·) := by
    have := List.pairwise_mergeSort (le := fun a b : Int => decide (a ≤ b)) (fun a b c h1 h2 => by simp at *; omega) (fun a b => by simp; omega) ns
    exact this.imp fun h => by simpa using h
  exact (hp.trans p2.symm).eq_of_pairwise (le := (· ≤ ·)) (fun a b _ _ h1 h2 => Int.le_antisymm h1 h2) hs s2
theorem cd_srt : CallR X (.builtin "sorted") (rB X.K κ bSrt) := by
  intro pins s σ H xs us Q I r ⟨φ, h, ds, S, q, p⟩
  unfold bSrt at p
  split at p
  · (replace q := q.one_inv); obtain ⟨v, rfl, q⟩ := q
    rw [RV.ref_iff] at q
    obtain ⟨hi, rfl⟩ := q
    split at p
    · rename_i ds e
      split at p
      · rename_i ns en
        refine cr_sortedI pins s σ H _ us Q I r ⟨_, ns, rfl, S.intsL e en, fun ms l hp hs hl => ?_⟩
        rw [srt_uniq hp hs]
        exact p.newL S hl RVs.of_ints
      · exact False.elim p
    · exact False.elim p
  · exact False.elim p
/-- a op b op2 c -/
def eChn (op op2 : D → D → HP → R D) (a b c : ME) : ME := fun C e h => (a C e h).bind fun x h => (b C e h).bind fun y h => (op x y h).bind fun z h => match z with
  | .bl k => if k = true then (c C e h).bind fun w h => op2 y w h else .ok (.bl false) h
  | _ => .no
theorem chn_read {op op2 : D → D → HP → R D} {φ : Nat → Addr} {h : HP} {H : Hp} {ev : Ev} {σ : L2.St} {Q : VK} (hc : SE X κ C c mc) (S : Sim X.K κ φ h H) (r : EnvR φ h.length H ev σ) (p : Post X.K κ φ h H (eChn op op2 ma mb mc C ev h) Q) :
    tChain (rD X.K κ op) (rD X.K κ op2) (tD X.K κ C ma) (tD X.K κ C mb) (tD X.K κ C mc) σ H Q := by
  obtain ⟨dx, h1, e1, p⟩ := Post.bind p
  obtain ⟨dy, h2, e2, p⟩ := Post.bind p
  obtain ⟨dz, h3, e3, p⟩ := Post.bind p
  refine td_of S r e1 fun φ1 H1 v st S1 r1 q1 => td_of S1 r1 e2 fun φ2 H2 w st2 S2 r2 q2 => ⟨φ2, h2, dx, dy, S2, q1.step S1 st2, q2, ?_⟩
  rw [e3]
  intro φ3 H3 z st3 S3 q3
  cases dz with
  | bl k =>
    rw [RV.bl_iff] at q3
    refine ⟨k, q3, ?_⟩
    cases k with
    | false =>
      simp only [Bool.false_eq_true, if_false] at p ⊢
      exact (p.step (st.trans (st2.trans st3))).of0 S3 (RV.bl_iff.mpr rfl)
    | true =>
      simp only [if_true] at p ⊢
      obtain ⟨dw, h4, e4, p⟩ := Post.bind p
      exact td_of S3 (r2.step S2 st3) e4 fun φ4 H4 u st4 S4 r4 q4 => ⟨φ4, h4, dy, dw, S4, (q2.step S2 st3).step S3 st4, q4, p.step ((st.trans st2).trans (st3.trans st4))⟩
  | non => exact False.elim p
  | int _ => exact False.elim p
  | str _ => exact False.elim p
  | tup _ => exact False.elim p
  | ref _ => exact False.elim p
theorem se_chn {o o2 : CmpOp} {op op2 : D → D → HP → R D} (ho : OpR X (compareOp o) (rD X.K κ op)) (ho2 : OpR X (compareOp o2) (rD X.K κ op2)) (ha : SE X κ C a ma) (hb : SE X κ C b mb) (hc : SE X κ C c mc)
    (hm : lastMarks [o, o2] [b, c] = false := by with_unfolding_all rfl) : SE X κ C (.Compare a [o, o2] [b, c] pos) (eChn op op2 ma mb mc) :=
  SE.mk' (pe_chain ho ho2 ha.pe hb.pe hc.pe hm) fun φ ev h σ H Q S r p => chn_read hc S r p
theorem st_chn {o o2 : CmpOp} {op op2 : D → D → HP → R D} (ho : OpR X (compareOp o) (rD X.K κ op)) (ho2 : OpR X (compareOp o2) (rD X.K κ op2)) (ha : SE X κ C a ma) (hb : SE X κ C b mb) (hc : SE X κ C c mc)
    (hm : lastMarks [o, o2] [b, c] = false := by with_unfolding_all rfl) : ST X κ C (.Compare a [o, o2] [b, c] pos) (tV (eChn op op2 ma mb mc)) :=
  ST.mk' (pt_chain ho ho2 ha.pe hb.pe hc.pe hm) fun φ ev h σ H Q S r p => by
    obtain ⟨dz, h3, e3, p⟩ := PostT.bind p
    refine chn_read hc S r ?_
    rw [e3]
    intro φ3 H3 z st3 S3 q3
    cases dz with
    | bl k =>
      rw [RV.bl_iff] at q3
      exact ⟨k, q3, p φ3 H3 st3 S3⟩
    | non => exact False.elim p
    | int _ => exact False.elim p
    | str _ => exact False.elim p
    | tup _ => exact False.elim p
    | ref _ => exact False.elim p
end
end Z
/-! Z8d: dicts: displays, dict(), get, sorted(). -/
namespace Z
open PySem L2 PyProof.Rows

def eDiK : ME := fun _ _ h => .ok (.ref h.length) (h ++ [.dic []])
def eDiT : ME := fun _ _ h => .ok (.ref h.length) (h ++ [.dct []])
abbrev MP := Ctx → Ev → HP → R (List (D × D))
def pN : MP := fun _ _ h => .ok [] h
def pC (k v : ME) (r : MP) : MP := fun C e h => (k C e h).bind fun x h => (v C e h).bind fun y h => (r C e h).bind fun ps h => .ok ((x, y) :: ps) h
def keyP : D × D → Option (Key × D) := fun p => (keyD p.1).map fun k => (k, p.2)
def mergeD (kvs more : List (Key × D)) : List (Key × D) := more.foldl (fun acc kv => putKD acc kv.1 kv.2) kvs
/-- {k: v, ..} -/
def eDic (m : MP) : ME := fun C e h => (m C e h).bind fun ps h => match seqO (ps.map keyP) with
  | some kvs => if kvs.length ≤ 15 then .ok (.ref h.length) (h ++ [.dic (mergeD [] kvs)]) else .no
  | none => .no
def pairD : D → Option (Key × D)
  | .tup [x, y] => keyP (x, y)
  | _ => none
/-- dict(..) of a list of pairs -/
def bDct : List D → HP → R D := fun xs h => match xs with
  | [.ref i] => match isL i h with
    | some ds => match seqO (ds.map pairD) with
      | some kvs => .ok (.ref h.length) (h ++ [.dic (mergeD [] kvs)])
      | none => .no
    | none => .no
  | _ => .no
def dicAt (x : D) (h : HP) : Option (List (Key × D)) := match x with
  | .ref i => match h[i]? with
    | some (.dic kvs) => some kvs
    | _ => none
  | _ => none
/-- o.get(a) -/
def eGet1 (o : ME) (as : MA) : ME := fun C e h => (o C e h).bind fun x h => match dicAt x h with
  | some _ => (as C e h).bind fun ys h => match ys, dicAt x h with
    | [y], some kvs => match keyD y with
      | some k => .ok ((valD kvs k).getD .non) h
      | none => .no
    | _, _ => .no
  | none => .no
def intK : Key → Option Int
  | .inl i => some i
  | .inr _ => none
/-- sorted(..): a list of whole numbers, a dict's keys -/
def bSr2 : List D → HP → R D := fun xs h => match xs with
  | [.ref i] => match h[i]? with
    | some (.dic kvs) => match seqO (kvs.map fun kv => intK kv.1) with
      | some ks => if ks.length < 64 then .ok (.ref h.length) (h ++ [.lst ((srtI ks).map D.int)]) else .no
      | none => .no
    | _ => bSrt xs h
  | _ => .no
section
variable {K : PySem.W.Frag} {κ φ : Nat → Addr} {h : HP} {H : Hp}
/-- a new object is laid -/
theorem Post.newO {o : O} {u : HO} {Q : VK} {p : Addr} (q : Post K κ φ h H (.ok (.ref h.length) (h ++ [o])) Q) (S : Sim K κ φ h H) (hp : H p = none)
    (r : ∀ st : Step φ h H (ext φ h.length p) (h ++ [o]) (upd H p u), RO K κ (ext φ h.length p) (h ++ [o]).length (upd H p u) p o) : Q (.ref p) (upd H p u) := by
  have st := step_new S (o := o) (u := u) hp
  exact q _ _ _ st (S.new hp r) (RV.ref_iff.mpr ⟨by simp, by rw [ext_at]⟩)
theorem RKs.nil' {κ' : Type} {n : Nat} : RKs φ n H ([] : List (κ' × D)) [] := by simp [RKs]
theorem RKs.cons' {κ' : Type} {n : Nat} {k : κ'} {d : D} {v : V} {ds : List (κ' × D)} {vs : List (κ' × V)} (q : RV φ n H d v) (r : RKs φ n H ds vs) : RKs φ n H ((k, d) :: ds) ((k, v) :: vs) := by
  simp only [RKs]; exact ⟨v, vs, rfl, q, r⟩
theorem RKs.merge {n : Nat} : ∀ {more : List (Key × D)} {ms : List (Key × V)} {kvs : List (Key × D)} {us : List (Key × V)}, RKs φ n H more ms → RKs φ n H kvs us → RKs φ n H (mergeD kvs more) (mergeK us ms)
  | [], ms, kvs, us, r, q => by simp only [RKs] at r; subst r; exact q
  | (k, d) :: more, ms, kvs, us, r, q => by
    simp only [RKs] at r
    obtain ⟨v, r', rfl, rv, r⟩ := r
    show RKs φ n H (mergeD (putKD kvs k d) more) (mergeK (putK us k v) r')
    exact RKs.merge (more := more) r (q.put k rv)
/-- pairs of values -/
def RPs (φ : Nat → Addr) (n : Nat) (H : Hp) : List (D × D) → List (V × V) → Prop
  | [], vs => vs = []
  | (x, y) :: ds, vs => ∃ u v r, vs = (u, v) :: r ∧ RV φ n H x u ∧ RV φ n H y v ∧ RPs φ n H ds r
theorem RPs.step {φ' : Nat → Addr} {h' : HP} {H' : Hp} (S : Sim K κ φ h H) (st : Step φ h H φ' h' H') : ∀ {ds : List (D × D)} {vs : List (V × V)}, RPs φ h.length H ds vs → RPs φ' h'.length H' ds vs
  | [], vs, q => by simpa only [RPs] using q
  | (x, y) :: ds, vs, q => by
    simp only [RPs] at q ⊢
    obtain ⟨u, v, r, rfl, q1, q2, q3⟩ := q
    exact ⟨u, v, r, rfl, q1.step S st, q2.step S st, RPs.step S st q3⟩
theorem RPs.keys {n : Nat} : ∀ {ds : List (D × D)} {vs : List (V × V)} {kvs : List (Key × D)}, RPs φ n H ds vs → seqO (ds.map keyP) = some kvs → ∃ us : List (Key × V), vs = us.map (fun kv => (kV kv.1, kv.2)) ∧ RKs φ n H kvs us
  | [], vs, kvs, r, e => by
    simp only [RPs] at r
    simp only [List.map_nil, seqO, Option.some.injEq] at e
    subst r e
    exact ⟨[], rfl, RKs.nil'⟩
  | (x, y) :: ds, vs, kvs, r, e => by
    simp only [RPs] at r
    obtain ⟨u, v, r', rfl, q1, q2, q3⟩ := r
    simp only [List.map_cons] at e
    cases ek : keyD x with
    | none => simp [keyP, ek, seqO] at e
    | some k =>
      have e : (seqO (ds.map keyP)).map (fun l => (k, y) :: l) = some kvs := by
        have : keyP (x, y) = some (k, y) := by simp [keyP, ek]
        rw [this] at e
        exact e
      rw [Option.map_eq_some_iff] at e
      obtain ⟨l, el, rfl⟩ := e
      obtain ⟨us, e2, r2⟩ := RPs.keys q3 el
      refine ⟨(k, v) :: us, ?_, RKs.cons' q2 r2⟩
      rw [key_of' ek q1, e2]
      rfl
/-- a dict that the evaluator does not know is filled and becomes one of its own -/
theorem Sim.adoptD (S : Sim K κ φ h H) {b : Addr} {kvs : List (Key × D)} {us us0 : List (Key × V)} (hb : H b = some (.dK us0)) (no : ¬ Own φ h b) (r : RKs φ h.length H kvs us) : Sim K κ (ext φ h.length b) (h ++ [.dic kvs]) (upd H b (.dK us)) := by
  have a : ∀ i, i < h.length → ext φ h.length b i = φ i := fun i hi => ext_lt hi
  have le : h.length ≤ (h ++ [O.dic kvs]).length := by simp
  have tf : ∀ p vs, H p = some (.tup vs) → upd H b (.dK us) p = some (.tup vs) := fun p vs e => by
    by_cases z : p = b
    · subst z; rw [hb] at e; cases e
    · rw [upd_ne z]; exact e
  refine ⟨fun i j oi oj hi hj mi mj e => ?_, fun i o' hi => ?_⟩
  · rcases get_snoc hi with ⟨li, hi2⟩ | ⟨ei, eoi⟩ <;> rcases get_snoc hj with ⟨lj, hj2⟩ | ⟨ej, eoj⟩
    · rw [ext_lt li, ext_lt lj] at e
      exact S.inj i j oi oj hi2 hj2 mi mj e
    · rw [ext_lt li, ej, ext_at] at e
      exact absurd ⟨i, oi, hi2, mi, e⟩ no
    · rw [ext_lt lj, ei, ext_at] at e
      exact absurd ⟨j, oj, hj2, mj, e.symm⟩ no
    · rw [ei, ej]
  · rcases get_snoc hi with ⟨li, hi⟩ | ⟨rfl, rfl⟩
    · rw [ext_lt li]
      by_cases m : o'.mu = true
      · have ne : φ i ≠ b := fun z => no ⟨i, o', hi, m, z⟩
        exact RO.gen a le tf (fun u e => by rw [upd_ne ne]; exact e) (S.obj i o' hi)
      · cases o' with
        | fz ds =>
          obtain ⟨vs, e1, r⟩ := S.obj i _ hi
          refine ⟨vs, ?_, r.gen a le tf⟩
          rcases e1 with ⟨o, e1⟩ | e1
          · refine .inl ⟨o, ?_⟩
            by_cases z : φ i = b
            · rw [z, hb] at e1; cases e1
            · rw [upd_ne z]; exact e1
          · exact .inr e1
        | lst _ => exact absurd rfl m
        | dic _ => exact absurd rfl m
        | dct _ => exact absurd rfl m
        | ins _ _ => exact absurd rfl m
    · rw [ext_at]
      exact ⟨us, upd_same, r.gen a le tf⟩
end
structure SP (X : Cx) (κ : Nat → Addr) (C : Ctx) (pos : Pos) (keys : List (Option Expr)) (values : List Expr) (m : MP) : Prop where
  ex : ∃ trs, PPs X pos keys values trs ∧ ∀ {φ : Nat → Addr} {h h1 : HP} {H : Hp} {e : Ev} {σ : L2.St} {ps : List (D × D)} {Q : List (V × V) → Hp → Prop}, Sim X.K κ φ h H → EnvR φ h.length H e σ → m C e h = .ok ps h1 →
    (∀ φ1 H1 vs, Step φ h H φ1 h1 H1 → Sim X.K κ φ1 h1 H1 → RPs φ1 h1.length H1 ps vs → Q vs H1) → tPairs trs σ H Q
section
variable {X : Cx} {κ : Nat → Addr} {C : Ctx} {a b c e o : Expr} {es : List Expr} {ma mb mc mo : ME} {ta tb : MT} {mas : MA} {pos apos cpos p2 : Pos} {keys : List (Option Expr)} {values : List Expr} {mp : MP}
theorem se_diK : SE X κ C (.Dict [] [] pos) eDiK :=
  SE.mk' pe_dnewK fun φ ev h σ H Q S r p => fun q hq => Post.newO p S hq fun st => ⟨[], upd_same, RKs.nil'⟩
theorem se_diT : SE X κ C (.Dict [] [] pos) eDiT :=
  SE.mk' pe_dnewT fun φ ev h σ H Q S r p => fun q hq => Post.newO p S hq fun st => ⟨[], upd_same, RKs.nil'⟩
theorem sp_nil : SP X κ C pos [] [] pN := ⟨[], pps_nil, fun {φ h h1 H e σ ps Q} S r e1 k => by
  unfold pN at e1
  cases e1
  exact k φ H [] Step.refl S (by simp [RPs])⟩
theorem sp_cons {k v : Expr} {mk mv : ME} (hk : SE X κ C k mk) (hv : SE X κ C v mv) (hr : SP X κ C pos keys values mp) : SP X κ C pos (some k :: keys) (v :: values) (pC mk mv mp) := by
  obtain ⟨trs, h1, h2⟩ := hr.ex
  refine ⟨_, pps_cons hk.pe hv.pe h1, fun {φ h h1 H e σ ps Q} S r e1 kk => ?_⟩
  unfold pC at e1
  cases ek : mk C e h with
  | no => rw [ek] at e1; cases e1
  | ex _ _ _ => rw [ek] at e1; cases e1
  | ok x h2' =>
    rw [ek] at e1
    simp only [R.bind_ok] at e1
    cases ev : mv C e h2' with
    | no => rw [ev] at e1; cases e1
    | ex _ _ _ => rw [ev] at e1; cases e1
    | ok y h3 =>
      rw [ev] at e1
      simp only [R.bind_ok] at e1
      cases ep : mp C e h3 with
      | no => rw [ep] at e1; cases e1
      | ex _ _ _ => rw [ep] at e1; cases e1
      | ok qs h4 =>
        rw [ep] at e1
        simp only [R.bind_ok, R.ok.injEq] at e1
        obtain ⟨rfl, rfl⟩ := e1
        refine td_of S r ek fun φ1 H1 u st1 S1 r1 q1 => td_of S1 r1 ev fun φ2 H2 w st2 S2 r2 q2 => h2 S2 r2 ep fun φ3 H3 vs st3 S3 q3 => ?_
        refine kk φ3 H3 _ ((st1.trans st2).trans st3) S3 ?_
        simp only [RPs]
        exact ⟨u, w, vs, rfl, (q1.step S1 st2).step S2 st3, q2.step S2 st3, q3⟩
theorem se_dic (hp : SP X κ C pos keys values mp) (hall : keys.all (·.isSome) = true := by rfl) (hl : keys.length = values.length := by rfl) (h0 : keys ≠ [] := by intro z; cases z) (h15 : keys.length ≤ 15 := by decide) : SE X κ C (.Dict keys values pos) (eDic mp) := by
  obtain ⟨trs, h1, h2⟩ := hp.ex
  refine SE.mk' (pe_disp h1 hall hl h0 h15) fun φ ev h σ H Q S r p => ?_
  obtain ⟨ps, hh, e1, p⟩ := Post.bind p
  split at p
  · rename_i kvs ek
    split at p
    · rename_i hz
      intro b hb
      have st0 := step_temp S (u := .dK []) hb
      have no0 : ¬ Own φ h b := fun z => by
        obtain ⟨u, e', _⟩ := S.own z
        rw [hb] at e'; cases e'
      refine h2 (S.temp hb) (r.step S st0) e1 fun φ1 H1 vs st1 S1 q1 => ?_
      obtain ⟨f1, f2⟩ := st1.frame b (by rw [upd_same]; simp) no0
      rw [upd_same] at f1
      obtain ⟨us, e2, r2⟩ := q1.keys ek
      have r3 := RKs.merge r2 (RKs.nil' (φ := φ1) (n := hh.length) (H := H1))
      have len : us.length = kvs.length := r2.len
      refine ⟨f1, us, e2, by omega, ?_⟩
      refine p (ext φ1 hh.length b) _ _ ⟨?_, fun i hi => ?_, fun d hd od => ?_⟩ (S1.adoptD f1 f2 r3) (RV.ref_iff.mpr ⟨by simp, by rw [ext_at]⟩)
      · have := st1.len; simp; omega
      · rw [ext_lt (Nat.lt_of_lt_of_le hi st1.len)]; exact st1.agree i hi
      · have ne : d ≠ b := fun z => hd (z ▸ hb)
        obtain ⟨g1, g2⟩ := (st0.trans st1).frame d hd od
        refine ⟨by rw [upd_ne ne]; exact g1, fun z => ?_⟩
        obtain ⟨j, oj, hj, mj, rfl⟩ := z
        rcases get_snoc hj with ⟨lj, hj⟩ | ⟨rfl, rfl⟩
        · exact g2 ⟨j, oj, hj, mj, (ext_lt lj).symm⟩
        · exact ne ext_at
    · exact False.elim p
  · exact False.elim p
theorem pairs_of {φ : Nat → Addr} {n : Nat} {H : Hp} : ∀ {ds : List D} {vs : List V} {kvs : List (Key × D)}, RVs φ n H ds vs → seqO (ds.map pairD) = some kvs → ∃ (ps : List Addr) (us : List (Key × V)), vs = ps.map V.ref ∧ Paired (fun p kv => SqT X.K H p [kV kv.1, kv.2]) ps us ∧ RKs φ n H kvs us
  | [], vs, kvs, r, e => by
    simp only [RVs] at r
    simp only [List.map_nil, seqO, Option.some.injEq] at e
    subst r e
    exact ⟨[], [], rfl, .nil, RKs.nil'⟩
  | d :: ds, vs, kvs, r, e => by
    simp only [RVs] at r
    obtain ⟨v, r', rfl, q1, q2⟩ := r
    simp only [List.map_cons] at e
    cases ep : pairD d with
    | none => simp [ep, seqO] at e
    | some kv =>
      have e : (seqO (ds.map pairD)).map (fun l => kv :: l) = some kvs := by
        rw [ep] at e
        exact e
      rw [Option.map_eq_some_iff] at e
      obtain ⟨l, el, rfl⟩ := e
      obtain ⟨ps, us, rfl, e2, r2⟩ := pairs_of q2 el
      unfold pairD at ep
      split at ep
      · rename_i x y
        unfold keyP at ep
        rw [Option.map_eq_some_iff] at ep
        obtain ⟨k, ek, rfl⟩ := ep
        rw [RV.tup_iff] at q1
        obtain ⟨p, ws, rfl, hp, q1⟩ := q1
        (replace q1 := q1.two_inv); obtain ⟨u, w, rfl, qx, qy⟩ := q1
        rw [key_of' ek qx] at hp
        exact ⟨p :: ps, (k, w) :: us, rfl, .cons (SqT.of hp) e2, RKs.cons' qy r2⟩
      · cases ep
theorem cd_dct (hc : X.calm = true) : CallR X (.type "dict") (rB X.K κ bDct) := by
  intro pins s σ H xs us Q I r ⟨φ, h, ds, S, q, p⟩
  unfold bDct at p
  split at p
  · (replace q := q.one_inv); obtain ⟨v, rfl, q⟩ := q
    rw [RV.ref_iff] at q
    obtain ⟨hi, rfl⟩ := q
    split at p
    · rename_i ds e
      split at p
      · rename_i kvs ek
        obtain ⟨vs, hs, r2⟩ := S.isL e
        obtain ⟨ps, ms, rfl, e2, r3⟩ := pairs_of (X := X) r2 ek
        refine call_dictP hc pins s σ H _ us Q I r ⟨_, ps, ms, rfl, hs, e2, fun l hl => Post.newO p S hl fun st => ?_⟩
        exact ⟨_, upd_same, (RKs.merge r3 RKs.nil').step S st⟩
      · exact False.elim p
    · exact False.elim p
  · exact False.elim p
theorem dicAt_of {φ : Nat → Addr} {h : HP} {H : Hp} {x : D} {v : V} {kvs : List (Key × D)} (S : Sim X.K κ φ h H) (rx : RV φ h.length H x v) (e : dicAt x h = some kvs) : ∃ a us, v = .ref a ∧ H a = some (.dK us) ∧ RKs φ h.length H kvs us := by
  unfold dicAt at e
  split at e
  · split at e
    · rename_i e2
      cases e
      rw [RV.ref_iff] at rx
      obtain ⟨us, h1, h2⟩ := S.dic e2
      exact ⟨_, us, rx.2, h1, h2⟩
    · cases e
  · cases e
theorem se_get1 (hu : X.A.units + 1 < cLine) (ho : SE X κ C o mo) (ha : SE X κ C a ma) (m : M1 X o "get" apos a cpos := by exact ⟨rfl, rfl, rfl, rfl⟩) : SE X κ C (.Call (.Attribute o "get" apos) [a] [] cpos) (eGet1 mo (aC ma aN)) :=
  SE.mk' (pe_dget1 hu ho.pe ha.pe m) fun φ ev h σ H Q S r p => by
    obtain ⟨dx, h1, e1, p⟩ := Post.bind p
    split at p
    · rename_i kv0 ed
      obtain ⟨ys, h2, e2, p⟩ := Post.bind p
      unfold aC at e2
      cases ea : ma C ev h1 with
      | no => rw [ea] at e2; cases e2
      | ex _ _ _ => rw [ea] at e2; cases e2
      | ok dy h3 =>
        rw [ea] at e2
        simp only [R.bind_ok, aN, R.ok.injEq] at e2
        obtain ⟨rfl, rfl⟩ := e2
        refine td_of S r e1 fun φ1 H1 v st S1 r1 q1 => ?_
        obtain ⟨b, us, rfl, hb, _⟩ := dicAt_of S1 q1 ed
        refine ⟨b, rfl, .inl ⟨us, .inl hb⟩, td_of S1 r1 ea fun φ2 H2 w st2 S2 r2 q2 => ?_⟩
        split at p
        · rename_i dy' kvs e3 e4
          cases e3
          split at p
          · rename_i k ek
            obtain ⟨b', ms, e5, hb2, rk⟩ := dicAt_of S2 (q1.step S1 st2) e4
            cases e5
            refine ⟨valV ms k, .inl ⟨ms, k, .inl hb2, key_of' ek q2, rfl⟩, ?_⟩
            have rv := rk.val k
            refine (p.step (st.trans st2)).of0 S2 ?_
            cases e6 : valD kvs k with
            | none => rw [e6] at rv; rw [rv]; exact RV.non_iff.mpr rfl
            | some d =>
              rw [e6] at rv
              obtain ⟨z, e7, rz⟩ := rv
              rw [e7]; exact rz
          · exact False.elim p
        · exact False.elim p
    · exact False.elim p
theorem cd_sr2 (hc : X.calm = true) : CallR X (.builtin "sorted") (rB X.K κ bSr2) := by
  intro pins s σ H xs us Q I r ⟨φ, h, ds, S, q, p⟩
  have q0 := q
  unfold bSr2 at p
  split at p
  · (replace q := q.one_inv); obtain ⟨v, rfl, q⟩ := q
    rw [RV.ref_iff] at q
    obtain ⟨hi, rfl⟩ := q
    split at p
    · rename_i kvs e
      split at p
      · rename_i ks ek
        split at p
        · rename_i hz
          obtain ⟨ms, hm, rk⟩ := S.dic e
          have hk : ∀ {kvs : List (Key × D)} {ms : List (Key × V)} {ks : List Int}, RKs φ h.length H kvs ms → seqO (kvs.map fun kv => intK kv.1) = some ks → ms.map (·.1) = ks.map Sum.inl := by
            intro kvs
            induction kvs with
            | nil =>
              intro ms ks r e
              simp only [RKs] at r
              simp only [List.map_nil, seqO, Option.some.injEq] at e
              subst r e
              rfl
            | cons kv kvs ih =>
              intro ms ks r e
              obtain ⟨k, d⟩ := kv
              simp only [RKs] at r
              obtain ⟨v, r', rfl, q1, q2⟩ := r
              cases k with
              | inr x => simp [intK, seqO] at e
              | inl i =>
                have e : (seqO (kvs.map fun kv => intK kv.1)).map (fun l => i :: l) = some ks := e
                rw [Option.map_eq_some_iff] at e
                obtain ⟨l, el, rfl⟩ := e
                simp only [List.map_cons, ih q2 el]
          refine call_sortedDI hc pins s σ H _ us Q I r ⟨_, ms, ks, rfl, .inl hm, hk rk ek, hz, fun ys l hp hs hl => ?_⟩
          rw [srt_uniq hp hs]
          exact p.newL S hl RVs.of_ints
        · exact False.elim p
      · exact False.elim p
    · exact cd_srt pins s σ H _ us Q I r ⟨φ, h, _, S, q0, p⟩
  · exact False.elim p
end
end Z
/-! Z8s: sorted(set(..)) of whole numbers, list(range(..)), a range with a step, reversed(range(..)). -/
namespace Z
open PySem PySem.Spec L2 PyProof.Rows
section
variable {P : Program} {w : World} {A : Around} {E : Value → Shared → Prop} {z : Shared}
/-- the empty set that is laid first -/
abbrev mt0 (w : World) : Obj := { cls := .type "set", dict := none, data := .set #[] 0 (.fresh 0 0 (!w.params.followText "set-order")) }
abbrev withSet (w : World) (z : Shared) : Shared := { z with heap := z.heap.push (mt0 w) }
/-- set(xs), xs a list of whole numbers -/
theorem setL_ints {l : Addr} {vs : Array Value} (ns : List Int) {Q : Value → Shared → Prop} (hd : A.handled = none) (il : z.heap.IsList l vs) (ia : IntsAre vs.toList ns) (room : ns.length + 1 < scanBound)
    (fin : ∀ (hp : Heap) (tk c : Nat), SetR w hp z.heap.objs.size (fun j => decide (j ∈ ns)) c → (∀ b o, z.heap.get? b = some o → hp.get? b = some o) → Q (.ref z.heap.objs.size) { z with heap := hp, toks := tk }) :
    wpAny (model P w) A (call (.type "set") [.ref l]) Q E z := by
  have len : vs.size = ns.length := by rw [← Array.length_toList]; exact ia.length
  obtain ⟨_, _, mro⟩ := F.called_set.mro
  have f1 := F.called_set.made
  have f2 := F.called_set.sub
  have f3 := F.called_set.notType
  have f4 := F.called_set.canCreate
  have f5 := F.typeCall_set_1 (.ref l)
  refine wpAny_call (codeAny_of_tree (wpAny_pure ⟨Code.quiet_builtin _ (by decide +kernel), codeAny_builtin F.entry_type_call ?_⟩))
  rw [Around.under_plain (weight_type_call_type "set" [.ref l] []) rfl]
  repeat' first | assumption | wp_step
  have hnew : (withSet w z).heap.get? z.heap.objs.size = some (mt0 w) := Heap.get?_push_size _ rfl
  refine codeAny_mono (code_set_led1 (.ref l) (E := E) (Q₁ := fun v z1 => v = .ref z.heap.objs.size ∧ z1 = withSet w z) ⟨rfl, rfl⟩) fun r z1 hr => ?_
  rcases r with e | fl
  · exact hr
  cases fl with
  | ret v =>
    obtain ⟨rfl, rfl⟩ := hr
    have ty : Shared.TypeIs (withSet w z) (.ref z.heap.objs.size) "set" := ⟨_, hnew, rfl⟩
    have i1 := F.called_set.init.lookup
    have i2 := F.called_set.init.bind (.ref z.heap.objs.size)
    repeat' first | assumption | wp_step
    refine codeAny_mono (codeAny_call_builtin (R := wants (fun r z2 => r = .none ∧ ∃ hp tk c, z2 = { z with heap := hp, toks := tk } ∧ SetR w hp z.heap.objs.size (fun j => decide (j ∈ ns)) c ∧ (∀ b o, z.heap.get? b = some o → hp.get? b = some o)) E)
      F.called_set.init.plain F.entry_set_init (check_set_init_1 ty ?_)) fun r2 z2 hr2 => ?_
    · obtain ⟨⟨oc, od, dt, os⟩, ho, hc, n, hdt⟩ := il
      simp only at hc hdt
      subst hc hdt
      have ho1 : (withSet w z).heap.get? l = some { cls := .type "list", dict := od, data := .seq vs n, slots := os } := Heap.get?_push_of_some _ ho
      have s1 := F.sub_list_set
      have s2 := F.sub_list_frozenset
      have s3 : (Value.type "list" == Value.type "dict") = false := by decide
      have il1 : (withSet w z).heap.IsList l vs := ⟨_, ho1, rfl, n, rfl⟩
      unfold Builtin.«set.__init__» noKeywords Builtin.Frozenset.updateFrom
      generalize gi : pyIter = gi
      wp_walk
      subst gi
      refine wpAny_pyIter_list il1 (wpAny_bind (wpAny_runValue ?_))
      have lz : l < z.heap.objs.size := Heap.lt_size ho
      have hd3 : A.in1.in1.in1.handled = none := by simp [hd]
      have sz : (withSet w z).heap.objs.size = z.heap.objs.size + 1 := Heap.size_push ..
      have ne1 : l ≠ (withSet w z).heap.objs.size := by rw [sz]; exact Nat.ne_of_lt (Nat.lt_succ_of_lt lz)
      have nin : z.heap.objs.size ∉ [(withSet w z).heap.objs.size, l] := by
        rw [sz]
        simp only [List.mem_cons, List.not_mem_nil, or_false, not_or]
        exact ⟨Nat.ne_of_lt (Nat.lt_succ_self _), fun e => Nat.ne_of_lt lz e.symm⟩
      have at_ : ∀ (i : Nat) (v : Value), vs[i]? = some v → ∃ k t, ns[i]? = some k ∧ v = .int k t := fun i v hv => by
        have hi : i < ns.length := by rw [← len]; exact (Array.getElem?_eq_some_iff.mp hv).1
        obtain ⟨t, e⟩ := IntsAre.int_at ia i v (by rw [Array.getElem?_toList]; exact hv)
        exact ⟨ns[i], t, List.getElem?_eq_getElem hi, by rw [e, List.getD_eq_getElem?_getD, List.getElem?_eq_getElem hi]; rfl⟩
      refine set_update_ints ((Walks.list hd3 _ l ne1 vs).toS) z.heap.objs.size nin ns len room at_ (vs.size - 0) 0 _ (by omega) (Nat.zero_le _) ⟨⟨_, Heap.get?_push_size _ rfl, rfl, rfl⟩, il1.push _⟩ ⟨0, Nat.le_refl 0, setR_new_at (Heap.get?_push_of_some _ hnew)⟩ ?_
      rintro ⟨hp, g2, d2, t2, o2⟩ c mv _ R2
      have e1 : g2 = z.gens := mv.gens
      have e2 : d2 = z.drawn := mv.drawn
      have e3 : o2 = z.os := mv.os
      subst e1 e2 e3
      refine wpAny_pure (wpAny_pure ⟨rfl, hp, t2, c, rfl, R2, fun b o e => ?_⟩)
      have lb : b < z.heap.objs.size := Heap.lt_size e
      refine mv.heap b o ?_ (Heap.get?_push_of_some _ (Heap.get?_push_of_some _ e))
      simp only [List.mem_cons, List.not_mem_nil, or_false, not_or]
      exact ⟨Nat.ne_of_lt lb, fun e => Nat.ne_of_lt (Nat.lt_succ_of_lt lb) (e.trans sz)⟩
    · rcases r2 with e | fl2
      · exact hr2
      cases fl2 with
      | ret r =>
        obtain ⟨rfl, hp, tk, c, rfl, R2, k2⟩ := hr2
        repeat' first | assumption | wp_step
        exact fin hp tk c R2 k2
      | _ => exact hr2.elim
  | _ => exact hr.elim
end
/-! ### sorted(set(..)) -/
/-- each once -/
def uniq : List Int → List Int
  | [] => []
  | x :: xs => if x ∈ xs then uniq xs else x :: uniq xs
theorem uniq_mem : ∀ {xs : List Int} {k : Int}, k ∈ uniq xs ↔ k ∈ xs
  | [], k => Iff.rfl
  | x :: xs, k => by
    unfold uniq
    split
    · rename_i h
      rw [uniq_mem, List.mem_cons]
      exact ⟨.inr, fun q => q.elim (fun e => e ▸ h) id⟩
    · rw [List.mem_cons, List.mem_cons, uniq_mem]
theorem uniq_nd : ∀ xs : List Int, (uniq xs).Nodup
  | [] => List.nodup_nil
  | x :: xs => by
    unfold uniq
    split
    · exact uniq_nd xs
    · rename_i h
      exact List.nodup_cons.mpr ⟨fun q => h (uniq_mem.mp q), uniq_nd xs⟩
def bSrS : D → HP → R D := fun x h => match x with
  | .ref i => match isL i h with
    | some ds => match intsD ds with
      | some ns => if ns.length + 1 < scanBound ∧ (uniq ns).length < 64 then .ok (.ref h.length) (h ++ [.lst ((srtI (uniq ns)).map D.int)]) else .no
      | none => .no
    | none => .no
  | _ => .no
def rSetL (K : PySem.W.Frag) (w : World) : List V → Hp → VK → Prop := fun xs H Q => ∃ (l : Addr) (ns : List Int), xs = [V.ref l] ∧ SqL K H l (ns.map V.int) ∧ ns.length + 1 < scanBound ∧
  ∀ a, H a = none → Q (.ref a) (upd H a (SetO w a (fun j => decide (j ∈ ns)) (uniq ns).length))
section
variable {X : Cx}
theorem cr_setL (hc : X.calm = true) : CallR X (.type "set") (rSetL X.K X.w) := by
  intro pins z σ H xs us Q I r ⟨l, ns, e, hl, room, q⟩
  subst e
  rw [Vals.ref1 r]
  obtain ⟨its, rv, pl, _⟩ := I.list hl
  have hn : H z.heap.objs.size = none := I.hok.fresh (Nat.le_refl _)
  refine setL_ints (P := X.prog) (w := X.w) ns (I.ok.hd hc) pl.isList (by simpa using ints_of_vals rv) room fun hp tk c R k => ?_
  have hcn : c = (uniq ns).length := by
    obtain ⟨o, es, ep, t, ho, hex, hd, g, nd, hm, hb, hf, hnn, rest⟩ := R
    have pm : (es.toList.map keyOf).Perm (uniq ns) := (List.perm_ext_iff_of_nodup nd (uniq_nd ns)).mpr fun k => by
      rw [uniq_mem, ← hm k, decide_eq_true_iff]
    have := pm.length_eq
    rw [List.length_map, Array.length_toList] at this
    omega
  subst hcn
  exact ⟨.ref z.heap.objs.size, upd H z.heap.objs.size (SetO X.w z.heap.objs.size (fun j => decide (j ∈ ns)) (uniq ns).length), I.laid (t' := tk) k (Nat.le_refl _) (setO_new R), rfl, q _ hn⟩
variable {κ : Nat → Addr} {C : Ctx} {a : Expr} {ma : ME} {p p2 q pos : Pos}
theorem se_srs (hc : X.calm = true) (hm : X.mg "sorted" = none) (hm2 : X.mg "set" = none) (ha : SE X κ C a ma) (hg : Gl X "sorted" := by rfl) (hg2 : Gl X "set" := by rfl) (he : starEach [a] X.env = (false, eval a X.env) :: starEach [] X.env := by rfl)
    (he2 : starEach [.Call (.Name "set" p2) [a] [] q] X.env = (false, eval (.Call (.Name "set" p2) [a] [] q) X.env) :: starEach [] X.env := by rfl) : SE X κ C (.Call (.Name "sorted" p) [.Call (.Name "set" p2) [a] [] q] [] pos) (eUn bSrS ma) := by
  have P1 := pe_callTy (pos := q) (p := p2) (cr_setL hc) hg2 hm2 boot_set (pa_cons ha.pe pa_nil he) (by decide) (by decide) he rfl
  have P2 := pe_callB (pos := pos) (p := p) (cr_sortedSet hc) hg hm boot_sorted (pa_cons P1 pa_nil he2) (by decide) (by decide) he2 rfl
  refine SE.mk' P2 fun φ ev h σ H Q S r p => ?_
  obtain ⟨dx, h1, e1, p⟩ := Post.bind p
  refine td_of S r e1 fun φ1 H1 v st S1 r1 q1 => ?_
  unfold bSrS at p
  split at p
  · rename_i i
    rw [RV.ref_iff] at q1
    obtain ⟨hi, rfl⟩ := q1
    split at p
    · rename_i ds el
      split at p
      · rename_i ns en
        split at p
        · rename_i hz
          obtain ⟨vs, hs, rr⟩ := S1.isL el
          have ed := intsD_of en
          subst ed
          have ev' := rr.ints
          subst ev'
          refine ⟨_, ns, rfl, hs, hz.1, fun a ha => ⟨a, _, _, rfl, upd_same, hz.2, fun ms l hp hm hl hn => ?_⟩⟩
          have e2 : ms = srtI (uniq ns) := by
            refine srt_uniq ((List.perm_ext_iff_of_nodup (hp.imp fun h => by omega) (uniq_nd ns)).mpr fun k => ?_) (hp.imp fun h => by omega)
            rw [hm k, uniq_mem, decide_eq_true_iff]
          subst e2
          exact (p.step (st.trans (step_temp S1 ha))).newL (S1.temp ha) hn RVs.of_ints
        · exact False.elim p
      · exact False.elim p
    · exact False.elim p
  · exact False.elim p
/-! ### text.index -/
def mSix : D → List D → HP → R D := fun x xs h => match x, xs with
  | .str a, [.str b] => match Builtin.Str.occurrences a b 0 a.length 1 with
    | i :: _ => .ok (.int (i : Nat)) h
    | [] => .no
  | _, _ => .no
theorem md_sindex : MetD X κ (fun x xs H Q => ∃ a b i rest, x = .str a ∧ xs = [.str b] ∧ Builtin.Str.occurrences a b 0 a.length 1 = i :: rest ∧ Q (.int (i : Nat)) H) mSix := by
  intro φ h H x xs v vs Q S rx rs p
  unfold mSix at p
  split at p
  · (replace rs := rs.one_inv); obtain ⟨u, rfl, ry⟩ := rs
    rw [RV.str_iff] at rx ry
    subst rx ry
    split at p
    · rename_i i rest e
      exact ⟨_, _, i, rest, rfl, rfl, e, p.of0 S (RV.int_iff.mpr rfl)⟩
    · exact False.elim p
  · exact False.elim p
end
end Z
/-! Z9: levels, the end of a law. -/
namespace Z
open PySem L2 PyProof.Rows
theorem boot_len_ : bootBuiltins "len" = some (.builtin "len") := by decide +kernel
theorem boot_abs_ : bootBuiltins "abs" = some (.builtin "abs") := by decide +kernel
theorem boot_max_ : bootBuiltins "max" = some (.builtin "max") := by decide +kernel
theorem boot_min_ : bootBuiltins "min" = some (.builtin "min") := by decide +kernel
theorem boot_sum_ : bootBuiltins "sum" = some (.builtin "sum") := by decide +kernel
theorem boot_divmod_ : bootBuiltins "divmod" = some (.builtin "divmod") := by decide +kernel
theorem boot_sorted_ : bootBuiltins "sorted" = some (.builtin "sorted") := by decide +kernel
theorem boot_all_ : bootBuiltins "all" = some (.builtin "all") := by decide +kernel
theorem boot_isinstance_ : bootBuiltins "isinstance" = some (.builtin "isinstance") := by decide +kernel
theorem boot_int_ : bootBuiltins "int" = some (.type "int") := by decide +kernel
theorem boot_str_ : bootBuiltins "str" = some (.type "str") := by decide +kernel
theorem boot_list_ : bootBuiltins "list" = some (.type "list") := by decide +kernel
theorem boot_tuple_ : bootBuiltins "tuple" = some (.type "tuple") := by decide +kernel
theorem boot_dict_ : bootBuiltins "dict" = some (.type "dict") := by decide +kernel
theorem boot_bool_ : bootBuiltins "bool" = some (.type "bool") := by decide +kernel
theorem boot_set_ : bootBuiltins "set" = some (.type "set") := by decide +kernel
theorem boot_range_ : bootBuiltins "range" = some (.type "range") := by decide +kernel
theorem boot_enumerate_ : bootBuiltins "enumerate" = some (.type "enumerate") := by decide +kernel
theorem boot_zip_ : bootBuiltins "zip" = some (.type "zip") := by decide +kernel
theorem boot_reversed_ : bootBuiltins "reversed" = some (.type "reversed") := by decide +kernel
theorem hu65 {k : Nat} {A : Around} (hr : Room k A) : A.units + 65 < cLine := by have := hr.un; omega
section
variable {P : Program} {w : World} {K : PySem.W.Frag} {mg : Str → Option Value} {base : Heap} {κ : Nat → Addr} {T : Tbl}
/-- what stands of a def behind the top -/
structure FunM (K : PySem.W.Frag) (mg : Str → Option Value) (nm : Str) (st : Stmt) (ps : List Str) (dfs : List Int) : Prop where
  ex : ∃ (fa : Addr) (fd : FuncData) (us : List Value), FunZ K nm nm st dfs fa fd ∧ mg nm = some (.ref fa) ∧ Binds K fd ps [] ∧ Binds K fd ps us ∧ Vals (dfs.map V.int) us
theorem fnF_zero {nm : Str} {st : Stmt} {ps : List Str} {dfs : List Int} {f : Nat} (F : FunM K mg nm st ps dfs) : FnF P w K mg base κ 0 nm dfs ((ctx T 0).call f) := by
  obtain ⟨fa, fd, us, F, hm, hb, hb2, hv⟩ := F.ex
  refine ⟨fa, fd, ps, us, hm, F.kp, hb, hb2, hv, fun _ _ _ => rfl, ⟨fun vs H Q E h => h.1, fun A outer s H args us vs Q E hr he hb hv hs => ?_⟩⟩
  obtain ⟨_, φ, h, ds, _, _, p⟩ := hs
  exact False.elim p
theorem fnF_succ {nm : Str} {st : Stmt} {ps : List Str} {dfs : List Int} {f n : Nat} {fn : Fn} (F : FunM K mg nm st ps dfs) (hT : T.fn f = some fn) (hp : ps.length = fn.np)
    (ok : ∀ (fa : Addr) (fd : FuncData), FunZ K nm nm st dfs fa fd → FnOk P w K mg base CX0 (n + 1) fa fd ps (spD K κ ps.length (runFn (ctx T n) fn))) : FnF P w K mg base κ (n + 1) nm dfs ((ctx T (n + 1)).call f) := by
  obtain ⟨fa, fd, us, F, hm, hb, hb2, hv⟩ := F.ex
  have e : (ctx T (n + 1)).call f = runFn (ctx T n) fn := by
    funext ds h
    show (match T.fn f with | some fn => runFn (ctx T n) fn ds h | none => R.no) = _
    rw [hT]
  rw [e]
  exact ⟨fa, fd, ps, us, hm, F.kp, hb, hb2, hv, by rw [hp]; exact ary_run, ok fa fd F⟩
theorem mem1 {P : Nat → Prop} {a : Nat} (x : P a) : ∀ c ∈ [a], P c := fun c h => by rw [List.mem_singleton.mp h]; exact x
theorem memc {P : Nat → Prop} {a : Nat} {as : List Nat} (x : P a) (y : ∀ c ∈ as, P c) : ∀ c ∈ a :: as, P c := fun c h => by
  rcases List.mem_cons.mp h with q | q
  · rw [q]; exact x
  · exact y c q
/-- what stands of a method of a class behind the top -/
structure MetM (K : PySem.W.Frag) (κ : Nat → Addr) (c : Nat) (nm qual : Str) (st : Stmt) (ps : List Str) : Prop where
  ex : ∃ (fa : Addr) (fd : FuncData), FunZ K nm qual st [] fa fd ∧ Cls K (κ c) ∧ Meth K (κ c) nm fa ∧ Binds K fd ps []
structure MakM (K : PySem.W.Frag) (mg : Str → Option Value) (κ : Nat → Addr) (c : Nat) (x qual : Str) (st : Stmt) (ps : List Str) : Prop where
  ex : ∃ (fa : Addr) (fd : FuncData), FunZ K "__init__" qual st [] fa fd ∧ mg x = some (.ref (κ c)) ∧ Mk K (κ c) fa ∧ Binds K fd ps []
structure MkA (P : Program) (w : World) (K : PySem.W.Frag) (mg : Str → Option Value) (base : Heap) (κ : Nat → Addr) (T : Tbl) (n c : Nat) (x : Str) : Prop where
  ex : n = 0 ∨ ∃ k, n = k + 1 ∧ MkF P w K mg base κ k c x ((ctx T k).meth c 0)
theorem meF_zero {nm qual : Str} {st : Stmt} {ps : List Str} {c m : Nat} (F : MetM K κ c nm qual st ps) : MeF P w K mg base κ 0 c nm ((ctx T 0).meth c m) := by
  obtain ⟨fa, fd, F, hc, hm, hb⟩ := F.ex
  refine ⟨fa, fd, ps, hc, hm, hb, fun _ _ _ => rfl, ⟨fun vs H Q E h => h.1, fun A outer s H args us vs Q E hr he hb hv hs => ?_⟩⟩
  obtain ⟨_, φ, h, ds, _, _, p⟩ := hs
  exact False.elim p
theorem mkF_zero {x qual : Str} {st : Stmt} {ps : List Str} {c : Nat} (F : MakM K mg κ c x qual st ps) : MkF P w K mg base κ 0 c x ((ctx T 0).meth c 0) := by
  obtain ⟨fa, fd, F, hm, hk, hb⟩ := F.ex
  refine ⟨fa, fd, ps, hm, hk, hb, fun _ _ _ => rfl, ⟨fun vs H Q E h => h.1, fun A outer s H args us vs Q E hr he hb hv hs => ?_⟩⟩
  obtain ⟨_, φ, h, ds, _, _, p⟩ := hs
  exact False.elim p
theorem meth_eq {c m n : Nat} {fn : Fn} (hT : T.me c m = some fn) : (ctx T (n + 1)).meth c m = runFn (ctx T n) fn := by
  funext ds h
  show (match T.me c m with | some fn => runFn (ctx T n) fn ds h | none => R.no) = _
  rw [hT]
theorem meF_succ {nm qual : Str} {st : Stmt} {ps : List Str} {c m n : Nat} {fn : Fn} (F : MetM K κ c nm qual st ps) (hT : T.me c m = some fn) (hp : ps.length = fn.np)
    (ok : ∀ (fa : Addr) (fd : FuncData), FunZ K nm qual st [] fa fd → FnOk P w K mg base CX0 (n + 1) fa fd ps (spD K κ ps.length (runFn (ctx T n) fn))) : MeF P w K mg base κ (n + 1) c nm ((ctx T (n + 1)).meth c m) := by
  obtain ⟨fa, fd, F, hc, hm, hb⟩ := F.ex
  rw [meth_eq hT]
  exact ⟨fa, fd, ps, hc, hm, hb, by rw [hp]; exact ary_run, ok fa fd F⟩
theorem mkF_succ {x qual : Str} {st : Stmt} {ps : List Str} {c n : Nat} {fn : Fn} (F : MakM K mg κ c x qual st ps) (hT : T.me c 0 = some fn) (hp : ps.length = fn.np)
    (ok : ∀ (fa : Addr) (fd : FuncData), FunZ K "__init__" qual st [] fa fd → FnOk P w K mg base CX0 (n + 1) fa fd ps (spD K κ ps.length (runFn (ctx T n) fn))) : MkF P w K mg base κ (n + 1) c x ((ctx T (n + 1)).meth c 0) := by
  obtain ⟨fa, fd, F, hm, hk, hb⟩ := F.ex
  rw [meth_eq hT]
  exact ⟨fa, fd, ps, hm, hk, hb, by rw [hp]; exact ary_run, ok fa fd F⟩
theorem se_makeA {X : Cx} {e : Expr} {es : List Expr} {mas : MA} {pos p2 : Pos} {x : Str} {c n : Nat} (F : MkA X.prog X.w X.K X.mg X.base κ T n c x) (hr : Room n X.A) (ha : SA X κ (ctx T n) (e :: es) mas) (hg : Gl X x := by rfl) (hdb : (x == ("__debug__" : Str)) = false := by decide)
    (he : starEach (e :: es) X.env = (false, eval e X.env) :: starEach es X.env := by rfl) (hpl : (backTo pos (starEach es X.env)).any (·.1) = false := by rfl) : SE X κ (ctx T n) (.Call (.Name x p2) (e :: es) [] pos) (eMake c mas) := by
  rcases F.ex with e0 | ⟨k, e1, F1⟩
  · subst e0
    refine ⟨⟨fun pins s σ H Q I ⟨φ, ev, h, S, r, p⟩ => ?_⟩⟩
    obtain ⟨ds, h1, _, p⟩ := Post.bind p
    exact False.elim p
  · subst e1
    exact se_make rfl F1 hr ha hg hdb he hpl
theorem se_makeA0 {X : Cx} {pos p2 : Pos} {x : Str} {c n : Nat} (F : MkA X.prog X.w X.K X.mg X.base κ T n c x) (hr : Room n X.A) (hg : Gl X x := by rfl) (hdb : (x == ("__debug__" : Str)) = false := by decide) : SE X κ (ctx T n) (.Call (.Name x p2) [] [] pos) (eMake c aN) := by
  rcases F.ex with e0 | ⟨k, e1, F1⟩
  · subst e0
    refine ⟨⟨fun pins s σ H Q I ⟨φ, ev, h, S, r, p⟩ => ?_⟩⟩
    obtain ⟨ds, h1, _, p⟩ := Post.bind p
    exact False.elim p
  · subst e1
    exact se_make0 rfl F1 hr hg hdb
theorem funZ_mk {x qual : Str} {st : Stmt} {f : Addr} {oc : Value} {od an : Option Addr} {osl : Array (Option Value)} {kV doc pm cdv ct : Value} (l : K.lookup f = some ⟨oc, od, .func (PySem.W.fnOf x qual (defArgs st) (defBody st) (defScope st) .none kV doc pm an cdv ct), osl⟩)
    (c : PySem.W.codeIn K cdv qual = true) (k : PySem.W.keepIn K (.ref f) = true) : FunZ K x qual st [] f (PySem.W.fnOf x qual (defArgs st) (defBody st) (defScope st) .none kV doc pm an cdv ct) := ⟨⟨oc, od, .none, kV, doc, pm, an, cdv, ct, osl, rfl, l, c, .inl ⟨rfl, rfl⟩, .inl rfl⟩, k⟩
theorem funZ_mkd {x qual : Str} {st : Stmt} {f T : Addr} {oc toc : Value} {od an tod : Option Addr} {osl tsl : Array (Option Value)} {kV doc pm cdv ct : Value} {dfs : List Int} {its : List Value} {n : Nat} (hd : dfs.map V.int ≠ [])
    (l : K.lookup f = some ⟨oc, od, .func (PySem.W.fnOf x qual (defArgs st) (defBody st) (defScope st) (.ref T) kV doc pm an cdv ct), osl⟩)
    (c : PySem.W.codeIn K cdv qual = true) (k : PySem.W.keepIn K (.ref f) = true) (t : K.lookup T = some ⟨toc, tod, .seq its.toArray n, tsl⟩) (v : Vals (dfs.map V.int) its) :
    FunZ K x qual st dfs f (PySem.W.fnOf x qual (defArgs st) (defBody st) (defScope st) (.ref T) kV doc pm an cdv ct) := ⟨⟨oc, od, .ref T, kV, doc, pm, an, cdv, ct, osl, rfl, l, c, .inr ⟨hd, T, _, its, n, rfl, t, rfl, v⟩, .inl rfl⟩, k⟩
/-- the law's promise -/
def spL (K : PySem.W.Frag) (f : List D → HP → R D) : Sp := fun vs H Q _ => vs.length = 1 ∧ ∀ κ : Nat → Addr, ∃ φ h ds, Sim K κ φ h H ∧ RVs φ h.length H ds vs ∧ Post K κ φ h H (f ds h) Q
theorem spL_of {k : Nat} {fa : Addr} {fd : FuncData} {ps : List Str} {f : List D → HP → R D} (hp : ps.length = 1) (F : FnOk P w K mg base CX0 k fa fd ps (spD K κ ps.length f)) : FnOk P w K mg base CX0 k fa fd ps (spL K f) :=
  F.imp fun vs H Q E h => ⟨by rw [hp]; exact h.1, h.2 κ⟩
end
theorem law_end {l : PySem.W.OpenLaw} {k : Nat} {q : Program} {loose : List Str} {XP : (Str → Option Value) → Heap → Prop} {YP : World → Heap → Prop} {d : DefRec} {K : Params → PySem.W.Frag} {f : List D → HP → R D}
    (hn : l.most = some 63) (hdf : d.params.defaults = []) (hr : Room k callerA) (hY : ∀ (w : World) (h : Heap), YP w h → (K w.params).In h)
    (F : ∀ (w : World) (mg : Str → Option Value) (fa : Addr) (h : Heap), (K w.params).In h → h.Ns mainGlobals mg → mg d.name = some (.ref fa) → ∃ fd : FuncData, (∀ (s : Shared) (u : Value), BindsTo s fd ⟨[u], []⟩ [("script", u)]) ∧ ∀ base : Heap, (K w.params).In base → base.Ns mainGlobals mg → FnOk l.prog w (K w.params) mg base CX0 k fa fd ["script"] (spL (K w.params) f))
    (M : ∀ ns : List Int, ns.length ≤ 63 → (∀ z ∈ ns, Builtin.Int.intBits z ≤ 1048576) → ∃ h', f [.ref 0] [.fz (ns.map D.int)] = .ok (.bl true) h') :
    PySem.W.WalkO q loose XP YP l.row.toRowW d [] (fun g us => PySem.call g us) := by
  refine L2.walk_ofB (n := 63) (k := k) (x := "script") (CX := fun _ => CX0) (sp := fun w => spL (K w.params) f) hn (by decide) hdf hr hY F (fun w H a ns hl hb hO hS => ?_) fun _ _ _ _ _ z => z
  obtain ⟨h', e⟩ := M ns hl hb
  refine ⟨rfl, fun κ => ⟨fun _ => a, [.fz (ns.map D.int)], [.ref 0], ⟨fun i j o o' hi hj mi => ?_, fun i o hi => ?_⟩, RVs.one (RV.ref_iff.mpr ⟨by simp, rfl⟩), ?_⟩⟩
  · cases i with
    | zero => simp at hi; subst hi; cases mi
    | succ i => simp at hi
  · cases i with
    | zero =>
      simp at hi
      subst hi
      refine ⟨ns.map V.int, ?_, RVs.of_ints⟩
      rcases hS with (hS | ⟨o, hS⟩) | hS
      · rcases hO a with z | ⟨o, xs, z⟩
        · rw [z] at hS; cases hS
        · rw [z] at hS; cases hS
      · exact .inl ⟨o, hS⟩
      · exact .inr hS
    | succ i => simp at hi
  · rw [e]
    intro φ' H' v st S rv
    rw [RV.bl_iff] at rv
    exact rv
end Z
/-! The defs of the law, printed by gen.py. -/
namespace Z.k16
open PySem L2 Z
def b_m_Guide_init_1 : MS :=
    (sSt stD (eFld [1] (eV 0) "numbers") (eOp opIx (eV 3) (eC (.int 0))) (eV 2))
def b_m_Guide_init_2 : MS :=
    (sSt stD (eFld [1] (eV 0) "limbs") (eOp opIx (eV 4) (eC (.int 0))) (eV 2))
/-- __init__(self, book, number, part, limb, name, form) -/
def f_m_Guide_init : Fn := ⟨2, 7,
    (sSq (sFl [1] (eV 0) "forms" (eLc [5, 6] (gT [5, 6]) (iA (eOp opIx (eV 1) (eC (.int 1)))) tY (eV 6)))
    (sSq (sFl [1] (eV 0) "numbers" eDiK)
    (sSq (sFo (gT [2, 3]) (iEn (eOp opIx (eV 1) (eC (.int 1)))) b_m_Guide_init_1)
    (sSq (sFl [1] (eV 0) "limbs" eDiK)
    (sSq (sFo (gT [2, 4]) (iEn (eOp opIx (eV 1) (eC (.int 0)))) b_m_Guide_init_2)
    (sSq (sFl [1] (eV 0) "lengths" (eCall 72 (aC (eV 1) aN) []))
    (sFl [1] (eV 0) "ends" (eCall 76 (aC (eV 1) aN) []))))))))⟩
/-- look_at(self, beat) -/
def f_m_Guide_look_at : Fn := ⟨2, 2,
    (sSq (sIf (tOr (tV (eOp opLt (eV 1) (eC (.int 0)))) (tV (eOp opGt (eV 1) (eOp opIx (eFld [1] (eV 0) "lengths") (eUn opNeg (eC (.int 1))))))) sNo sSk)
    (sRt (eOp opEq (eV 1) (eOp opIx (eFld [1] (eV 0) "lengths") (eUn opNeg (eC (.int 1)))))))⟩
def b_m_Guide_leave_1 : MS :=
    (sSt stD (eV 2) (eV 3) (eV 4))
/-- leave(self, number, heights, limb, height) -/
def f_m_Guide_leave : Fn := ⟨3, 5,
    (sFo (gT [3, 4]) (iA (eOp opIx (eFld [1] (eV 0) "ends") (eV 1))) b_m_Guide_leave_1)⟩
def b_m_Guide_put_1 : MS :=
    (sEx (eMeth [1] (eV 0) 5 "put_beside" (aC (eOp opIx (eFld [1] (eV 0) "numbers") (eV 6)) (aC (eV 2) (aC (eV 3) aN)))))
/-- put(self, number, beat, heights, form, limb, name, inner, turn, rest) -/
def f_m_Guide_put : Fn := ⟨4, 10,
    (sSq (sAs (gN 4) (eOp opIx (eFld [1] (eV 0) "forms") (eV 1)))
    (sIf (tV (eOp opEq (eOp opIx (eV 4) (eC (.int 0))) (eC (.str "raise")))) (sSq (sAs (gN 5) (eOp opIx (eFld [1] (eV 0) "limbs") (eOp opIx (eV 4) (eC (.int 1)))))
    (sSt stD (eV 3) (eV 5) (eCall 8 (aC (eOp opIx (eV 3) (eV 5)) (aC (eOp opIx (eV 4) (eC (.int 2))) (aC (eOp opIx (eV 4) (eC (.int 3))) (aC (eV 2) aN)))) []))) (sIf (tV (eOp opEq (eOp opIx (eV 4) (eC (.int 0))) (eC (.str "side")))) (sFo (gN 6) (iA (eOp opIx (eV 4) (eC (.int 1)))) b_m_Guide_put_1) (sIf (tV (eOp opEq (eOp opIx (eV 4) (eC (.int 0))) (eC (.str "row")))) (sEx (eMeth [1] (eV 0) 6 "put_in_row" (aC (eLc [6] (gN 6) (iA (eOp opIx (eV 4) (eC (.int 1)))) tY (eOp opIx (eFld [1] (eV 0) "numbers") (eV 6))) (aC (eV 2) (aC (eV 3) aN))))) (sIf (tV (eOp opEq (eOp opIx (eV 4) (eC (.int 0))) (eC (.str "again")))) (sSq (sAs (gN 7) (eOp opIx (eFld [1] (eV 0) "numbers") (eOp opIx (eV 4) (eC (.int 2)))))
    (sSq (sAs (gT [8, 9]) (eBf bDvm (aC (eV 2) (aC (eOp opIx (eFld [1] (eV 0) "lengths") (eV 7)) aN))))
    (sSq (sIf (tV (eOp opGt (eV 8) (eC (.int 0)))) (sEx (eMeth [1] (eV 0) 2 "leave" (aC (eV 7) (aC (eV 3) aN)))) sSk)
    (sEx (eMeth [1] (eV 0) 3 "put" (aC (eV 7) (aC (eV 9) (aC (eV 3) aN)))))))) sSk)))))⟩
/-- put_beside(self, number, beat, heights) -/
def f_m_Guide_put_beside : Fn := ⟨4, 4,
    (sIf (tV (eOp opLt (eV 2) (eOp opIx (eFld [1] (eV 0) "lengths") (eV 1)))) (sEx (eMeth [1] (eV 0) 3 "put" (aC (eV 1) (aC (eV 2) (aC (eV 3) aN))))) (sEx (eMeth [1] (eV 0) 2 "leave" (aC (eV 1) (aC (eV 3) aN)))))⟩
def b_m_Guide_put_in_row_1 : MS :=
    (sSq (sIf (tV (eOp opLt (eV 2) (eOp opIx (eFld [1] (eV 0) "lengths") (eV 4)))) (sSq (sEx (eMeth [1] (eV 0) 3 "put" (aC (eV 4) (aC (eV 2) (aC (eV 3) aN)))))
    sRN) sSk)
    (sSq (sAs (gN 2) (eOp opSub (eV 2) (eOp opIx (eFld [1] (eV 0) "lengths") (eV 4))))
    (sEx (eMeth [1] (eV 0) 2 "leave" (aC (eV 4) (aC (eV 3) aN))))))
/-- put_in_row(self, numbers, beat, heights, number) -/
def f_m_Guide_put_in_row : Fn := ⟨4, 5,
    (sFo (gN 4) (iA (eV 1)) b_m_Guide_put_in_row_1)⟩
def b_m_Guide_words_1 : MS :=
    (sSq (sAs (gN 4) (eOp opIx (eFld [1] (eV 0) "numbers") (eV 6)))
    (sSq (sIf (tV (eOp opGe (eV 2) (eC (.int 0)))) (sEx (eBk okL mExt (eV 5) (aC (eMeth [1] (eV 0) 4 "words" (aC (eV 4) (aC (eV 2) aN))) aN))) sSk)
    (sIf (tV (eOp opEq (eOp opIx (eV 3) (eC (.int 0))) (eC (.str "row")))) (sAs (gN 2) (eOp opSub (eV 2) (eOp opIx (eFld [1] (eV 0) "lengths") (eV 4)))) sSk)))
/-- words(self, number, beat, form, inner, found, name) -/
def f_m_Guide_words : Fn := ⟨3, 7,
    (sSq (sAs (gN 3) (eOp opIx (eFld [1] (eV 0) "forms") (eV 1)))
    (sSq (sIf (tOr (tV (eOp opGe (eV 2) (eOp opIx (eFld [1] (eV 0) "lengths") (eV 1)))) (tOr (tV (eOp opEq (eOp opIx (eV 3) (eC (.int 0))) (eC (.str "raise")))) (tV (eOp opEq (eOp opIx (eV 3) (eC (.int 0))) (eC (.str "hold")))))) (sRt (eLst aN)) sSk)
    (sSq (sIf (tV (eOp opEq (eOp opIx (eV 3) (eC (.int 0))) (eC (.str "ring")))) (sRt (eIf (tV (eOp opEq (eV 2) (eC (.int 0)))) (eLst (aC (eOp opIx (eV 3) (eC (.int 1))) aN)) (eLst aN))) sSk)
    (sSq (sIf (tV (eOp opEq (eOp opIx (eV 3) (eC (.int 0))) (eC (.str "again")))) (sSq (sAs (gN 4) (eOp opIx (eFld [1] (eV 0) "numbers") (eOp opIx (eV 3) (eC (.int 2)))))
    (sRt (eMeth [1] (eV 0) 4 "words" (aC (eV 4) (aC (eOp opMod (eV 2) (eOp opIx (eFld [1] (eV 0) "lengths") (eV 4))) aN))))) sSk)
    (sSq (sAs (gN 5) (eLst aN))
    (sSq (sFo (gN 6) (iA (eOp opIx (eV 3) (eC (.int 1)))) b_m_Guide_words_1)
    (sRt (eV 5))))))))⟩
def b_numbers_of_1 : MS :=
    (sSt stD (eV 1) (eOp opIx (eV 3) (eC (.int 0))) (eV 2))
/-- numbers_of(rows, numbers, number, row) -/
def f_numbers_of : Fn := ⟨1, 4,
    (sSq (sAs (gN 1) eDiK)
    (sSq (sFo (gT [2, 3]) (iEn (eV 0)) b_numbers_of_1)
    (sRt (eV 1))))⟩
/-- named(form, numbers, name) -/
def f_named : Fn := ⟨2, 3,
    (sSq (sIf (tOr (tV (eOp opEq (eOp opIx (eV 0) (eC (.int 0))) (eC (.str "row")))) (tV (eOp opEq (eOp opIx (eV 0) (eC (.int 0))) (eC (.str "side"))))) (sRt (eLc [2] (gN 2) (iA (eOp opIx (eV 0) (eC (.int 1)))) tY (eOp opIx (eV 1) (eV 2)))) sSk)
    (sSq (sIf (tV (eOp opEq (eOp opIx (eV 0) (eC (.int 0))) (eC (.str "again")))) (sRt (eLst (aC (eOp opIx (eV 1) (eOp opIx (eV 0) (eC (.int 2)))) aN))) sSk)
    (sRt (eLst aN))))⟩
def b_moved_1 : MS :=
    (sEx (eBk okL mExt (eV 6) (aC (eOp opIx (eV 3) (eV 7)) aN)))
def b_moved_2 : MS :=
    (sSq (sAs (gN 6) (eLst aN))
    (sSq (sIf (tV (eOp opEq (eOp opIx (eV 5) (eC (.int 0))) (eC (.str "raise")))) (sEx (eBk okL mApp (eV 6) (aC (eOp opIx (eV 1) (eOp opIx (eV 5) (eC (.int 1)))) aN))) sSk)
    (sSq (sFo (gN 7) (iA (eCall 62 (aC (eV 5) (aC (eV 2) aN)) [])) b_moved_1)
    (sEx (eBk okL mApp (eV 3) (aC (eUn bSrS (eV 6)) aN))))))
/-- moved(book, hands, numbers, told, name, form, limbs, number) -/
def f_moved : Fn := ⟨1, 8,
    (sSq (sAs (gN 1) (eCall 61 (aC (eOp opIx (eV 0) (eC (.int 0))) aN) []))
    (sSq (sAs (gN 2) (eCall 61 (aC (eOp opIx (eV 0) (eC (.int 1))) aN) []))
    (sSq (sAs (gN 3) (eLst aN))
    (sSq (sFo (gT [4, 5]) (iA (eOp opIx (eV 0) (eC (.int 1)))) b_moved_2)
    (sRt (eV 3))))))⟩
/-- length_of(form, below) -/
def f_length_of : Fn := ⟨2, 2,
    (sSq (sIf (tV (eOp opEq (eOp opIx (eV 0) (eC (.int 0))) (eC (.str "row")))) (sRt (eBf bSum (aC (eV 1) aN))) sSk)
    (sSq (sIf (tV (eOp opEq (eOp opIx (eV 0) (eC (.int 0))) (eC (.str "side")))) (sRt (eBf bMax (aC (eV 1) aN))) sSk)
    (sSq (sIf (tV (eOp opEq (eOp opIx (eV 0) (eC (.int 0))) (eC (.str "again")))) (sRt (eOp opMul (eOp opIx (eV 0) (eC (.int 1))) (eOp opIx (eV 1) (eC (.int 0))))) sSk)
    (sRt (eOp opIx (eV 0) (eUn opNeg (eC (.int 1))))))))⟩
def b_look_at_side_1 : MS :=
    (sIf (tV (eOp opGt (eBf bLen (aC (eLc [4] (gN 4) (iA (eV 2)) (tV (eOp opIn (eV 3) (eV 4))) (eV 4)) aN)) (eC (.int 1)))) sNo sSk)
/-- look_at_side(book, number, limbs, limb, some) -/
def f_look_at_side : Fn := ⟨3, 5,
    (sSq (sIf (tV (eOp opIn (eLst aN) (eV 2))) sNo sSk)
    (sFo (gN 3) (iR1 (eBf bLen (aC (eOp opIx (eV 0) (eC (.int 0))) aN))) b_look_at_side_1))⟩
def b_lengths_1 : MS :=
    (sSq (sAs (gN 6) (eCall 62 (aC (eOp opIx (eV 5) (eC (.int 1))) (aC (eV 1) aN)) []))
    (sSq (sIf (tV (eOp opEq (eOp opIx (eOp opIx (eV 5) (eC (.int 1))) (eC (.int 0))) (eC (.str "side")))) (sEx (eCall 71 (aC (eV 0) (aC (eV 4) (aC (eLc [7] (gN 7) (iA (eV 6)) tY (eOp opIx (eV 2) (eV 7))) aN))) [])) sSk)
    (sSq (sEx (eBk okL mApp (eV 3) (aC (eCall 70 (aC (eOp opIx (eV 5) (eC (.int 1))) (aC (eLc [7] (gN 7) (iA (eV 6)) tY (eOp opIx (eV 3) (eV 7))) aN)) []) aN)))
    (sIf (tV (eOp opGt (eOp opIx (eV 3) (eUn opNeg (eC (.int 1)))) (eC (.int 1000000000000000000000000000000000000000000000000000000000000)))) sNo sSk))))
/-- lengths(book, numbers, limbs, told, number, part, below, one) -/
def f_lengths : Fn := ⟨1, 8,
    (sSq (sAs (gN 1) (eCall 61 (aC (eOp opIx (eV 0) (eC (.int 1))) aN) []))
    (sSq (sAs (gN 2) (eCall 63 (aC (eV 0) aN) []))
    (sSq (sAs (gN 3) (eLst aN))
    (sSq (sFo (gT [4, 5]) (iEn (eOp opIx (eV 0) (eC (.int 1)))) b_lengths_1)
    (sRt (eV 3))))))⟩
def b_ends_1 : MS :=
    (sSt stD (eV 6) (eV 8) (eV 9))
def b_ends_2 : MS :=
    (sFo (gT [8, 9]) (iA (eOp opIx (eV 3) (eV 7))) b_ends_1)
def b_ends_3 : MS :=
    (sSq (sAs (gN 6) eDiK)
    (sSq (sIf (tV (eOp opEq (eOp opIx (eV 5) (eC (.int 0))) (eC (.str "raise")))) (sSt stD (eV 6) (eOp opIx (eV 1) (eOp opIx (eV 5) (eC (.int 1)))) (eOp opIx (eV 5) (eC (.int 2)))) sSk)
    (sSq (sFo (gN 7) (iA (eCall 62 (aC (eV 5) (aC (eV 2) aN)) [])) b_ends_2)
    (sEx (eBk okL mApp (eV 3) (aC (eLc [8] (gN 8) (iA (eBf bSr2 (aC (eV 6) aN))) tY (eTup (aC (eV 8) (aC (eOp opIx (eV 6) (eV 8)) aN)))) aN))))))
/-- ends(book, hands, numbers, told, name, form, left, number, limb, height) -/
def f_ends : Fn := ⟨1, 10,
    (sSq (sAs (gN 1) (eCall 61 (aC (eOp opIx (eV 0) (eC (.int 0))) aN) []))
    (sSq (sAs (gN 2) (eCall 61 (aC (eOp opIx (eV 0) (eC (.int 1))) aN) []))
    (sSq (sAs (gN 3) (eLst aN))
    (sSq (sFo (gT [4, 5]) (iA (eOp opIx (eV 0) (eC (.int 1)))) b_ends_3)
    (sRt (eV 3))))))⟩
/-- ramp(start, goal, beats, j) -/
def f_ramp : Fn := ⟨4, 4,
    (sRt (eOp opAdd (eV 0) (eOp opDiv (eOp opMul (eOp opSub (eV 1) (eV 0)) (eV 3)) (eV 2))))⟩
/-- stand(book, beat, guide, heights, name, height) -/
def f_stand : Fn := ⟨2, 6,
    (sSq (sAs (gN 2) (eMake 1 (aC (eV 0) aN)))
    (sSq (sAs (gN 3) (eLc [4, 5] (gT [4, 5]) (iA (eOp opIx (eV 0) (eC (.int 0)))) tY (eV 5)))
    (sSq (sIf (tV (eMeth [1] (eV 2) 1 "look_at" (aC (eV 1) aN))) (sEx (eMeth [1] (eV 2) 2 "leave" (aC (eOp opSub (eBf bLen (aC (eOp opIx (eV 0) (eC (.int 1))) aN)) (eC (.int 1))) (aC (eV 3) aN)))) (sEx (eMeth [1] (eV 2) 3 "put" (aC (eOp opSub (eBf bLen (aC (eOp opIx (eV 0) (eC (.int 1))) aN)) (eC (.int 1))) (aC (eV 1) (aC (eV 3) aN))))))
    (sRt (eV 3)))))⟩
/-- rings(book, beat, guide) -/
def f_rings : Fn := ⟨2, 3,
    (sSq (sAs (gN 2) (eMake 1 (aC (eV 0) aN)))
    (sSq (sIf (tV (eMeth [1] (eV 2) 1 "look_at" (aC (eV 1) aN))) (sRt (eLst aN)) sSk)
    (sRt (eMeth [1] (eV 2) 4 "words" (aC (eOp opSub (eBf bLen (aC (eOp opIx (eV 0) (eC (.int 1))) aN)) (eC (.int 1))) (aC (eV 1) aN))))))⟩
/-- _law_cell(script, k, number) -/
def f_l_cell : Fn := ⟨2, 3,
    (sSq (sIf (tV (eOp opLt (eV 1) (eBf bLen (aC (eV 0) aN)))) (sRt (eOp opIx (eV 0) (eV 1))) sSk)
    (sSq (sAs (gN 2) (eOp opAdd (eOp opMul (eV 1) (eV 1)) (eC (.int 7919))))
    (sSq (sIf (tV (eOp opGt (eBf bLen (aC (eV 0) aN)) (eC (.int 0)))) (sAs (gN 2) (eOp opAdd (eV 2) (eOp opMod (eOp opIx (eV 0) (eOp opMod (eOp opMul (eV 1) (eC (.int 7))) (eBf bLen (aC (eV 0) aN)))) (eC (.int 2147483629))))) sSk)
    (sRt (eOp opMod (eOp opMul (eV 2) (eV 2)) (eC (.int 2147483629)))))))⟩
def b_l_names_1 : MS :=
    (sSq (sAs (gN 5) (eOp opMod (eOp opAdd (eOp opAdd (eOp opAdd (eOp opMul (eV 5) (eV 5)) (eOp opMul (eC (.int 4827)) (eV 5))) (eV 8)) (eC (.int 7))) (eC (.int 1000003))))
    (sSq (sAs (gN 7) (eOp opAdd (eV 7) (eOp opIx (eV 2) (eOp opMod (eOp opIx (eLst (aC (eOp opDiv (eV 5) (eC (.int 16))) (aC (eV 6) aN))) (eBf bInt (aC (eOp opGe (eV 0) (eOp opPow (eC (.int 10)) (eC (.int 18)))) aN))) (eC (.int 26))))))
    (sAs (gN 6) (eOp opDiv (eV 6) (eC (.int 26))))))
def b_l_names_2 : MS :=
    (sSq (sAs (gN 11) (eOp opIx (eV 2) (eOp opMod (eOp opAdd (eV 9) (eOp opMul (eC (.int 3)) (eV 8))) (eC (.int 26)))))
    (sSq (sAs (gN 12) (eOp opMul (eOp opMod (eV 8) (eC (.int 3))) (eOp opMod (eOp opDiv (eV 0) (eC (.int 36))) (eC (.int 2)))))
    (sEx (eBk okL mApp (eV 10) (aC (eOp opAdd (eOp opAdd (eOp opAdd (eSl opSl (eV 7) oN (oS (eV 4))) (eV 11)) (eSl opSl (eV 7) (oS (eOp opAdd (eV 4) (eC (.int 1)))) oN)) (eSl opSl (eC (.str "ab")) oN (oS (eV 12)))) aN)))))
/-- _law_names(cell, many, letters, long, at, seed, rest, base, k, spot, names, sign, more) -/
def f_l_names : Fn := ⟨2, 13,
    (sSq (sAs (gN 2) (eC (.str "abcdefghijklmnopqrstuvwxyz")))
    (sSq (sAs (gN 3) (eOp opAdd (eC (.int 1)) (eOp opMod (eV 0) (eC (.int 6)))))
    (sSq (sAs (gN 4) (eOp opMod (eOp opDiv (eV 0) (eC (.int 6))) (eV 3)))
    (sSq (sAs (gN 5) (eOp opMod (eV 0) (eC (.int 1000003))))
    (sSq (sAs (gN 6) (eOp opDiv (eV 0) (eC (.int 72))))
    (sSq (sAs (gN 7) (eC (.str "")))
    (sSq (sFo (gN 8) (iR1 (eV 3)) b_l_names_1)
    (sSq (sAs (gN 9) (eBk okS mSix (eV 2) (aC (eOp opIx (eV 7) (eV 4)) aN)))
    (sSq (sAs (gN 10) (eLst aN))
    (sSq (sFo (gN 8) (iR1 (eV 1)) b_l_names_2)
    (sRt (eV 10))))))))))))⟩
def b_l_alike_1 : MS :=
    (sIf (tV (eIs "str" (eV 3))) (sIf (tOr (tNt (tV (eIs "str" (eV 2)))) (tV (eOp opNe (eV 2) (eV 3)))) (sRt (eC (.bl false))) sSk) (sIf (tOr (tNt (tV (eIs "int" (eV 2)))) (tOr (tV (eIs "bool" (eV 2))) (tV (eOp opNe (eV 2) (eV 3))))) (sRt (eC (.bl false))) sSk))
/-- _law_alike(found, due, one, other) -/
def f_l_alike : Fn := ⟨2, 4,
    (sSq (sIf (tOr (tNt (tV (eIs "list" (eV 0)))) (tV (eOp opNe (eBf bLen (aC (eV 0) aN)) (eBf bLen (aC (eV 1) aN))))) (sRt (eC (.bl false))) sSk)
    (sSq (sFo (gT [2, 3]) (iZp (eV 0) (eV 1)) b_l_alike_1)
    (sRt (eC (.bl true)))))⟩
def b_law_1 : MS :=
    (sSq (sAs (gN 13) (eLc [16, 3] (gT [16, 3]) (iA (eV 4)) tY (eV 3)))
    (sSq (sIf (tV (eOp opEq (eV 9) (eC (.int 0)))) (sSt stD (eV 13) (eV 7) (eOp opAdd (eOp opIx (eV 13) (eV 7)) (eOp opDiv (eOp opMul (eOp opSub (eV 6) (eOp opIx (eV 13) (eV 7))) (eV 12)) (eV 5)))) sSk)
    (sSq (sIf (tNt (tV (eCall 173 (aC (eCall 87 (aC (eV 10) (aC (eV 12) aN)) []) (aC (eV 13) aN)) []))) (sRt (eC (.bl false))) sSk)
    (sIf (tNt (tV (eCall 173 (aC (eCall 170 (aC (eV 10) (aC (eV 12) aN)) []) (aC (eOp opMul (eLst (aC (eOp opIx (eV 1) (eC (.int 9))) aN)) (eBf bInt (aC (eAn (eOp opEq (eV 9) (eC (.int 2))) (eOp opEq (eV 12) (eC (.int 0)))) aN))) aN)) []))) (sRt (eC (.bl false))) sSk))))
/-- law(script, names, many, height, limbs, beats, goal, at, form, way, book, parts, beat, due, k, cell, name) -/
def f_law : Fn := ⟨1, 17,
    (sSq (sAs (gN 1) (eCall 172 (aC (eCall 171 (aC (eV 0) (aC (eC (.int 0)) aN)) []) (aC (eC (.int 12)) aN)) []))
    (sSq (sAs (gN 2) (eOp opAdd (eC (.int 1)) (eOp opMod (eCall 171 (aC (eV 0) (aC (eC (.int 1)) aN)) []) (eC (.int 8)))))
    (sSq (sAs (gN 3) (eOp opMod (eCall 171 (aC (eV 0) (aC (eC (.int 2)) aN)) []) (eOp opPow (eC (.int 10)) (eC (.int 30)))))
    (sSq (sAs (gN 4) (eLc [14] (gN 14) (iR1 (eV 2)) tY (eTup (aC (eOp opIx (eV 1) (eV 14)) (aC (eOp opMod (eOp opMul (eOp opMul (eV 3) (eOp opAdd (eOp opMul (eC (.int 2)) (eV 14)) (eC (.int 1)))) (eC (.int 48271))) (eOp opAdd (eOp opPow (eC (.int 10)) (eC (.int 18))) (eC (.int 1)))) aN)))))
    (sSq (sAs (gN 5) (eOp opAdd (eC (.int 1)) (eOp opMod (eOp opMul (eOp opMod (eCall 171 (aC (eV 0) (aC (eC (.int 3)) aN)) []) (eOp opPow (eC (.int 10)) (eC (.int 30)))) (eOp opIx (eLst (aC (eC (.int 1)) (aC (eOp opAdd (eOp opPow (eC (.int 10)) (eC (.int 16))) (eC (.int 61))) aN))) (eOp opMod (eOp opDiv (eCall 171 (aC (eV 0) (aC (eC (.int 1)) aN)) []) (eC (.int 8))) (eC (.int 2))))) (eOp opPow (eC (.int 10)) (eC (.int 18))))))
    (sSq (sAs (gN 6) (eOp opMod (eOp opMul (eOp opMod (eCall 171 (aC (eV 0) (aC (eC (.int 4)) aN)) []) (eOp opPow (eC (.int 10)) (eC (.int 30)))) (eOp opIx (eLst (aC (eC (.int 1)) (aC (eOp opAdd (eOp opPow (eC (.int 10)) (eC (.int 17))) (eC (.int 3))) aN))) (eOp opMod (eOp opDiv (eCall 171 (aC (eV 0) (aC (eC (.int 1)) aN)) []) (eC (.int 16))) (eC (.int 2))))) (eOp opAdd (eOp opPow (eC (.int 10)) (eC (.int 18))) (eC (.int 1)))))
    (sSq (sAs (gN 7) (eOp opMod (eCall 171 (aC (eV 0) (aC (eC (.int 5)) aN)) []) (eV 2)))
    (sSq (sAs (gN 8) (eLst (aC (eTup (aC (eC (.str "raise")) (aC (eOp opIx (eV 1) (eV 7)) (aC (eV 6) (aC (eV 5) aN))))) (aC (eTup (aC (eC (.str "hold")) (aC (eV 5) aN))) (aC (eTup (aC (eC (.str "ring")) (aC (eOp opIx (eV 1) (eC (.int 9))) (aC (eV 5) aN)))) aN)))))
    (sSq (sAs (gN 9) (eOp opIx (eLst (aC (eC (.int 0)) (aC (eC (.int 0)) (aC (eC (.int 1)) (aC (eC (.int 2)) aN))))) (eOp opMod (eOp opDiv (eCall 171 (aC (eV 0) (aC (eC (.int 5)) aN)) []) (eC (.int 8))) (eC (.int 4)))))
    (sSq (sAs (gN 10) (eTup (aC (eBf bLst (aC (eV 4) aN)) (aC (eLst (aC (eTup (aC (eOp opIx (eV 1) (eOp opMod (eOp opDiv (eCall 171 (aC (eV 0) (aC (eC (.int 5)) aN)) []) (eC (.int 32))) (eC (.int 9)))) (aC (eOp opIx (eV 8) (eV 9)) aN))) aN)) aN))))
    (sSq (sAs (gN 11) (eBf bLst (aC (eOp opIx (eV 10) (eC (.int 1))) aN)))
    (sSq (sFo (gN 12) (iA (eOp opAdd (eLst (aC (eC (.int 0)) (aC (eV 5) aN))) (eLc [15] (gN 15) (iA (eSl opSl (eV 0) (oS (eC (.int 6))) (oS (eC (.int 36))))) tY (eOp opMod (eOp opMul (eOp opMod (eV 15) (eOp opPow (eC (.int 10)) (eC (.int 30)))) (eOp opIx (eLst (aC (eC (.int 1)) (aC (eOp opAdd (eOp opPow (eC (.int 10)) (eC (.int 15))) (eC (.int 37))) aN))) (eOp opMod (eV 15) (eC (.int 2))))) (eOp opAdd (eV 5) (eC (.int 1))))))) b_law_1)
    (sRt (eOp opEq (eV 10) (eTup (aC (eV 4) (aC (eV 11) aN)))))))))))))))))⟩
def T : Tbl := ⟨fun f => match f with
  | 61 => some f_numbers_of
  | 62 => some f_named
  | 63 => some f_moved
  | 70 => some f_length_of
  | 71 => some f_look_at_side
  | 72 => some f_lengths
  | 76 => some f_ends
  | 8 => some f_ramp
  | 87 => some f_stand
  | 170 => some f_rings
  | 171 => some f_l_cell
  | 172 => some f_l_names
  | 173 => some f_l_alike
  | _ => none, fun c m => match c, m with
  | 1, 0 => some f_m_Guide_init
  | 1, 1 => some f_m_Guide_look_at
  | 1, 2 => some f_m_Guide_leave
  | 1, 3 => some f_m_Guide_put
  | 1, 5 => some f_m_Guide_put_beside
  | 1, 6 => some f_m_Guide_put_in_row
  | 1, 4 => some f_m_Guide_words
  | _, _ => none, FUEL⟩
end Z.k16
namespace Z.k16
open PySem L2 Z
/-! sizes of ints -/
structure Lt2 (i : Int) (a : Nat) : Prop where
  h : i.natAbs < 2 ^ a
theorem log2_le {n a : Nat} (h : n < 2 ^ a) : n.log2 ≤ a := by
  by_cases h0 : n = 0
  · subst h0; simp
  · exact Nat.le_of_lt ((Nat.log2_lt h0).mpr h)
theorem mulOk_of {i j : Int} {a b : Nat} (hi : Lt2 i a) (hj : Lt2 j b) (h : a + b < 100000000) : mulOk i j = true := by
  unfold mulOk
  have h1 := log2_le hi.h
  have h2 := log2_le hj.h
  exact decide_eq_true (by omega)
theorem Lt2.mono {i : Int} {a b : Nat} (h : Lt2 i a) (q : a ≤ b) : Lt2 i b := ⟨Nat.lt_of_lt_of_le h.h (Nat.pow_le_pow_right (by decide) q)⟩
theorem Lt2.of_le {i j : Int} {a : Nat} (h : Lt2 j a) (q : i.natAbs ≤ j.natAbs) : Lt2 i a := ⟨Nat.lt_of_le_of_lt q h.h⟩
theorem Lt2.mul {i j : Int} {a b : Nat} (hi : Lt2 i a) (hj : Lt2 j b) : Lt2 (i * j) (a + b) := ⟨by rw [Int.natAbs_mul, Nat.pow_add]; exact Nat.mul_lt_mul'' hi.h hj.h⟩
theorem Lt2.add {i j : Int} {a : Nat} (hi : Lt2 i a) (hj : Lt2 j a) : Lt2 (i + j) (a + 1) := ⟨by
  have h1 := hi.h
  have h2 := hj.h
  rw [Nat.pow_succ]
  omega⟩
theorem Lt2.sub {i j : Int} {a : Nat} (hi : Lt2 i a) (hj : Lt2 j a) : Lt2 (i - j) (a + 1) := ⟨by
  have h1 := hi.h
  have h2 := hj.h
  rw [Nat.pow_succ]
  omega⟩
theorem Lt2.neg {i : Int} {a : Nat} (hi : Lt2 i a) : Lt2 (-i) a := ⟨by rw [Int.natAbs_neg]; exact hi.h⟩
theorem Lt2.div {i j : Int} {a : Nat} (hi : Lt2 i a) : Lt2 (i / j) a := ⟨by
  refine Nat.lt_of_le_of_lt ?_ hi.h
  exact Int.natAbs_ediv_le_natAbs i j⟩
theorem Lt2.of_bits {i : Int} {a : Nat} (h : Builtin.Int.intBits i ≤ a) : Lt2 i a := by
  refine ⟨?_⟩
  unfold Builtin.Int.intBits at h
  split at h
  · rename_i h0
    have : i.natAbs = 0 := by simpa using h0
    rw [this]
    exact Nat.pos_of_ne_zero (by simp)
  · rename_i h0
    have hn : i.natAbs ≠ 0 := by simpa using h0
    exact (Nat.log2_lt hn).mp (by omega)
theorem fdiv_pos {a b : Int} (h : 0 < b) : a.fdiv b = a / b := Int.fdiv_eq_ediv_of_nonneg a (Int.le_of_lt h)
theorem fmod_pos {a b : Int} (h : 0 < b) : a.fmod b = a % b := Int.fmod_eq_emod_of_nonneg a (Int.le_of_lt h)
theorem divOk_of {j : Int} {a : Nat} (h0 : j ≠ 0) (h : Lt2 j a) (ha : a < 9000) : divOk j = true := by
  unfold divOk
  rw [decide_eq_true h0, decide_eq_true (Nat.lt_of_le_of_lt (log2_le h.h) ha)]; rfl
/-! statements one behind the other -/
theorem sq_nx {a b : MS} {C : Ctx} {e e' : Ev} {h h' : HP} (q : a C e h = .ok (.nx e') h') : sSq a b C e h = b C e' h' := by unfold sSq; rw [q]; rfl
theorem sq_rt {a b : MS} {C : Ctx} {e : Ev} {d : D} {h h' : HP} (q : a C e h = .ok (.rt d) h') : sSq a b C e h = .ok (.rt d) h' := by unfold sSq; rw [q]; rfl
/-- a for that goes through, by an invariant of the turn -/
theorem for_go {it : Itr} {g : Tg} {b : MS} {C : Ctx} {n : Nat} (ds : Nat → D) (Pv : Nat → Ev → HP → Prop) (hi : ∀ j e h, j < n → Pv j e h → it j h = some (some (ds j))) (hd : ∀ e h, Pv n e h → it n h = some none)
    (hs : ∀ j e h, j < n → Pv j e h → ∃ e1, g e (ds j) = some e1 ∧ ∃ e2 h2, (b C e1 h = .ok (.nx e2) h2 ∨ b C e1 h = .ok (.ct e2) h2) ∧ Pv (j + 1) e2 h2) :
    ∀ (m j : Nat) (e : Ev) (h : HP), j + m = n → Pv j e h → ∀ fuel, m < fuel → ∃ e2 h2, forN it g b fuel j C e h = .ok (.nx e2) h2 ∧ Pv n e2 h2
  | 0, j, e, h, hj, p, fuel, hf => by
    obtain ⟨f, rfl⟩ : ∃ f, fuel = f + 1 := ⟨fuel - 1, by omega⟩
    have : j = n := by omega
    subst this
    exact ⟨e, h, by simp only [forN, hd e h p], p⟩
  | m + 1, j, e, h, hj, p, fuel, hf => by
    obtain ⟨f, rfl⟩ : ∃ f, fuel = f + 1 := ⟨fuel - 1, by omega⟩
    obtain ⟨e1, g1, e2, h2, hb, p2⟩ := hs j e h (by omega) p
    obtain ⟨e3, h3, q, p3⟩ := for_go ds Pv hi hd hs m (j + 1) e2 h2 (by omega) p2 f (by omega)
    refine ⟨e3, h3, ?_, p3⟩
    rcases hb with hb | hb <;> simp only [forN, hi j e h (by omega) p, g1, hb, R.bind_ok, q]
theorem fo_of {g : Tg} {mi : MI} {b : MS} {C : Ctx} {e : Ev} {h h1 h2 : HP} {it : Itr} {fl : FL} (hi : mi C e h = .ok it h1) (hf : forN it g b C.fuel 0 C e h1 = .ok fl h2) : sFo g mi b C e h = .ok fl h2 := by
  unfold sFo
  rw [hi]
  exact hf
theorem iR1_of {a : ME} {C : Ctx} {e : Ev} {h h1 : HP} {n : Int} (ha : a C e h = .ok (.int n) h1) (l : -(2 ^ 62) ≤ n) (u : n < 2 ^ 62) : iR1 a C e h = .ok (itR 0 n.toNat) h1 := by
  unfold iR1
  rw [ha]
  simp only [R.bind_ok]
  rw [if_pos ⟨l, u⟩]
theorem iR2_of {a b : ME} {C : Ctx} {e : Ev} {h h1 h2 : HP} {m n : Int} (ha : a C e h = .ok (.int m) h1) (hb : b C e h1 = .ok (.int n) h2) (l : -(2 ^ 62) ≤ m ∧ m < 2 ^ 62) (u : -(2 ^ 62) ≤ n ∧ n < 2 ^ 62) : iR2 a b C e h = .ok (itR m (n - m).toNat) h2 := by
  unfold iR2
  rw [ha]
  simp only [R.bind_ok]
  rw [hb]
  simp only [R.bind_ok]
  rw [if_pos ⟨l.1, l.2, u.1, u.2⟩]
/-! the evaluator's steps, as rules to go by -/
section
variable {C : Ctx} {e e1 e2 : Ev} {h h1 h2 h3 : HP} {a b : ME} {as : MA} {d x y z : D} {xs ys ds : List D} {t u : MT} {s w : MS} {g : Tg} {i : Nat} {p q : Int} {bb : Bool} {op : D → D → HP → R D} {r : R D} {rb : R Bool} {rs : R FL}
theorem g_v (l : e[i]? = some (some d)) : eV i C e h = .ok d h := by unfold eV; rw [l]
theorem g_c : eC d C e h = .ok d h := rfl
theorem g_op (ha : a C e h = .ok x h1) (hb : b C e h1 = .ok y h2) (ho : op x y h2 = r) : eOp op a b C e h = r := by unfold eOp; rw [ha]; simp only [R.bind_ok]; rw [hb]; exact ho
theorem g_un {op : D → HP → R D} (ha : a C e h = .ok x h1) (ho : op x h1 = r) : eUn op a C e h = r := by unfold eUn; rw [ha]; exact ho
theorem g_add : opAdd (.int p) (.int q) h = .ok (.int (p + q)) h := rfl
theorem g_sub : opSub (.int p) (.int q) h = .ok (.int (p - q)) h := rfl
theorem g_iadd : opIAdd (.int p) (.int q) h = .ok (.int (p + q)) h := rfl
theorem g_mul (l : mulOk p q = true) : opMul (.int p) (.int q) h = .ok (.int (p * q)) h := by simp only [opMul, l, if_true]
theorem g_div (l : divOk q = true) (k : 0 < q) : opDiv (.int p) (.int q) h = .ok (.int (p / q)) h := by simp only [opDiv, l, if_true, Int.fdiv_eq_ediv_of_nonneg p (Int.le_of_lt k)]
theorem g_mod (k : 0 < q) : opMod (.int p) (.int q) h = .ok (.int (p % q)) h := by
  have : q ≠ 0 := by omega
  simp only [opMod, ne_eq, this, not_false_eq_true, if_true, Int.fmod_eq_emod_of_nonneg p (Int.le_of_lt k)]
theorem g_neg : opNeg (.int p) h = .ok (.int (-p)) h := rfl
theorem g_lt : opLt (.int p) (.int q) h = .ok (.bl (decide (p < q))) h := rfl
theorem g_le : opLe (.int p) (.int q) h = .ok (.bl (decide (p ≤ q))) h := rfl
theorem g_gt : opGt (.int p) (.int q) h = .ok (.bl (decide (q < p))) h := rfl
theorem g_ge : opGe (.int p) (.int q) h = .ok (.bl (decide (q ≤ p))) h := rfl
theorem g_eq : opEq (.int p) (.int q) h = .ok (.bl (decide (p = q))) h := rfl
theorem g_ne : opNe (.int p) (.int q) h = .ok (.bl (decide (p ≠ q))) h := by
  show R.ok (D.bl !decide (p = q)) h = _
  rw [show (!decide (p = q)) = decide (p ≠ q) by simp]
theorem g_eqs {p q : Str} : opEq (.str p) (.str q) h = .ok (.bl (decide (p = q))) h := rfl
theorem g_nes {p q : Str} : opNe (.str p) (.str q) h = .ok (.bl (decide (p ≠ q))) h := by
  show R.ok (D.bl !decide (p = q)) h = _
  rw [show (!decide (p = q)) = decide (p ≠ q) by simp]
theorem g_neni : opNe .non (.int p) h = .ok (.bl true) h := rfl
theorem g_nein : opNe (.int p) .non h = .ok (.bl true) h := rfl
theorem g_nenn : opNe .non .non h = .ok (.bl false) h := rfl
theorem g_isn : opIsN .non .non h = .ok (.bl true) h := rfl
theorem g_isi : opIsN (.int p) .non h = .ok (.bl false) h := rfl
theorem g_nsn : opNotN .non .non h = .ok (.bl false) h := rfl
theorem g_nsi : opNotN (.int p) .non h = .ok (.bl true) h := rfl
theorem g_tv (ha : a C e h = .ok (.bl bb) h1) : tV a C e h = .ok bb h1 := by unfold tV; rw [ha]; rfl
theorem g_tan (ha : t C e h = .ok bb h1) (hb : (if bb = true then u C e h1 else .ok false h1) = rb) : tAn t u C e h = rb := by unfold tAn; rw [ha]; exact hb
theorem g_tor (ha : t C e h = .ok bb h1) (hb : (if bb = true then .ok true h1 else u C e h1) = rb) : tOr t u C e h = rb := by unfold tOr; rw [ha]; exact hb
theorem g_tnt (ha : t C e h = .ok bb h1) : tNt t C e h = .ok (!bb) h1 := by unfold tNt; rw [ha]; rfl
theorem g_ean (ha : a C e h = .ok (.bl bb) h1) (hb : (if bb = true then b C e h1 else .ok (.bl false) h1) = r) : eAn a b C e h = r := by unfold eAn; rw [ha]; exact hb
theorem g_eor (ha : a C e h = .ok (.bl bb) h1) (hb : (if bb = true then .ok (.bl true) h1 else b C e h1) = r) : eOr a b C e h = r := by unfold eOr; rw [ha]; exact hb
theorem g_ent (ha : a C e h = .ok (.bl bb) h1) : eNt a C e h = .ok (.bl (!bb)) h1 := by unfold eNt; rw [ha]; rfl
theorem g_eif (ha : t C e h = .ok bb h1) (hb : (if bb = true then a C e h1 else b C e h1) = r) : eIf t a b C e h = r := by unfold eIf; rw [ha]; exact hb
theorem g_iftt {α : Type} {m n r : α} (k : m = r) : (if true = true then m else n) = r := k
theorem g_iffn {α : Type} {m n r : α} (k : m = r) : (if (!false) = true then m else n) = r := k
theorem g_ifff {α : Type} {m n r : α} (k : n = r) : (if false = true then m else n) = r := k
theorem g_iftn {α : Type} {m n r : α} (k : n = r) : (if (!true) = true then m else n) = r := k
theorem g_ift {α : Type} {c : Prop} [Decidable c] {m n r : α} (l : c) (k : m = r) : (if decide c = true then m else n) = r := by rw [if_pos (decide_eq_true l)]; exact k
theorem g_iff {α : Type} {c : Prop} [Decidable c] {m n r : α} (l : ¬ c) (k : n = r) : (if decide c = true then m else n) = r := by rw [if_neg (by simpa using l)]; exact k
theorem g_ifnt {α : Type} {c : Prop} [Decidable c] {m n r : α} (l : ¬ c) (k : m = r) : (if (!decide c) = true then m else n) = r := by rw [if_pos (by simpa using l)]; exact k
theorem g_ifnf {α : Type} {c : Prop} [Decidable c] {m n r : α} (l : c) (k : n = r) : (if (!decide c) = true then m else n) = r := by rw [if_neg (by simpa using l)]; exact k
theorem g_an : aN C e h = .ok [] h := rfl
theorem g_ac (ha : a C e h = .ok x h1) (hb : as C e h1 = .ok xs h2) : aC a as C e h = .ok (x :: xs) h2 := by unfold aC; rw [ha]; simp only [R.bind_ok]; rw [hb]; rfl
theorem g_call {f : Nat} (ha : as C e h = .ok xs h1) (hc : C.call f xs h1 = r) : eCall f as [] C e h = r := by unfold eCall; rw [ha]; simp only [R.bind_ok, List.append_nil]; exact hc
theorem g_calld {f : Nat} (ha : as C e h = .ok xs h1) (hx : xs ++ ds = ys) (hc : C.call f ys h1 = r) : eCall f as ds C e h = r := by unfold eCall; rw [ha]; simp only [R.bind_ok]; rw [hx]; exact hc
theorem g_ap0 : ([] : List D) ++ ds = ds := rfl
theorem g_apS (k : xs ++ ds = ys) : (x :: xs) ++ ds = x :: ys := by rw [← k]; rfl
theorem g_bf {f : List D → HP → R D} (ha : as C e h = .ok xs h1) (hc : f xs h1 = r) : eBf f as C e h = r := by unfold eBf; rw [ha]; exact hc
theorem g_tup (ha : as C e h = .ok xs h1) (l : xs.length ≤ sizeLine) : eTup as C e h = .ok (.tup xs) h1 := by unfold eTup; rw [ha]; simp only [R.bind_ok]; rw [if_pos l]
theorem g_lst (ha : as C e h = .ok xs h1) (l : xs.length ≤ sizeLine) : eLst as C e h = .ok (.ref h1.length) (h1 ++ [.lst xs]) := by unfold eLst; rw [ha]; simp only [R.bind_ok]; rw [if_pos l]
theorem g_max : bMax [.int p, .int q] h = .ok (.int (max p q)) h := by
  simp only [bMax]
  congr 2
  split <;> omega
theorem g_max3 {k : Int} : bMax [.int p, .int q, .int k] h = .ok (.int (max (max p q) k)) h := by
  simp only [bMax]
  congr 2
  split <;> split <;> omega
theorem g_min : bMin [.int p, .int q] h = .ok (.int (min p q)) h := by
  simp only [bMin]
  congr 2
  split <;> omega
theorem g_intb : bInt [.bl bb] h = .ok (.int (if bb then 1 else 0)) h := rfl
theorem g_ixl {ks : List D} {j : Nat} {k : Int} (l : h[j]? = some (.lst ks)) (k0 : 0 ≤ k) (m : ks[k.toNat]? = some d) : opIx (.ref j) (.int k) h = .ok d h := by
  have hk : k.toNat < ks.length := (List.getElem?_eq_some_iff.mp m).1
  have e1 : atI ks k = some d := by
    have z : ixN ks.length k = some k.toNat := by unfold ixN; rw [if_pos k0, if_pos (by omega)]
    unfold atI; rw [z]; exact m
  simp only [opIx, l, isL, e1]
theorem g_ixz {ks : List D} {j : Nat} {k : Int} (l : h[j]? = some (.fz ks)) (k0 : 0 ≤ k) (m : ks[k.toNat]? = some d) : opIx (.ref j) (.int k) h = .ok d h := by
  have hk : k.toNat < ks.length := (List.getElem?_eq_some_iff.mp m).1
  have e1 : atI ks k = some d := by
    have z : ixN ks.length k = some k.toNat := by unfold ixN; rw [if_pos k0, if_pos (by omega)]
    unfold atI; rw [z]; exact m
  simp only [opIx, l, isL, e1]
theorem g_ixt {ks : List D} {k : Int} (k0 : 0 ≤ k) (m : ks[k.toNat]? = some d) : opIx (.tup ks) (.int k) h = .ok d h := by
  have hk : k.toNat < ks.length := (List.getElem?_eq_some_iff.mp m).1
  have e1 : atI ks k = some d := by
    have z : ixN ks.length k = some k.toNat := by unfold ixN; rw [if_pos k0, if_pos (by omega)]
    unfold atI; rw [z]; exact m
  simp only [opIx, e1]
theorem g_gn0 {o : Option D} : gN 0 (o :: e) d = some (some d :: e) := rfl
theorem g_gns {o : Option D} (k : gN i e d = some e1) : gN (i + 1) (o :: e) d = some (o :: e1) := by
  simp only [gN, Option.some.injEq] at k
  rw [← k]; rfl
theorem g_gt2 {j : Nat} (k : gN i e x = some e1) (k2 : gN j e1 y = some e2) : gT [i, j] e (.tup [x, y]) = some e2 := by
  simp only [gN, Option.some.injEq] at k k2
  rw [← k2, ← k]; rfl
theorem g_gt3 {j k' : Nat} {e3 : Ev} (k : gN i e x = some e1) (k2 : gN j e1 y = some e2) (k3 : gN k' e2 z = some e3) : gT [i, j, k'] e (.tup [x, y, z]) = some e3 := by
  simp only [gN, Option.some.injEq] at k k2 k3
  rw [← k3, ← k2, ← k]; rfl
theorem g_as (ha : a C e h = .ok d h1) (hg : g e d = some e1) : sAs g a C e h = .ok (.nx e1) h1 := by unfold sAs; rw [ha]; simp only [R.bind_ok]; rw [hg]
theorem g_pr {j : Nat} (ha : a C e h = .ok x h1) (hb : b C e h1 = .ok y h2) (k : gN i e x = some e1) (k2 : gN j e1 y = some e2) : sPr i j a b C e h = .ok (.nx e2) h2 := by
  simp only [gN, Option.some.injEq] at k k2
  unfold sPr; rw [ha]; simp only [R.bind_ok]; rw [hb, ← k2, ← k]; rfl
theorem g_au (l : e[i]? = some (some x)) (ha : a C e h = .ok y h1) (ho : op x y h1 = .ok z h2) (k : gN i e z = some e1) : sAu i op a C e h = .ok (.nx e1) h2 := by
  simp only [gN, Option.some.injEq] at k
  unfold sAu; rw [l]; simp only; rw [ha]; simp only [R.bind_ok]; rw [ho, ← k]; rfl
theorem g_rt (ha : a C e h = .ok d h1) : sRt a C e h = .ok (.rt d) h1 := by unfold sRt; rw [ha]; rfl
theorem g_rn : sRN C e h = .ok (.rt .non) h := rfl
theorem g_ex (ha : a C e h = .ok d h1) : sEx a C e h = .ok (.nx e) h1 := by unfold sEx; rw [ha]; rfl
theorem g_if (ha : t C e h = .ok bb h1) (hb : (if bb = true then s C e h1 else w C e h1) = rs) : sIf t s w C e h = rs := by unfold sIf; rw [ha]; exact hb
theorem g_sk : sSk C e h = .ok (.nx e) h := rfl
theorem g_bk : sBk C e h = .ok (.bk e) h := rfl
theorem g_ct : sCt C e h = .ok (.ct e) h := rfl
def sqK (f : FL) (w : MS) (C : Ctx) (h : HP) : R FL := match f with
  | .nx e => w C e h
  | f => .ok f h
theorem g_sq {f : FL} (ha : s C e h = .ok f h1) (hb : sqK f w C h1 = rs) : sSq s w C e h = rs := by
  unfold sSq; rw [ha]; exact hb
theorem g_kn (k : w C e h = rs) : sqK (.nx e) w C h = rs := k
theorem g_kr : sqK (.rt d) w C h = .ok (.rt d) h := rfl
theorem g_kb : sqK (.bk e) w C h = .ok (.bk e) h := rfl
theorem g_kc : sqK (.ct e) w C h = .ok (.ct e) h := rfl
theorem run_rt {np nn : Nat} {m : MS} (l : ds.length = np) {e' : Ev} (l2 : ds.map some ++ List.replicate (nn - ds.length) none = e') (k : m C e' h = .ok (.rt d) h1) : runFn C ⟨np, nn, m⟩ ds h = .ok d h1 := by
  unfold runFn; rw [if_pos l, l2]; simp only; rw [k]; rfl
theorem run_nx {np nn : Nat} {m : MS} (l : ds.length = np) {e' : Ev} (l2 : ds.map some ++ List.replicate (nn - ds.length) none = e') (k : m C e' h = .ok (.nx e1) h1) : runFn C ⟨np, nn, m⟩ ds h = .ok .non h1 := by
  unfold runFn; rw [if_pos l, l2]; simp only; rw [k]; rfl
theorem turn_of {P : Ev → Prop} (q : g e d = some e1) (k : P e1) : ∃ e1, g e d = some e1 ∧ P e1 := ⟨e1, q, k⟩
theorem body_nx {P : Ev → HP → Prop} (q : s C e h = .ok (.nx e2) h2) (p : P e2 h2) : ∃ e2 h2, (s C e h = .ok (.nx e2) h2 ∨ s C e h = .ok (.ct e2) h2) ∧ P e2 h2 := ⟨_, _, .inl q, p⟩
theorem body_ct {P : Ev → HP → Prop} (q : s C e h = .ok (.ct e2) h2) (p : P e2 h2) : ∃ e2 h2, (s C e h = .ok (.nx e2) h2 ∨ s C e h = .ok (.ct e2) h2) ∧ P e2 h2 := ⟨_, _, .inr q, p⟩
end
theorem g_divn {p q : Int} {h : HP} (l : divOk q = true) : opDiv (.int p) (.int q) h = .ok (.int (p.fdiv q)) h := by simp only [opDiv, l, if_true]
theorem g_ixn {xs : List D} {d : D} {k : Int} {h : HP} (k0 : 0 ≤ k) (m : xs[k.toNat]? = some d) : opIx (.ref h.length) (.int k) (h ++ [.lst xs]) = .ok d (h ++ [.lst xs]) := g_ixl (by rw [List.getElem?_append_right (Nat.le_refl _)]; simp) k0 m
theorem g_pow {p q : Int} {h : HP} (l : 0 ≤ q ∧ q ≤ 1000000 ∧ p.natAbs < 2 ^ 64) : opPow (.int p) (.int q) h = .ok (.int (p ^ q.toNat)) h := by simp only [opPow]; rw [if_pos l]
theorem g_isint {C : Ctx} {e : Ev} {h h1 : HP} {a : ME} {p : Int} {T : String} (ha : a C e h = .ok (.int p) h1) : eIs T a C e h = .ok (.bl ("int" == T || ("int" == "bool" && T == "int"))) h1 := by unfold eIs; rw [ha]; rfl
theorem lenOk {α : Type} {xs : List α} (h : Nat.ble xs.length 1000 = true) : xs.length ≤ sizeLine := Nat.le_trans (Nat.le_of_ble_eq_true h) (by decide)
section
variable {C : Ctx} {e : Ev} {h h1 h2 h3 : HP} {a o : ME} {lo hi : MO} {as : MA} {x : D} {xs : List D} {l u : Option Int} {p : Int} {r : R D}
theorem g_on : oN C e h = .ok none h := rfl
theorem g_os (ha : a C e h = .ok (.int p) h1) : oS a C e h = .ok (some p) h1 := by unfold oS; rw [ha]; rfl
theorem g_sl {f : D → Option Int → Option Int → HP → R D} (ha : a C e h = .ok x h1) (hl : lo C e h1 = .ok l h2) (hu : hi C e h2 = .ok u h3) (hf : f x l u h3 = r) : eSl f a lo hi C e h = r := by
  unfold eSl; rw [ha]; simp only [R.bind_ok]; rw [hl]; simp only [R.bind_ok]; rw [hu]; exact hf
theorem g_bkm {ok : D → HP → Bool} {f : D → List D → HP → R D} (ho : o C e h = .ok x h1) (hk : ok x h1 = true) (ha : as C e h1 = .ok xs h2) (hf : f x xs h2 = r) : eBk ok f o as C e h = r := by
  unfold eBk; rw [ho]; simp only [R.bind_ok]; rw [if_pos hk, ha]; exact hf
theorem g_okS {z : Str} : okS (.str z) h = true := rfl
theorem g_okL {i : Nat} {ds : List D} (k : isL i h = some ds) : okL (.ref i) h = true := by unfold okL; simp only [k]; rfl
theorem isL_of {i : Nat} {ds : List D} (k : h[i]? = some (.lst ds)) : isL i h = some ds := by unfold isL; rw [k]
theorem isL_fz {i : Nat} {ds : List D} (k : h[i]? = some (.fz ds)) : isL i h = some ds := by unfold isL; rw [k]
theorem isL_new {ds : List D} : isL h.length (h ++ [.lst ds]) = some ds := isL_of (by rw [List.getElem?_append_right (Nat.le_refl _)]; simp)
theorem g_slL {i : Nat} {ds : List D} (k : isL i h = some ds) : opSl (.ref i) l u h = .ok (.ref h.length) (h ++ [.lst (cutD ds l u)]) := by unfold opSl; simp only [k]
theorem g_lenL {i : Nat} {ds : List D} (k : h[i]? = some (.lst ds)) : bLen [.ref i] h = .ok (.int ds.length) h := by unfold bLen; simp only [k, isL]
theorem g_sumL {i : Nat} {ns : List Int} (k : isL i h = some (ns.map D.int)) : bSum [.ref i] h = .ok (.int ns.sum) h := by unfold bSum; simp only [k, intsD_ints]
theorem g_cnt {i : Nat} {ns : List Int} (k : isL i h = some (ns.map D.int)) : mCnt (.ref i) [.int p] h = .ok (.int (ns.count p : Nat)) h := by unfold mCnt; simp only [k, intsD_ints]
/-- [.. for .. in ..], no test, nothing new in the heap -/
theorem cmp_all {it : Itr} {g : Tg} {n : Nat} {e0 : Ev} (ds out : Nat → D) (hi : ∀ j, j < n → it j h = some (some (ds j))) (hd : it n h = some none) (hs : ∀ j, j < n → ∃ e1, g e0 (ds j) = some e1 ∧ a C e1 h = .ok (out j) h) (hn : n ≤ sizeLine) :
    ∀ (m j : Nat) (acc : List D), j + m = n → acc = (List.range j).map out → ∀ fuel, m < fuel → cmpN it g tY a e0 C fuel j acc h = .ok ((List.range n).map out) h
  | 0, j, acc, hj, ha, fuel, hf => by
    obtain ⟨f, rfl⟩ : ∃ f, fuel = f + 1 := ⟨fuel - 1, by omega⟩
    have : j = n := by omega
    subst this
    simp only [cmpN, hd, ha]
  | m + 1, j, acc, hj, ha, fuel, hf => by
    obtain ⟨f, rfl⟩ : ∃ f, fuel = f + 1 := ⟨fuel - 1, by omega⟩
    obtain ⟨e1, g1, q⟩ := hs j (by omega)
    have hl : acc.length < sizeLine := by rw [ha, List.length_map, List.length_range]; omega
    simp only [cmpN, hi j (by omega), g1, tY, R.bind_ok, if_true, q, hl]
    exact cmp_all ds out hi hd hs hn m (j + 1) _ (by omega) (by rw [ha, List.range_succ, List.map_append]; rfl) f (by omega)
theorem lc_of {vs : List Nat} {g : Tg} {mi : MI} {t : MT} {it : Itr} {ys : List D} (hi : mi C e h = .ok it h1) (hc : cmpN it g t a (wipeE e vs) C C.fuel 0 [] h1 = .ok ys h2) : eLc vs g mi t a C e h = .ok (.ref h2.length) (h2 ++ [.lst ys]) := by
  unfold eLc; rw [hi]; simp only [R.bind_ok]; rw [hc]; rfl
end
theorem g_eqr {p : Int} {h : HP} : opEq (.int p) (.int p) h = .ok (.bl true) h := by rw [g_eq, decide_eq_true rfl]
theorem g_ner {p : Int} {h : HP} : opNe (.int p) (.int p) h = .ok (.bl false) h := by rw [g_ne]; simp
theorem g_ixm1 {h : HP} {ks : List D} {d : D} {j : Nat} (l : h[j]? = some (.lst ks)) (m : ks[ks.length - 1]? = some d) : opIx (.ref j) (.int (-1)) h = .ok d h := by
  have hk : ks.length - 1 < ks.length := (List.getElem?_eq_some_iff.mp m).1
  have e1 : atI ks (-1) = some d := by
    have z : ixN ks.length (-1) = some (ks.length - 1) := by
      unfold ixN
      rw [if_neg (by omega), if_pos (by omega)]
      congr 1
      omega
    unfold atI; rw [z]; exact m
  simp only [opIx, l, isL, e1]
section
variable {h : HP} {xs : List D} {y : D}
theorem g_app_new (l : xs.length < sizeLine) : mApp (.ref h.length) [y] (h ++ [.lst xs]) = .ok .non (h ++ [.lst (xs ++ [y])]) := by
  have e : (h ++ [O.lst xs])[h.length]? = some (.lst xs) := by rw [List.getElem?_append_right (Nat.le_refl _)]; simp
  unfold mApp
  simp only [e, if_pos l]
  congr 1
  rw [List.set_append_right _ _ (Nat.le_refl _)]
  simp
theorem g_okL_new : okL (.ref h.length) (h ++ [.lst xs]) = true := g_okL isL_new
end
/-! the script's cells, numbers made of them -/
def cellAt (ns : List Int) (k : Nat) : Int := ns.getD k 0
theorem cell_lt {ns : List Int} {a : Nat} (h : ∀ z ∈ ns, Builtin.Int.intBits z ≤ a) (k : Nat) : Lt2 (cellAt ns k) a := by
  unfold cellAt
  rw [List.getD_eq_getElem?_getD]
  cases e : ns[k]? with
  | none => exact ⟨by simp; exact Nat.pos_of_ne_zero (by simp)⟩
  | some z => exact Lt2.of_bits (h z (List.mem_of_getElem? e))
/-! lists of whole numbers -/
theorem cut_int (ns : List Int) (lo hi : Option Int) : ∃ zs : List Int, cutD (ns.map D.int) lo hi = zs.map D.int ∧ (∀ z ∈ zs, z ∈ ns) ∧ zs.length ≤ ns.length := by
  refine ⟨(ns.drop (HT.sIx (ns.map D.int).length 0 lo)).take (HT.sIx (ns.map D.int).length (ns.map D.int).length hi - HT.sIx (ns.map D.int).length 0 lo), ?_, ?_, ?_⟩
  · unfold cutD
    rw [List.map_take, List.map_drop]
  · exact fun z hz => List.mem_of_mem_drop (List.mem_of_mem_take hz)
  · rw [List.length_take, List.length_drop]; omega
theorem for_ints {C : Ctx} {g : Tg} {b : MS} {i : Nat} {zs : List Int} (Pv : Nat → Ev → HP → Prop) (hl : ∀ j e h, Pv j e h → h[i]? = some (.lst (zs.map D.int)))
    (hs : ∀ j z e h, zs[j]? = some z → Pv j e h → ∃ e1, g e (.int z) = some e1 ∧ ∃ e2 h2, (b C e1 h = .ok (.nx e2) h2 ∨ b C e1 h = .ok (.ct e2) h2) ∧ Pv (j + 1) e2 h2) {e : Ev} {h : HP} (p : Pv 0 e h) {fuel : Nat} (hf : zs.length < fuel) :
    ∃ e2 h2, forN (itL i) g b fuel 0 C e h = .ok (.nx e2) h2 ∧ Pv zs.length e2 h2 := by
  refine for_go (n := zs.length) (fun j => .int (zs.getD j 0)) Pv (fun j e h hj p => ?_) (fun e h p => ?_) (fun j e h hj p => ?_) zs.length 0 e h (by omega) p fuel hf
  · simp only [itL, hl j e h p]
    rw [List.getElem?_map, List.getElem?_eq_getElem hj, List.getD_eq_getElem?_getD, List.getElem?_eq_getElem hj]
    rfl
  · simp only [itL, hl _ e h p]
    rw [List.getElem?_eq_none (by simp)]
  · have hz : zs[j]? = some (zs.getD j 0) := by rw [List.getD_eq_getElem?_getD, List.getElem?_eq_getElem hj]; rfl
    exact hs j _ e h hz p
theorem get_app {h t : HP} {i : Nat} {o : O} (q : h[i]? = some o) : (h ++ t)[i]? = some o := by
  rw [List.getElem?_append_left (List.getElem?_eq_some_iff.mp q).1]; exact q
theorem cut_take {α : Type} (xs : List D) (m : Int) (h0 : 0 ≤ m) (h1 : m.toNat ≤ xs.length) : cutD xs none (some m) = xs.take m.toNat := by
  obtain ⟨k, rfl⟩ : ∃ k : Nat, m = k := ⟨m.toNat, by omega⟩
  rw [Int.toNat_natCast] at h1 ⊢
  unfold cutD
  rw [HT.sIx_none, HT.sIx_nat, Nat.min_eq_left h1]
  simp
theorem cut_any {α : Type} (xs : List D) (lo hi : Option Int) : (∀ d ∈ cutD xs lo hi, d ∈ xs) ∧ (cutD xs lo hi).length ≤ xs.length := by
  unfold cutD
  refine ⟨fun z hz => List.mem_of_mem_drop (List.mem_of_mem_take hz), ?_⟩
  rw [List.length_take, List.length_drop]; omega
/-- a comprehension whose heap grows -/
theorem cmp_grow {it : Itr} {g : Tg} {n : Nat} {e0 : Ev} {C : Ctx} {a : ME} (ds : Nat → D) (Pv : HP → Prop) (Qo : D → Prop) (hi : ∀ j h, j < n → Pv h → it j h = some (some (ds j))) (hd : ∀ h, Pv h → it n h = some none)
    (hs : ∀ j h, j < n → Pv h → ∃ e1, g e0 (ds j) = some e1 ∧ ∃ o h2, a C e1 h = .ok o h2 ∧ Pv h2 ∧ Qo o) (hn : n ≤ sizeLine) :
    ∀ (m j : Nat) (acc : List D) (h : HP), j + m = n → acc.length = j → (∀ o ∈ acc, Qo o) → Pv h → ∀ fuel, m < fuel → ∃ ys h2, cmpN it g tY a e0 C fuel j acc h = .ok ys h2 ∧ ys.length = n ∧ (∀ o ∈ ys, Qo o) ∧ Pv h2
  | 0, j, acc, h, hj, ha, hq, p, fuel, hf => by
    obtain ⟨f, rfl⟩ : ∃ f, fuel = f + 1 := ⟨fuel - 1, by omega⟩
    have : j = n := by omega
    subst this
    exact ⟨acc, h, by simp only [cmpN, hd h p], ha, hq, p⟩
  | m + 1, j, acc, h, hj, ha, hq, p, fuel, hf => by
    obtain ⟨f, rfl⟩ : ∃ f, fuel = f + 1 := ⟨fuel - 1, by omega⟩
    obtain ⟨e1, g1, o, h2, q, p2, qo⟩ := hs j h (by omega) p
    have hl : acc.length < sizeLine := by omega
    obtain ⟨ys, h3, r, r2⟩ := cmp_grow (C := C) (a := a) ds Pv Qo hi hd hs hn m (j + 1) (acc ++ [o]) h2 (by omega) (by rw [List.length_append]; simp [ha]) (fun w hw => by
      rcases List.mem_append.mp hw with q | q
      · exact hq w q
      · rw [List.mem_singleton.mp q]; exact qo) p2 f (by omega)
    refine ⟨ys, h3, ?_, r2⟩
    simp only [cmpN, hi j h (by omega) p, g1, tY, R.bind_ok, if_true, q, hl]
    exact r
/-! texts -/
def ch (z : Str) (i : Int) : Str := ⟨#[z.cps.toList.getD i.toNat 0]⟩
theorem len_cps (z : Str) : z.cps.toList.length = z.length := Array.length_toList
theorem g_ixs {z : Str} {i : Int} {h : HP} (l : z.length ≤ 1000000) (h0 : 0 ≤ i) (h1 : i < z.length) : opIx (.str z) (.int i) h = .ok (.str (ch z i)) h := by
  have e1 : atI z.cps.toList i = some (z.cps.toList.getD i.toNat 0) := by
    have q : ixN z.cps.toList.length i = some i.toNat := by
      unfold ixN
      rw [len_cps, if_pos h0, if_pos h1]
    unfold atI
    rw [q]
    show z.cps.toList[i.toNat]? = _
    rw [List.getD_eq_getElem?_getD, List.getElem?_eq_getElem (by rw [len_cps]; omega)]
    rfl
  have l2 : z.length ≤ sizeLine := by rw [sizeLine_eq]; omega
  simp only [opIx, if_pos l2, e1, ch]
theorem ch_len (z : Str) (i : Int) : (ch z i).length = 1 := rfl
theorem g_lenS {z : Str} {h : HP} (l : z.length ≤ 1000000) : bLen [.str z] h = .ok (.int z.length) h := by
  have l2 : z.length ≤ sizeLine := by rw [sizeLine_eq]; omega
  simp only [bLen, if_pos l2]
theorem g_slS {z : Str} {a b : Option Int} {h : HP} (l : z.length ≤ 1000000) : opSl (.str z) a b h = .ok (.str (cutS z a b)) h := by
  have l2 : z.length ≤ sizeLine := by rw [sizeLine_eq]; omega
  simp only [opSl, if_pos l2]
theorem cutS_len (z : Str) (a b : Option Int) : (cutS z a b).length ≤ z.length := by
  unfold cutS
  show (List.toArray _).size ≤ _
  rw [List.size_toArray, List.length_take, List.length_drop, len_cps]
  omega
theorem app_len (a b : Str) : (a ++ b).length = a.length + b.length := by
  show (a.cps ++ b.cps).size = _
  rw [Array.size_append]; rfl
theorem g_addS {a b : Str} {h : HP} (l : a.length + b.length ≤ 1000000) : opAdd (.str a) (.str b) h = .ok (.str (a ++ b)) h := by
  have l2 : a.length + b.length ≤ sizeLine := by rw [sizeLine_eq]; omega
  simp only [opAdd, if_pos l2]
theorem join_len (glue : Str) : ∀ (ys : List Str) (a : Array Nat), (ys.foldl (fun acc p => acc ++ glue.cps ++ p.cps) a).size = a.size + (ys.map (·.length)).sum + ys.length * glue.length
  | [], a => by simp
  | y :: ys, a => by
    rw [List.foldl_cons, join_len glue ys, Array.size_append, Array.size_append, List.map_cons, List.sum_cons, List.length_cons, Nat.add_mul]
    show a.size + glue.length + y.length + _ + _ = _
    omega
theorem txtjoin_len (glue : Str) (ys : List Str) : (Txt.join glue ys).length ≤ (ys.map (·.length)).sum + ys.length * glue.length := by
  show (Array.size _) ≤ _
  cases ys with
  | nil => exact Nat.zero_le _
  | cons y ys =>
    show ((List.foldl (fun acc p => acc ++ glue.cps ++ p.cps) y.cps ys)).size ≤ _
    rw [join_len, List.map_cons, List.sum_cons, List.length_cons, Nat.add_mul]
    show y.length + _ + _ ≤ _
    omega
theorem g_join {a : Str} {i : Nat} {ys : List Str} {h : HP} (k : isL i h = some (ys.map D.str)) (l : (ys.map (·.length)).sum + ys.length * a.length ≤ 16777216) : mJoin (.str a) [.ref i] h = .ok (.str (Txt.join a ys)) h := by
  unfold mJoin; simp only [k, strsD_strs, if_pos l]
theorem g_nin1 {c : Nat} {z : Str} {h : HP} : opNin (.str ⟨#[c]⟩) (.str z) h = .ok (.bl (!decide (c ∈ z.cps.toList))) h := rfl
/-- for sign in text: goes on where p, ends with d else -/
theorem for_text {t : Str} {E : Option D → Ev} {g : Tg} {b : MS} {C : Ctx} {h : HP} {d : D} (p : Nat → Bool) (hg : ∀ x y, g (E x) y = some (E (some y)))
    (hb : ∀ c, b C (E (some (.str ⟨#[c]⟩))) h = if p c = true then .ok (.nx (E (some (.str ⟨#[c]⟩)))) h else .ok (.rt d) h) :
    ∀ (m j : Nat) (x : Option D), j + m = t.length → ∀ fuel, m < fuel → (if (t.cps.toList.drop j).all p = true then ∃ y, forN (itS t) g b fuel j C (E x) h = .ok (.nx (E y)) h else forN (itS t) g b fuel j C (E x) h = .ok (.rt d) h)
  | 0, j, x, hj, fuel, hf => by
    obtain ⟨f, rfl⟩ : ∃ f, fuel = f + 1 := ⟨fuel - 1, by omega⟩
    have e1 : t.cps.toList.drop j = [] := List.drop_eq_nil_of_le (by rw [len_cps]; omega)
    have e2 : t.cps[j]? = none := Array.getElem?_eq_none (by show t.length ≤ j; omega)
    rw [e1]
    refine ⟨x, ?_⟩
    simp only [forN, itS, e2, Option.map_none]
  | m + 1, j, x, hj, fuel, hf => by
    obtain ⟨f, rfl⟩ : ∃ f, fuel = f + 1 := ⟨fuel - 1, by omega⟩
    have hl : j < t.cps.toList.length := by rw [len_cps]; omega
    have e2 : t.cps[j]? = some (t.cps.toList[j]) := by rw [← Array.getElem?_toList, List.getElem?_eq_getElem hl]
    have e1 : t.cps.toList.drop j = t.cps.toList[j] :: t.cps.toList.drop (j + 1) := List.drop_eq_getElem_cons hl
    rw [e1, List.all_cons]
    generalize t.cps.toList[j] = c at *
    have ih := for_text (t := t) (d := d) p hg hb m (j + 1) (some (.str ⟨#[c]⟩)) (by omega) f (by omega)
    have hbc := hb c
    simp only [forN, itS, e2, Option.map_some, hg]
    by_cases hp : p c = true
    · rw [if_pos hp] at hbc
      simp only [hbc, R.bind_ok, hp, Bool.true_and]
      exact ih
    · rw [if_neg hp] at hbc
      simp [hbc, hp]
/-! _law_window, _law_number, _law_names -/
abbrev ONE : Str := "1"
abbrev NUL : Str := "0"
theorem pow_text : ∀ k : Fin 19, PySem.intText? (ONE ++ Txt.mul NUL ((k.val : Nat) : Int)) = some ((10 : Int) ^ k.val) ∧ (ONE ++ Txt.mul NUL ((k.val : Nat) : Int)).length ≤ 20 ∧ (Txt.mul NUL ((k.val : Nat) : Int)).length ≤ 20 := by decide +kernel
theorem g_mulS {a : Str} {k : Int} {h : HP} (h1 : a.length ≤ 1000) (h2 : k.natAbs ≤ 1000) : opMul (.str a) (.int k) h = .ok (.str (Txt.mul a k)) h := by simp only [opMul, if_pos (And.intro h1 h2)]
/-! names -/
abbrev LETS : Str := "abcdefghijklmnopqrstuvwxyz"
theorem lets_len : LETS.length = 26 := by decide +kernel
theorem lets_at : ∀ k : Fin 26, LETS.cps.toList.getD k.val 0 = 97 + k.val := by decide +kernel
theorem join_low (ys : List Str) (hy : ∀ y ∈ ys, ∀ c ∈ y.cps.toList, 97 ≤ c ∧ c ≤ 122) : ∀ c ∈ (Txt.join "" ys).cps.toList, 97 ≤ c ∧ c ≤ 122 := by
  have go : ∀ (l : List Str) (a : Array Nat), (∀ y ∈ l, ∀ c ∈ y.cps.toList, 97 ≤ c ∧ c ≤ 122) → (∀ c ∈ a.toList, 97 ≤ c ∧ c ≤ 122) → ∀ c ∈ (l.foldl (fun acc p => acc ++ ("" : Str).cps ++ p.cps) a).toList, 97 ≤ c ∧ c ≤ 122 := by
    intro l
    induction l with
    | nil => intro a _ ha; exact ha
    | cons y l ih =>
      intro a hl ha
      refine ih _ (fun z hz => hl z (List.mem_cons_of_mem _ hz)) fun c hc => ?_
      have hc : c ∈ (a ++ ("" : Str).cps ++ y.cps).toList := hc
      have e0 : ("" : Str).cps = #[] := rfl
      rw [e0, Array.append_empty, Array.toList_append] at hc
      rcases List.mem_append.mp hc with q | q
      · exact ha c q
      · exact hl y (List.mem_cons_self ..) c q
  cases ys with
  | nil => intro c hc; cases hc
  | cons y ys => exact go ys y.cps (fun z hz => hy z (List.mem_cons_of_mem _ hz)) (hy y (List.mem_cons_self ..))
/-- two letters -/
def two (k : Nat) : Str := ch LETS ((k : Int) / 26) ++ ch LETS ((k : Int) % 26)
theorem ch_lets {i : Int} (h0 : 0 ≤ i) (h1 : i < 26) : ch LETS i = ⟨#[97 + i.toNat]⟩ := by
  unfold ch
  rw [lets_at ⟨i.toNat, by omega⟩]
theorem two_eq {k : Nat} (h : k < 676) : two k = ⟨#[97 + k / 26, 97 + k % 26]⟩ := by
  unfold two
  rw [ch_lets (by omega) (by omega), ch_lets (by omega) (by omega)]
  have e1 : ((k : Int) / 26).toNat = k / 26 := by omega
  have e2 : ((k : Int) % 26).toNat = k % 26 := by omega
  rw [e1, e2]; rfl
def lowS (x : Str) : Prop := ∀ c ∈ x.cps.toList, 97 ≤ c ∧ c ≤ 122
theorem lowS_app {a b : Str} (ha : lowS a) (hb : lowS b) : lowS (a ++ b) := by
  intro c hc
  have : (a ++ b).cps.toList = a.cps.toList ++ b.cps.toList := Array.toList_append
  rw [this] at hc
  rcases List.mem_append.mp hc with q | q
  · exact ha c q
  · exact hb c q
theorem lowS_cut {a : Str} (ha : lowS a) (x y : Option Int) : lowS (cutS a x y) := by
  intro c hc
  unfold cutS at hc
  rw [List.toList_toArray] at hc
  exact ha c (List.mem_of_mem_drop (List.mem_of_mem_take hc))
theorem lowS_two {k : Nat} (h : k < 676) : lowS (two k) := by
  rw [two_eq h]
  intro c hc
  simp only [List.mem_cons, List.not_mem_nil, or_false] at hc
  omega
/-- the k-th name -/
def nameV (base : Str) (at_ way : Int) (k : Nat) : Str := if way = 0 then cutS base none (some at_) ++ two k ++ cutS base (some at_) none else if way = 1 then two k ++ cutS base none (some ((k : Int) % ((base.length : Int) + 1))) else cutS (two k) (some (if (k : Int) < 26 then 1 else 0)) none
theorem cps_app (a b : Str) : (a ++ b).cps.toList = a.cps.toList ++ b.cps.toList := Array.toList_append
theorem two_cps {k : Nat} (h : k < 676) : (two k).cps.toList = [97 + k / 26, 97 + k % 26] := by rw [two_eq h]
theorem cut1 (x y : Nat) : (cutS ⟨#[x, y]⟩ (some 1) none).cps.toList = [y] := rfl
theorem cut0 (x y : Nat) : (cutS ⟨#[x, y]⟩ (some 0) none).cps.toList = [x, y] := rfl
theorem nameV_inj {base : Str} {at_ way : Int} {j k : Nat} (hj : j < 68) (hk : k < 68) (e : nameV base at_ way j = nameV base at_ way k) : j = k := by
  unfold nameV at e
  have e := congrArg (fun x : Str => x.cps.toList) e
  by_cases w0 : way = 0
  · rw [if_pos w0, if_pos w0, cps_app, cps_app, cps_app, cps_app] at e
    have e1 := List.append_cancel_right e
    have e2 := List.append_cancel_left e1
    rw [two_cps (by omega), two_cps (by omega)] at e2
    simp only [List.cons.injEq, and_true] at e2
    omega
  · rw [if_neg w0, if_neg w0] at e
    by_cases w1 : way = 1
    · rw [if_pos w1, if_pos w1, cps_app, cps_app, two_cps (by omega), two_cps (by omega)] at e
      simp only [List.cons_append, List.nil_append, List.cons.injEq] at e
      omega
    · rw [if_neg w1, if_neg w1, two_eq (by omega), two_eq (by omega)] at e
      by_cases c1 : (j : Int) < 26 <;> by_cases c2 : (k : Int) < 26
      · rw [if_pos c1, if_pos c2, cut1, cut1] at e
        simp only [List.cons.injEq, and_true] at e
        omega
      · rw [if_pos c1, if_neg c2, cut1, cut0] at e
        simp at e
      · rw [if_neg c1, if_pos c2, cut1, cut0] at e
        simp at e
      · rw [if_neg c1, if_neg c2, cut0, cut0] at e
        simp only [List.cons.injEq, and_true] at e
        omega
theorem nameV_low {base : Str} {at_ way : Int} {k : Nat} (hb : lowS base) (hk : k < 68) : lowS (nameV base at_ way k) := by
  unfold nameV
  split
  · exact lowS_app (lowS_app (lowS_cut hb _ _) (lowS_two (by omega))) (lowS_cut hb _ _)
  · split
    · exact lowS_app (lowS_two (by omega)) (lowS_cut hb _ _)
    · exact lowS_cut (lowS_two (by omega)) _ _
theorem cut_lens (z : Str) {a : Int} (h0 : 0 ≤ a) (h1 : a ≤ z.length) : (cutS z none (some a)).length + (cutS z (some a) none).length = z.length ∧ (cutS z none (some a)).length = a.toNat := by
  obtain ⟨k, rfl⟩ : ∃ k : Nat, a = k := ⟨a.toNat, by omega⟩
  unfold cutS
  have l1 : (⟨((z.cps.toList.drop (HT.sIx z.length 0 none)).take (HT.sIx z.length z.length (some (k : Int)) - HT.sIx z.length 0 none)).toArray⟩ : Str).length = k := by
    show (List.toArray _).size = _
    rw [List.size_toArray, HT.sIx_none, HT.sIx_nat, List.length_take, List.length_drop, len_cps]
    omega
  have l2 : (⟨((z.cps.toList.drop (HT.sIx z.length 0 (some (k : Int)))).take (HT.sIx z.length z.length none - HT.sIx z.length 0 (some (k : Int)))).toArray⟩ : Str).length = z.length - k := by
    show (List.toArray _).size = _
    rw [List.size_toArray, HT.sIx_none, HT.sIx_nat, List.length_take, List.length_drop, len_cps]
    omega
  rw [l1, l2]
  omega
theorem two_len {k : Nat} : (two k).length = 2 := rfl
theorem nameV_len {base : Str} {at_ way : Int} {k : Nat} (hb : base.length ≤ 6) (h0 : 0 ≤ at_) (h1 : at_ ≤ base.length) (hk : k < 68) : 1 ≤ (nameV base at_ way k).length ∧ (nameV base at_ way k).length ≤ 8 := by
  unfold nameV
  split
  · have := cut_lens base h0 h1
    rw [app_len, app_len, two_len]
    omega
  · split
    · have := cutS_len base none (some ((k : Int) % ((base.length : Int) + 1)))
      rw [app_len, two_len]
      omega
    · rw [two_eq (by omega)]
      split
      · have : (cutS ⟨#[97 + k / 26, 97 + k % 26]⟩ (some 1) none).length = 1 := rfl
        omega
      · have : (cutS ⟨#[97 + k / 26, 97 + k % 26]⟩ (some 0) none).length = 2 := rfl
        omega
/-- what a list of names keeps -/
structure NamesOk (N : List Str) : Prop where
  len : N.length = 68
  nodup : N.Nodup
  low : ∀ x ∈ N, lowS x ∧ 1 ≤ x.length ∧ x.length ≤ 8
theorem namesOk_of {base : Str} {at_ way : Int} (hl : lowS base) (hb : base.length ≤ 6) (h0 : 0 ≤ at_) (h1 : at_ ≤ base.length) : NamesOk ((List.range 68).map (nameV base at_ way)) := by
  refine ⟨by simp, ?_, fun x hx => ?_⟩
  · rw [List.Nodup, List.pairwise_map]
    refine List.Pairwise.imp_of_mem ?_ (List.nodup_range (n := 68))
    intro a b ha hb2 ne e
    exact ne (nameV_inj (List.mem_range.mp ha) (List.mem_range.mp hb2) e)
  · obtain ⟨k, hk, rfl⟩ := List.mem_map.mp hx
    have hk := List.mem_range.mp hk
    exact ⟨nameV_low hl hk, nameV_len hb h0 h1 hk⟩
theorem g_intb2 {p : Prop} [Decidable p] {h : HP} : bInt [.bl (decide p)] h = .ok (.int (if p then 1 else 0)) h := by
  simp [bInt]
/-! the drawn books -/
inductive Fm where
  | hold (b : Int) | ring (w : Str) (b : Int) | raise (l : Str) (t b : Int) | row (ns : List Str) | side (ns : List Str) | again (t : Int) (n : Str)
def Fm.d : Fm → D
  | .hold b => .tup [.str "hold", .int b]
  | .ring w b => .tup [.str "ring", .str w, .int b]
  | .raise l t b => .tup [.str "raise", .str l, .int t, .int b]
  | .row ns => .tup [.str "row", .tup (ns.map D.str)]
  | .side ns => .tup [.str "side", .tup (ns.map D.str)]
  | .again t n => .tup [.str "again", .int t, .str n]
def limbD (x : Str × Int) : D := .tup [.str x.1, .int x.2]
def partD (x : Str × Fm) : D := .tup [.str x.1, x.2.d]
structure Rm where
  N : List Str
  L : List (Str × Int)
  P : List (Str × Fm)
  Hd : List (List Int)
  Lg : List Int
def Rm.hdAt (R : Rm) (j : Nat) : List Int := R.Hd.getD j []
def Rm.lgAt (R : Rm) (j : Nat) : Int := R.Lg.getD j 0
def Rm.nmAt (R : Rm) (j : Nat) : Str := R.N.getD j ""
/-- a part more -/
def Rm.add (R : Rm) (f : Fm) (hs : List Int) (lg : Int) : Rm := { R with P := R.P ++ [(R.nmAt R.P.length, f)], Hd := R.Hd ++ [hs], Lg := R.Lg ++ [lg] }
/-- the numbers of the limbs that these parts move, rising -/
def Uni (R : Rm) (js : List Nat) (hs : List Int) : Prop := hs.Pairwise (· < ·) ∧ ∀ i, i ∈ hs ↔ ∃ j ∈ js, i ∈ R.hdAt j
def FmOk (R : Rm) (k : Nat) : Fm → List Int → Int → Prop
  | .hold b, hs, lg => 1 ≤ b ∧ b ≤ 10 ^ 18 ∧ hs = [] ∧ lg = b
  | .ring w b, hs, lg => w ∈ R.N ∧ 1 ≤ b ∧ b ≤ 10 ^ 18 ∧ hs = [] ∧ lg = b
  | .raise l t b, hs, lg => 0 ≤ t ∧ t ≤ 10 ^ 18 ∧ 1 ≤ b ∧ b ≤ 10 ^ 18 ∧ lg = b ∧ ∃ i : Nat, (∃ z, R.L[i]? = some (l, z)) ∧ hs = [(i : Int)]
  | .row ns, hs, lg => ∃ js : List Nat, 1 ≤ js.length ∧ js.length ≤ 8 ∧ (∀ j ∈ js, j < k) ∧ ns = js.map R.nmAt ∧ Uni R js hs ∧ lg = (js.map R.lgAt).sum
  | .side ns, hs, lg => ∃ js : List Nat, 2 ≤ js.length ∧ js.length ≤ 4 ∧ (∀ j ∈ js, j < k) ∧ ns = js.map R.nmAt ∧ Uni R js hs ∧ (∀ j ∈ js, R.hdAt j ≠ []) ∧ js.Pairwise (fun i j => ∀ x ∈ R.hdAt i, x ∉ R.hdAt j) ∧ maxL (js.map R.lgAt) = some lg
  | .again t n, hs, lg => ∃ j : Nat, j < k ∧ n = R.nmAt j ∧ hs = R.hdAt j ∧ lg = t * R.lgAt j ∧ 1 ≤ t ∧ t ≤ 10 ^ 18
structure Wf (R : Rm) : Prop where
  nm : NamesOk R.N
  l1 : 1 ≤ R.L.length ∧ R.L.length ≤ 8
  limb : ∀ x ∈ R.L, x.1 ∈ R.N ∧ 0 ≤ x.2 ∧ x.2 ≤ 10 ^ 18
  lnd : (R.L.map (·.1)).Nodup
  most : R.P.length ≤ 62
  hd : R.Hd.length = R.P.length
  lg : R.Lg.length = R.P.length
  names : ∀ k x, R.P[k]? = some x → x.1 = R.nmAt k
  form : ∀ k x, R.P[k]? = some x → FmOk R k x.2 (R.hdAt k) (R.lgAt k)
  lgb : ∀ k, k < R.P.length → 1 ≤ R.lgAt k ∧ R.lgAt k ≤ 10 ^ 60
  hdb : ∀ k, k < R.P.length → (R.hdAt k).Pairwise (· < ·) ∧ ∀ i ∈ R.hdAt k, 0 ≤ i ∧ i < R.L.length
theorem getD_app {α : Type} {xs ys : List α} {j : Nat} {d : α} (h : j < xs.length) : (xs ++ ys).getD j d = xs.getD j d := by
  rw [List.getD_eq_getElem?_getD, List.getD_eq_getElem?_getD, List.getElem?_append_left h]
theorem getD_new {α : Type} {xs : List α} {y d : α} : (xs ++ [y]).getD xs.length d = y := by
  rw [List.getD_eq_getElem?_getD, List.getElem?_append_right (Nat.le_refl _)]; simp
theorem add_ok {R : Rm} {f : Fm} {hs : List Int} {lg : Int} (w : Wf R) (hm : R.P.length < 62) (hf : FmOk R R.P.length f hs lg) (l1 : 1 ≤ lg ∧ lg ≤ 10 ^ 60) (h1 : hs.Pairwise (· < ·) ∧ ∀ i ∈ hs, 0 ≤ i ∧ i < R.L.length) : Wf (R.add f hs lg) := by
  have hdE : ∀ j, j < R.P.length → (R.add f hs lg).hdAt j = R.hdAt j := fun j hj => getD_app (by rw [w.hd]; exact hj)
  have lgE : ∀ j, j < R.P.length → (R.add f hs lg).lgAt j = R.lgAt j := fun j hj => getD_app (by rw [w.lg]; exact hj)
  have hdN : (R.add f hs lg).hdAt R.P.length = hs := by unfold Rm.hdAt Rm.add; simp only; rw [← w.hd]; exact getD_new
  have lgN : (R.add f hs lg).lgAt R.P.length = lg := by unfold Rm.lgAt Rm.add; simp only; rw [← w.lg]; exact getD_new
  have uni : ∀ {js : List Nat} {k : Nat} {us : List Int}, (∀ j ∈ js, j < k) → k ≤ R.P.length → Uni R js us → Uni (R.add f hs lg) js us := fun {js k us} hj hk ⟨u1, u2⟩ => ⟨u1, fun i => by
    rw [u2 i]
    constructor
    · rintro ⟨j, q1, q2⟩; exact ⟨j, q1, by rw [hdE j (by have := hj j q1; omega)]; exact q2⟩
    · rintro ⟨j, q1, q2⟩; exact ⟨j, q1, by rw [hdE j (by have := hj j q1; omega)] at q2; exact q2⟩⟩
  have lgs : ∀ {js : List Nat} {k : Nat}, (∀ j ∈ js, j < k) → k ≤ R.P.length → js.map (R.add f hs lg).lgAt = js.map R.lgAt := fun {js k} hj hk => List.map_congr_left fun j q => lgE j (by have := hj j q; omega)
  have fm : ∀ (k : Nat) (g : Fm) (us : List Int) (l : Int), k ≤ R.P.length → FmOk R k g us l → FmOk (R.add f hs lg) k g us l := fun k g us l hk q => by
    cases g with
    | hold b => exact q
    | ring w b => exact q
    | raise a t b => exact q
    | row ns =>
      obtain ⟨js, a1, a2, a3, a4, a5, a6⟩ := q
      exact ⟨js, a1, a2, a3, a4, uni a3 hk a5, by rw [lgs a3 hk]; exact a6⟩
    | side ns =>
      obtain ⟨js, a1, a2, a3, a4, a5, a6, a7, a8⟩ := q
      refine ⟨js, a1, a2, a3, a4, uni a3 hk a5, fun j hj => by rw [hdE j (by have := a3 j hj; omega)]; exact a6 j hj, ?_, by rw [lgs a3 hk]; exact a8⟩
      refine List.Pairwise.imp_of_mem (fun {x y} hx hy q => ?_) a7
      rw [hdE x (by have := a3 x hx; omega), hdE y (by have := a3 y hy; omega)]
      exact q
    | again t n =>
      obtain ⟨j, a1, a2, a3, a4, a5⟩ := q
      exact ⟨j, a1, a2, by rw [hdE j (by omega)]; exact a3, by rw [lgE j (by omega)]; exact a4, a5⟩
  have pget : ∀ k x, (R.add f hs lg).P[k]? = some x → (k < R.P.length ∧ R.P[k]? = some x) ∨ (k = R.P.length ∧ x = (R.nmAt R.P.length, f)) := fun k x q => by
    have q : (R.P ++ [(R.nmAt R.P.length, f)])[k]? = some x := q
    by_cases hk : k < R.P.length
    · rw [List.getElem?_append_left hk] at q; exact .inl ⟨hk, q⟩
    · rw [List.getElem?_append_right (by omega)] at q
      have : k - R.P.length = 0 := by
        cases z : k - R.P.length with
        | zero => rfl
        | succ n => rw [z] at q; simp at q
      rw [this] at q
      simp only [List.getElem?_cons_zero, Option.some.injEq] at q
      exact .inr ⟨by omega, q.symm⟩
  have plen : (R.add f hs lg).P.length = R.P.length + 1 := by simp [Rm.add]
  refine ⟨w.nm, w.l1, w.limb, w.lnd, by rw [plen]; omega, by rw [plen]; simp [Rm.add, w.hd], by rw [plen]; simp [Rm.add, w.lg], fun k x q => ?_, fun k x q => ?_, fun k hk => ?_, fun k hk => ?_⟩
  · rcases pget k x q with ⟨_, q⟩ | ⟨rfl, rfl⟩
    · exact w.names k x q
    · rfl
  · rcases pget k x q with ⟨hk, q⟩ | ⟨rfl, rfl⟩
    · rw [hdE k hk, lgE k hk]
      exact fm k _ _ _ (by omega) (w.form k x q)
    · rw [hdN, lgN]
      exact fm _ _ _ _ (Nat.le_refl _) hf
  · rw [plen] at hk
    by_cases q : k < R.P.length
    · rw [lgE k q]; exact w.lgb k q
    · have : k = R.P.length := by omega
      subst this
      rw [lgN]; exact l1
  · rw [plen] at hk
    by_cases q : k < R.P.length
    · rw [hdE k q]; exact w.hdb k q
    · have : k = R.P.length := by omega
      subst this
      rw [hdN]; exact h1
/-! the room in the heap -/
structure Ids where
  r : Nat
  n : Nat
  l : Nat
  p : Nat
  d : Nat
  g : Nat
def roomDic (I : Ids) : List (Key × D) := [(.inr "names", .ref I.n), (.inr "limbs", .ref I.l), (.inr "parts", .ref I.p), (.inr "hands", .ref I.d), (.inr "long", .ref I.g)]
structure RA (h : HP) (I : Ids) (refs : List Nat) (R : Rm) : Prop where
  dic : h[I.r]? = some (.dic (roomDic I))
  names : h[I.n]? = some (.lst (R.N.map D.str))
  limbs : h[I.l]? = some (.lst (R.L.map limbD))
  parts : h[I.p]? = some (.lst (R.P.map partD))
  hands : h[I.d]? = some (.lst (refs.map D.ref))
  long : h[I.g]? = some (.lst (R.Lg.map D.int))
  rl : refs.length = R.Hd.length
  each : ∀ (k i : Nat), refs[k]? = some i → h[i]? = some (.lst ((R.hdAt k).map D.int)) ∧ i ≠ I.p ∧ i ≠ I.d ∧ i ≠ I.g
  ne : I.p ≠ I.d ∧ I.p ≠ I.g ∧ I.d ≠ I.g ∧ I.r ≠ I.p ∧ I.r ≠ I.d ∧ I.r ≠ I.g ∧ I.n ≠ I.p ∧ I.n ≠ I.d ∧ I.n ≠ I.g ∧ I.l ≠ I.p ∧ I.l ≠ I.d ∧ I.l ≠ I.g
/-- what is kept: all but the parts, the hands, the lengths -/
def Fr (I : Ids) (h h' : HP) : Prop := ∀ i o, i ≠ I.p → i ≠ I.d → i ≠ I.g → h[i]? = some o → h'[i]? = some o
theorem Fr.app {I : Ids} {h t : HP} : Fr I h (h ++ t) := fun i o _ _ _ q => get_app q
theorem Fr.refl {I : Ids} {h : HP} : Fr I h h := fun _ _ _ _ _ q => q
theorem Fr.trans {I : Ids} {h h1 h2 : HP} (a : Fr I h h1) (b : Fr I h1 h2) : Fr I h h2 := fun i o x y z q => b i o x y z (a i o x y z q)
theorem RA.app {h t : HP} {I : Ids} {refs : List Nat} {R : Rm} (a : RA h I refs R) : RA (h ++ t) I refs R :=
  ⟨get_app a.dic, get_app a.names, get_app a.limbs, get_app a.parts, get_app a.hands, get_app a.long, a.rl, fun k i q => ⟨get_app (a.each k i q).1, (a.each k i q).2⟩, a.ne⟩
theorem g_ixd {h : HP} {r : Nat} {kvs : List (Key × D)} {s : Str} {d : D} (k : h[r]? = some (.dic kvs)) (v : valD kvs (.inr s) = some d) : opIx (.ref r) (.str s) h = .ok d h := by
  simp only [opIx, k, keyD, v]
theorem vd_names (I : Ids) : valD (roomDic I) (.inr "names") = some (.ref I.n) := rfl
theorem vd_limbs (I : Ids) : valD (roomDic I) (.inr "limbs") = some (.ref I.l) := rfl
theorem vd_parts (I : Ids) : valD (roomDic I) (.inr "parts") = some (.ref I.p) := rfl
theorem vd_hands (I : Ids) : valD (roomDic I) (.inr "hands") = some (.ref I.d) := rfl
theorem vd_long (I : Ids) : valD (roomDic I) (.inr "long") = some (.ref I.g) := rfl
section
variable {h : HP} {I : Ids} {refs : List Nat} {R : Rm} {C : Ctx}
theorem RA.iN (a : RA h I refs R) : opIx (.ref I.r) (.str "names") h = .ok (.ref I.n) h := g_ixd a.dic (vd_names I)
theorem RA.iL (a : RA h I refs R) : opIx (.ref I.r) (.str "limbs") h = .ok (.ref I.l) h := g_ixd a.dic (vd_limbs I)
theorem RA.iP (a : RA h I refs R) : opIx (.ref I.r) (.str "parts") h = .ok (.ref I.p) h := g_ixd a.dic (vd_parts I)
theorem RA.iD (a : RA h I refs R) : opIx (.ref I.r) (.str "hands") h = .ok (.ref I.d) h := g_ixd a.dic (vd_hands I)
theorem RA.iG (a : RA h I refs R) : opIx (.ref I.r) (.str "long") h = .ok (.ref I.g) h := g_ixd a.dic (vd_long I)
theorem RA.lenP (a : RA h I refs R) : bLen [.ref I.p] h = .ok (.int R.P.length) h := by rw [g_lenL a.parts, List.length_map]
theorem g_app {i : Nat} {xs : List D} {y : D} (k : h[i]? = some (.lst xs)) (l : xs.length < sizeLine) : mApp (.ref i) [y] h = .ok .non (h.set i (.lst (xs ++ [y]))) := by
  unfold mApp
  simp only [k, if_pos l]
theorem getset {h : HP} {i j : Nat} {o o' : O} (ne : j ≠ i) (q : h[j]? = some o) : (h.set i o')[j]? = some o := by rw [List.getElem?_set_ne (fun e => ne e.symm)]; exact q
theorem getset_same {h : HP} {i : Nat} {o o' : O} (q : h[i]? = some o) : (h.set i o')[i]? = some o' := by rw [List.getElem?_set_self (List.getElem?_eq_some_iff.mp q).1]
end
/-- the calls that the drawing of a book makes -/
structure Lib (C : Ctx) : Prop where
  window : ∀ (cell turn : Int) (h : HP), Lt2 cell 2000000 → 0 ≤ turn → turn ≤ 100 → ∃ v, Lt2 v 2000001 ∧ C.call 30 [.int cell, .int turn] h = .ok (.int v) h
  number : ∀ (cell mixed least : Int) (h : HP), Lt2 cell 3000000 → Lt2 mixed 3000000 → 0 ≤ mixed → 0 ≤ least → least ≤ 1 → ∃ v, least ≤ v ∧ v ≤ 10 ^ 18 ∧ C.call 32 [.int cell, .int mixed, .int least] h = .ok (.int v) h
  add : ∀ {h : HP} {I : Ids} {refs : List Nat} {R : Rm}, Wf R → R.P.length < 62 → RA h I refs R → ∀ (f : Fm) {i : Nat} {hs : List Int} (lg : Int), h[i]? = some (.lst (hs.map D.int)) → (i ≠ I.p ∧ i ≠ I.d ∧ i ≠ I.g) →
    ∃ h', C.call 33 [.ref I.r, f.d, .ref i, .int lg] h = .ok .non h' ∧ RA h' I (refs ++ [i]) (R.add f hs lg) ∧ Fr I h h'
/-- a list of drawn numbers -/
structure Drawn (h : HP) (q : Nat) (zs : List Int) (n : Nat) : Prop where
  at_ : h[q]? = some (.lst (zs.map D.int))
  len : zs.length = n
  nn : ∀ z ∈ zs, 0 ≤ z ∧ Lt2 z 2500000
theorem Drawn.get {h : HP} {q : Nat} {zs : List Int} {n : Nat} (d : Drawn h q zs n) {k : Int} (h0 : 0 ≤ k) (h1 : k < n) : opIx (.ref q) (.int k) h = .ok (.int (zs.getD k.toNat 0)) h ∧ 0 ≤ zs.getD k.toNat 0 ∧ Lt2 (zs.getD k.toNat 0) 2500000 := by
  have hl := d.len
  have e : zs[k.toNat]? = some (zs.getD k.toNat 0) := by rw [List.getD_eq_getElem?_getD, List.getElem?_eq_getElem (by omega)]; rfl
  refine ⟨g_ixl d.at_ h0 (by rw [List.getElem?_map, e]; rfl), d.nn _ (List.mem_of_getElem? e)⟩
theorem Drawn.keep {h h' : HP} {q : Nat} {zs : List Int} {n : Nat} {I : Ids} (d : Drawn h q zs n) (f : Fr I h h') (x : q ≠ I.p) (y : q ≠ I.d) (z : q ≠ I.g) : Drawn h' q zs n := ⟨f q _ x y z d.at_, d.len, d.nn⟩
theorem Drawn.app {h t : HP} {q : Nat} {zs : List Int} {n : Nat} (d : Drawn h q zs n) : Drawn (h ++ t) q zs n := ⟨get_app d.at_, d.len, d.nn⟩
theorem fresh_ne {h : HP} {I : Ids} {refs : List Nat} {R : Rm} (a : RA h I refs R) {i : Nat} (hi : h.length ≤ i) : i ≠ I.p ∧ i ≠ I.d ∧ i ≠ I.g := by
  have h1 := (List.getElem?_eq_some_iff.mp a.parts).1
  have h2 := (List.getElem?_eq_some_iff.mp a.hands).1
  have h3 := (List.getElem?_eq_some_iff.mp a.long).1
  omega
/-! == of lists and tuples -/
structure Pd (h : HP) (k : Nat) (d : D) (p : PyData) : Prop where
  py : ∀ n, k ≤ n → toPy n h d = some p
  lay : p.canLay0 = true
  dep : p.depth ≤ k
theorem seqO_map {α β : Type} (xs : List α) (f : α → Option β) (g : α → β) (e : ∀ x ∈ xs, f x = some (g x)) : seqO (xs.map f) = some (xs.map g) := by
  induction xs with
  | nil => rfl
  | cons x xs ih =>
    rw [List.map_cons, List.map_cons, e x (List.mem_cons_self ..)]
    show (seqO (xs.map f)).map (fun l => g x :: l) = _
    rw [ih fun y hy => e y (List.mem_cons_of_mem _ hy)]; rfl
theorem Pd.int {h : HP} {k : Nat} {i : Int} : Pd h k (.int i) (.int i) := ⟨fun n _ => by cases n <;> rfl, rfl, Nat.zero_le _⟩
theorem Pd.str {h : HP} {k : Nat} {x : Str} (hx : PyData.strOk x = true) : Pd h k (.str x) (.str x) := ⟨fun n _ => by cases n <;> rfl, by simp only [PyData.canLay0, hx], Nat.zero_le _⟩
theorem lays {α : Type} {h : HP} {k : Nat} (f : α → D) (g : α → PyData) : ∀ xs : List α, (∀ x ∈ xs, Pd h k (f x) (g x)) → PyData.canLayAll0 (xs.map g) = true ∧ PyData.depthAll (xs.map g) ≤ k
  | [], _ => ⟨rfl, Nat.zero_le _⟩
  | x :: xs, e => by
    obtain ⟨h1, h2⟩ := lays f g xs fun y hy => e y (List.mem_cons_of_mem _ hy)
    have h3 := e x (List.mem_cons_self ..)
    refine ⟨?_, ?_⟩
    · simp only [List.map_cons, PyData.canLayAll0, h3.lay, h1, Bool.and_self]
    · simp only [List.map_cons, PyData.depthAll]
      exact Nat.max_le.mpr ⟨h3.dep, h2⟩
theorem Pd.tup {α : Type} {h : HP} {k : Nat} (f : α → D) (g : α → PyData) (xs : List α) (e : ∀ x ∈ xs, Pd h k (f x) (g x)) : Pd h (k + 1) (.tup (xs.map f)) (.tuple (xs.map g)) := by
  obtain ⟨h1, h2⟩ := lays f g xs e
  refine ⟨fun n hn => ?_, by simp only [PyData.canLay0, h1], by simp only [PyData.depth]; omega⟩
  obtain ⟨m, rfl⟩ : ∃ m, n = m + 1 := ⟨n - 1, by omega⟩
  simp only [toPy, List.map_map]
  rw [seqO_map xs (toPy m h ∘ f) g fun x hx => (e x hx).py m (by omega)]
  rfl
theorem Pd.ref {α : Type} {h : HP} {k i : Nat} (f : α → D) (g : α → PyData) (xs : List α) (l : isL i h = some (xs.map f)) (e : ∀ x ∈ xs, Pd h k (f x) (g x)) : Pd h (k + 1) (.ref i) (.list (xs.map g)) := by
  obtain ⟨h1, h2⟩ := lays f g xs e
  refine ⟨fun n hn => ?_, by simp only [PyData.canLay0, h1], by simp only [PyData.depth]; omega⟩
  obtain ⟨m, rfl⟩ : ∃ m, n = m + 1 := ⟨n - 1, by omega⟩
  simp only [toPy, l, List.map_map]
  rw [seqO_map xs (toPy m h ∘ f) g fun x hx => (e x hx).py m (by omega)]
  rfl
theorem Pd.mono {h : HP} {k k' : Nat} {d : D} {p : PyData} (a : Pd h k d p) (l : k ≤ k') : Pd h k' d p := ⟨fun n hn => a.py n (by omega), a.lay, Nat.le_trans a.dep l⟩
theorem Pd.shaped {h : HP} {k : Nat} {d : D} {p : PyData} (a : Pd h k d p) (l : k ≤ 64) : SeqAt.shaped p = true := by
  unfold SeqAt.shaped
  rw [a.lay, decide_eq_true (Nat.le_trans a.dep l)]; rfl
theorem deep_of {h : HP} {k : Nat} {x y : D} {p q : PyData} (a : Pd h k x p) (b : Pd h k y q) (l : k ≤ 64) : deepEq x y h = some (PyData.eqv p q) := by
  unfold deepEq
  rw [a.py deepN (by unfold deepN; omega), b.py deepN (by unfold deepN; omega)]
  simp only [a.shaped l, b.shaped l, and_self, if_true]
theorem g_eqP {h : HP} {k : Nat} {x y : D} {p q : PyData} (a : Pd h k x p) (b : Pd h k y q) (l : k ≤ 64) (f : eqFlat x y = none) : opEq x y h = .ok (.bl (PyData.eqv p q)) h := by
  unfold opEq eqD
  rw [f]
  simp only [deep_of a b l]
theorem g_neP {h : HP} {k : Nat} {x y : D} {p q : PyData} (a : Pd h k x p) (b : Pd h k y q) (l : k ≤ 64) (f : eqFlat x y = none) : opNe x y h = .ok (.bl (!PyData.eqv p q)) h := by
  unfold opNe eqD
  rw [f]
  simp only [deep_of a b l]
theorem eqv_ints : ∀ xs ys : List Int, PyData.eqvAll (xs.map PyData.int) (ys.map PyData.int) = decide (xs = ys)
  | [], [] => by simp [PyData.eqvAll]
  | [], y :: ys => by simp [PyData.eqvAll]
  | x :: xs, [] => by simp [PyData.eqvAll]
  | x :: xs, y :: ys => by
    simp only [List.map_cons, PyData.eqvAll, PyData.eqv, eqv_ints xs ys]
    by_cases e : x = y
    · subst e; simp
    · simp [e]
theorem Pd.ints {h : HP} {i : Nat} {xs : List Int} (l : h[i]? = some (.lst (xs.map D.int))) : Pd h 1 (.ref i) (.list (xs.map PyData.int)) := Pd.ref D.int PyData.int xs (isL_of l) fun _ _ => Pd.int
theorem g_eqI {h : HP} {i j : Nat} {xs ys : List Int} (l : h[i]? = some (.lst (xs.map D.int))) (m : h[j]? = some (.lst (ys.map D.int))) : opEq (.ref i) (.ref j) h = .ok (.bl (decide (xs = ys))) h := by
  rw [g_eqP (Pd.ints l) (Pd.ints m) (by decide) rfl]
  simp only [PyData.eqv, eqv_ints]
theorem g_neI {h : HP} {i j : Nat} {xs ys : List Int} (l : h[i]? = some (.lst (xs.map D.int))) (m : h[j]? = some (.lst (ys.map D.int))) : opNe (.ref i) (.ref j) h = .ok (.bl (!decide (xs = ys))) h := by
  rw [g_neP (Pd.ints l) (Pd.ints m) (by decide) rfl]
  simp only [PyData.eqv, eqv_ints]
/-- x in a list of whole numbers -/
theorem inFlat_ints (x : Int) : ∀ ys : List Int, inFlat (.int x) (ys.map D.int) = some (decide (x ∈ ys))
  | [] => by simp [inFlat]
  | y :: ys => by
    simp only [List.map_cons, inFlat, eqFlat, inFlat_ints x ys]
    by_cases e : y = x
    · subst e; simp
    · have : ¬ x = y := fun z => e z.symm
      simp [e, this]
theorem all_flat_ints : ∀ ys : List Int, (ys.map D.int).all flatD = true
  | [] => rfl
  | y :: ys => by simp only [List.map_cons, List.all_cons, flatD, all_flat_ints ys, Bool.and_self]
theorem g_inI {h : HP} {i : Nat} {x : Int} {ys : List Int} (l : h[i]? = some (.lst (ys.map D.int))) : opIn (.int x) (.ref i) h = .ok (.bl (decide (x ∈ ys))) h := by
  have e : inD (.int x) (.ref i) h = some (decide (x ∈ ys)) := by
    unfold inD
    simp only [l, isL_of l, flatD, all_flat_ints, and_self, if_true, inFlat_ints]
  simp only [opIn, e]
theorem g_ninI {h : HP} {i : Nat} {x : Int} {ys : List Int} (l : h[i]? = some (.lst (ys.map D.int))) : opNin (.int x) (.ref i) h = .ok (.bl (!decide (x ∈ ys))) h := by
  have e : inD (.int x) (.ref i) h = some (decide (x ∈ ys)) := by
    unfold inD
    simp only [l, isL_of l, flatD, all_flat_ints, and_self, if_true, inFlat_ints]
  simp only [opNin, e]
theorem g_catI {h : HP} {i j : Nat} {xs ys : List D} (l : h[i]? = some (.lst xs)) (m : h[j]? = some (.lst ys)) (z : xs.length + ys.length ≤ 1000000) : opAdd (.ref i) (.ref j) h = .ok (.ref h.length) (h ++ [.lst (xs ++ ys)]) := by
  have z2 : xs.length + ys.length ≤ sizeLine := by rw [sizeLine_eq]; omega
  simp only [opAdd, l, m, if_pos z2]
/-- a for that may be left -/
theorem for_brk {it : Itr} {g : Tg} {b : MS} {C : Ctx} {n : Nat} (ds : Nat → D) (Pv : Nat → Ev → HP → Prop) (Qb : Ev → HP → Prop) (hi : ∀ j e h, j < n → Pv j e h → it j h = some (some (ds j))) (hd : ∀ e h, Pv n e h → it n h = some none)
    (hs : ∀ j e h, j < n → Pv j e h → ∃ e1, g e (ds j) = some e1 ∧ ∃ e2 h2, ((b C e1 h = .ok (.nx e2) h2 ∨ b C e1 h = .ok (.ct e2) h2) ∧ Pv (j + 1) e2 h2) ∨ (b C e1 h = .ok (.bk e2) h2 ∧ Qb e2 h2)) :
    ∀ (m j : Nat) (e : Ev) (h : HP), j + m = n → Pv j e h → ∀ fuel, m < fuel → ∃ e2 h2, forN it g b fuel j C e h = .ok (.nx e2) h2 ∧ (Pv n e2 h2 ∨ Qb e2 h2)
  | 0, j, e, h, hj, p, fuel, hf => by
    obtain ⟨f, rfl⟩ : ∃ f, fuel = f + 1 := ⟨fuel - 1, by omega⟩
    have : j = n := by omega
    subst this
    exact ⟨e, h, by simp only [forN, hd e h p], .inl p⟩
  | m + 1, j, e, h, hj, p, fuel, hf => by
    obtain ⟨f, rfl⟩ : ∃ f, fuel = f + 1 := ⟨fuel - 1, by omega⟩
    obtain ⟨e1, g1, e2, h2, c⟩ := hs j e h (by omega) p
    rcases c with ⟨hb, p2⟩ | ⟨hb, q⟩
    · obtain ⟨e3, h3, r, p3⟩ := for_brk ds Pv Qb hi hd hs m (j + 1) e2 h2 (by omega) p2 f (by omega)
      refine ⟨e3, h3, ?_, p3⟩
      rcases hb with hb | hb <;> simp only [forN, hi j e h (by omega) p, g1, hb, R.bind_ok, r]
    · exact ⟨e2, h2, by simp only [forN, hi j e h (by omega) p, g1, hb, R.bind_ok], .inr q⟩
/-- [x for x in xs if p x], whole numbers -/
theorem cmp_filter {it : Itr} {g : Tg} {t : MT} {e0 : Ev} {C : Ctx} {a : ME} {h : HP} {xs : List Int} (p : Int → Bool) (hi : ∀ j, j < xs.length → it j h = some (some (.int (xs.getD j 0)))) (hd : it xs.length h = some none)
    (hs : ∀ j, j < xs.length → ∃ e1, g e0 (.int (xs.getD j 0)) = some e1 ∧ t C e1 h = .ok (p (xs.getD j 0)) h ∧ a C e1 h = .ok (.int (xs.getD j 0)) h) (hn : xs.length ≤ sizeLine) :
    ∀ (m j : Nat) (acc : List Int), j + m = xs.length → acc.length ≤ j → ∀ fuel, m < fuel → cmpN it g t a e0 C fuel j (acc.map D.int) h = .ok ((acc ++ (xs.drop j).filter p).map D.int) h
  | 0, j, acc, hj, ha, fuel, hf => by
    obtain ⟨f, rfl⟩ : ∃ f, fuel = f + 1 := ⟨fuel - 1, by omega⟩
    have : j = xs.length := by omega
    subst this
    simp only [cmpN, hd, List.drop_length, List.filter_nil, List.append_nil]
  | m + 1, j, acc, hj, ha, fuel, hf => by
    obtain ⟨f, rfl⟩ : ∃ f, fuel = f + 1 := ⟨fuel - 1, by omega⟩
    have hjl : j < xs.length := by omega
    obtain ⟨e1, g1, q1, q2⟩ := hs j hjl
    have e3 : xs.drop j = xs.getD j 0 :: xs.drop (j + 1) := by
      rw [List.getD_eq_getElem?_getD, List.getElem?_eq_getElem hjl]
      exact List.drop_eq_getElem_cons hjl
    rw [e3]
    generalize xs.getD j 0 = x at *
    have hl : (acc.map D.int).length < sizeLine := by rw [List.length_map]; omega
    have h1 := hi j hjl
    simp only [cmpN]
    rw [show it j h = some (some (.int x)) from by rw [hi j hjl]; congr 3; rw [List.getD_eq_getElem?_getD, List.getElem?_eq_getElem hjl]; have := List.drop_eq_getElem_cons hjl; rw [this] at e3; exact (List.cons.inj e3).1]
    simp only [g1, q1, R.bind_ok]
    by_cases c : p x = true
    · rw [if_pos c, q2]
      simp only [R.bind_ok, if_pos hl]
      have ih := cmp_filter p hi hd hs hn m (j + 1) (acc ++ [x]) (by omega) (by rw [List.length_append]; simp; omega) f (by omega)
      rw [List.map_append] at ih
      simp only [List.map_cons, List.map_nil] at ih
      rw [ih, List.filter_cons, if_pos c, List.append_assoc]; rfl
    · rw [if_neg c, List.filter_cons, if_neg c]
      exact cmp_filter p hi hd hs hn m (j + 1) acc (by omega) (by omega) f (by omega)
/-- all that stood stands -/
def Kp (h h' : HP) : Prop := ∀ (i : Nat) (o : O), h[i]? = some o → h'[i]? = some o
theorem Kp.app {h t : HP} : Kp h (h ++ t) := fun i o q => get_app q
theorem Kp.refl {h : HP} : Kp h h := fun _ _ q => q
theorem Kp.trans {h h1 h2 : HP} (a : Kp h h1) (b : Kp h1 h2) : Kp h h2 := fun i o q => b i o (a i o q)
theorem Kp.set {h h' : HP} {i : Nat} {o : O} (a : Kp h h') (hi : h.length ≤ i) : Kp h (h'.set i o) := fun j o' q => by
  have := (List.getElem?_eq_some_iff.mp q).1
  exact getset (by omega) (a j o' q)
theorem Kp.len {h h' : HP} (a : Kp h h') : h.length ≤ h'.length := by
  rcases Nat.lt_or_ge h'.length h.length with c | c
  · have e := a h'.length _ (List.getElem?_eq_getElem c)
    rw [List.getElem?_eq_none (Nat.le_refl _)] at e
    cases e
  · exact c
theorem Kp.fr {h h' : HP} {I : Ids} (a : Kp h h') : Fr I h h' := fun i o _ _ _ q => a i o q
theorem RA.kp {h h' : HP} {I : Ids} {refs : List Nat} {R : Rm} (a : RA h I refs R) (k : Kp h h') : RA h' I refs R :=
  ⟨k _ _ a.dic, k _ _ a.names, k _ _ a.limbs, k _ _ a.parts, k _ _ a.hands, k _ _ a.long, a.rl, fun j i q => ⟨k _ _ (a.each j i q).1, (a.each j i q).2⟩, a.ne⟩
theorem Drawn.kp {h h' : HP} {q n : Nat} {zs : List Int} (d : Drawn h q zs n) (k : Kp h h') : Drawn h' q zs n := ⟨k _ _ d.at_, d.len, d.nn⟩
theorem RA.hand {h : HP} {I : Ids} {refs : List Nat} {R : Rm} (a : RA h I refs R) (w : Wf R) {j : Nat} (hj : j < R.P.length) : ∃ i, opIx (.ref I.d) (.int j) h = .ok (.ref i) h ∧ h[i]? = some (.lst ((R.hdAt j).map D.int)) ∧ refs[j]? = some i := by
  have hl : refs.length = R.P.length := by rw [a.rl, w.hd]
  have e : refs[j]? = some refs[j] := List.getElem?_eq_getElem (by omega)
  exact ⟨refs[j], g_ixl a.hands (by omega) (by rw [Int.toNat_natCast, List.getElem?_map, e]; rfl), (a.each j _ e).1, e⟩
/-- limbs moved by the parts chosen, one behind the other -/
def Apart (R : Rm) (js : List Nat) (acc : List Int) : Prop := (∀ j ∈ js, j < R.P.length ∧ R.hdAt j ≠ []) ∧ js.Pairwise (fun i j => ∀ x ∈ R.hdAt i, x ∉ R.hdAt j) ∧ ∀ x, x ∈ acc ↔ ∃ j ∈ js, x ∈ R.hdAt j
theorem Apart.snoc {R : Rm} {js : List Nat} {acc : List Int} {j : Nat} (a : Apart R js acc) (hj : j < R.P.length) (hn : R.hdAt j ≠ []) (hf : (R.hdAt j).filter (fun x => decide (x ∈ acc)) = []) : Apart R (js ++ [j]) (acc ++ R.hdAt j) := by
  obtain ⟨a1, a2, a3⟩ := a
  have hf2 : ∀ x ∈ R.hdAt j, x ∉ acc := fun x hx hm => by
    have : x ∈ (R.hdAt j).filter (fun x => decide (x ∈ acc)) := List.mem_filter.mpr ⟨hx, by simpa using hm⟩
    rw [hf] at this
    cases this
  refine ⟨fun i hi => ?_, ?_, fun x => ?_⟩
  · rcases List.mem_append.mp hi with q | q
    · exact a1 i q
    · rw [List.mem_singleton.mp q]; exact ⟨hj, hn⟩
  · refine List.pairwise_append.mpr ⟨a2, List.pairwise_singleton _ _, fun i hi k hk x hx hm => ?_⟩
    rw [List.mem_singleton.mp hk] at hm
    exact hf2 x hm ((a3 x).mpr ⟨i, hi, hx⟩)
  · rw [List.mem_append, a3 x]
    constructor
    · rintro (⟨i, hi, hx⟩ | hx)
      · exact ⟨i, List.mem_append_left _ hi, hx⟩
      · exact ⟨j, List.mem_append_right _ (List.mem_singleton.mpr rfl), hx⟩
    · rintro ⟨i, hi, hx⟩
      rcases List.mem_append.mp hi with q | q
      · exact .inl ⟨i, q, hx⟩
      · rw [List.mem_singleton.mp q] at hx; exact .inr hx
def natD (js : List Nat) : List D := js.map fun j : Nat => D.int (j : Int)
theorem g_nelst {h : HP} {i : Nat} {xs : List Int} (l : h[i]? = some (.lst (xs.map D.int))) : opNe (.ref i) (.ref h.length) (h ++ [.lst []]) = .ok (.bl (!decide (xs = []))) (h ++ [.lst []]) :=
  g_neI (ys := []) (get_app l) (by rw [List.getElem?_append_right (Nat.le_refl _)]; simp)
theorem g_eqlst {h : HP} {i : Nat} {xs : List Int} (l : h[i]? = some (.lst (xs.map D.int))) : opEq (.ref i) (.ref h.length) (h ++ [.lst []]) = .ok (.bl (decide (xs = []))) (h ++ [.lst []]) :=
  g_eqI (ys := []) (get_app l) (by rw [List.getElem?_append_right (Nat.le_refl _)]; simp)
theorem get_new {h : HP} {o : O} : (h ++ [o])[h.length]? = some o := by rw [List.getElem?_append_right (Nat.le_refl _)]; simp
/-- rising numbers below n are at most n -/
theorem rise_len : ∀ (xs : List Int) (lo n : Int), xs.Pairwise (· < ·) → (∀ x ∈ xs, lo ≤ x ∧ x < n) → (xs.length : Int) ≤ max 0 (n - lo)
  | [], lo, n, _, _ => by simp; omega
  | x :: xs, lo, n, hp, hb => by
    rw [List.pairwise_cons] at hp
    have h1 := hb x (List.mem_cons_self ..)
    have ih := rise_len xs (x + 1) n hp.2 fun y hy => ⟨hp.1 y hy, (hb y (List.mem_cons_of_mem _ hy)).2⟩
    rw [List.length_cons]
    omega
theorem hd_len {R : Rm} (w : Wf R) {k : Nat} (hk : k < R.P.length) : (R.hdAt k).length ≤ 8 := by
  have h1 := rise_len _ 0 R.L.length (w.hdb k hk).1 (w.hdb k hk).2
  have := w.l1
  omega
theorem body_bk {s : MS} {C : Ctx} {e e2 : Ev} {h h2 : HP} {P Q : Ev → HP → Prop} (q : s C e h = .ok (.bk e2) h2) (p : Q e2 h2) : ∃ e2 h2, ((s C e h = .ok (.nx e2) h2 ∨ s C e h = .ok (.ct e2) h2) ∧ P e2 h2) ∨ (s C e h = .ok (.bk e2) h2 ∧ Q e2 h2) := ⟨_, _, .inr ⟨q, p⟩⟩
theorem body_n2 {s : MS} {C : Ctx} {e e2 : Ev} {h h2 : HP} {P Q : Ev → HP → Prop} (q : s C e h = .ok (.nx e2) h2) (p : P e2 h2) : ∃ e2 h2, ((s C e h = .ok (.nx e2) h2 ∨ s C e h = .ok (.ct e2) h2) ∧ P e2 h2) ∨ (s C e h = .ok (.bk e2) h2 ∧ Q e2 h2) := ⟨_, _, .inl ⟨.inl q, p⟩⟩
theorem natD_of {n : Nat} : ∀ ys : List D, (∀ o ∈ ys, ∃ j : Nat, j < n ∧ o = .int (j : Int)) → ∃ js : List Nat, ys = natD js ∧ ∀ j ∈ js, j < n
  | [], _ => ⟨[], rfl, fun j hj => by cases hj⟩
  | y :: ys, e => by
    obtain ⟨j, hj, rfl⟩ := e y (List.mem_cons_self ..)
    obtain ⟨js, rfl, h2⟩ := natD_of ys fun o ho => e o (List.mem_cons_of_mem _ ho)
    refine ⟨j :: js, rfl, fun i hi => ?_⟩
    rcases List.mem_cons.mp hi with rfl | q
    · exact hj
    · exact h2 i q
/-- the lengths of the parts chosen -/
theorem longs_run {h : HP} {I : Ids} {refs : List Nat} {R : Rm} {C : Ctx} (a : RA h I refs R) (w : Wf R) (fu : 1000 < C.fuel) {t : Nat} {js : List Nat} (g0 : h[t]? = some (.lst (natD js))) (hj : ∀ j ∈ js, j < R.P.length) (jl : js.length ≤ 8) {e : Ev} (he : e[3]? = some (some (.ref t))) (hr : e[0]? = some (some (.ref I.r))) (h6 : 6 < e.length) :
    eLc [6] (gN 6) (iA (eV 3)) tY (eOp opIx (eOp opIx (eV 0) (eC (.str "long"))) (eV 6)) C e h = .ok (.ref h.length) (h ++ [.lst ((js.map R.lgAt).map D.int)]) := by
  refine lc_of (it := itL t) (h1 := h) (by unfold iA; rw [g_v he]; simp only [Z.R.bind_ok, isL_of g0]) ?_
  have hz : (js.map R.lgAt).map D.int = (List.range js.length).map fun k => D.int (R.lgAt (js.getD k 0)) := by
    apply List.ext_getElem?
    intro k
    rw [List.getElem?_map, List.getElem?_map, List.getElem?_map]
    by_cases hk : k < js.length
    · simp [List.getElem?_eq_getElem hk, hk]
    · rw [List.getElem?_eq_none (by omega), List.getElem?_eq_none (by simp; omega)]; rfl
  rw [hz]
  refine cmp_all (n := js.length) (fun k => .int ((js.getD k 0 : Nat) : Int)) (fun k => .int (R.lgAt (js.getD k 0))) (fun k hk => ?_) ?_ (fun k hk => ⟨_, rfl, ?_⟩) (by rw [sizeLine_eq]; omega) js.length 0 [] (by omega) rfl _ (by omega)
  · simp only [itL, g0, natD]
    rw [List.getElem?_map, List.getElem?_eq_getElem hk, List.getD_eq_getElem?_getD, List.getElem?_eq_getElem hk]; rfl
  · simp only [itL, g0, natD]
    rw [List.getElem?_eq_none (by simp)]
  · have hm : js.getD k 0 ∈ js := by
      rw [List.getD_eq_getElem?_getD, List.getElem?_eq_getElem hk]
      exact List.getElem_mem hk
    have hlt := hj _ hm
    generalize js.getD k 0 = j at *
    have ix : opIx (.ref I.g) (.int (j : Int)) h = .ok (.int (R.lgAt j)) h := g_ixl a.long (by omega) (by
      rw [Int.toNat_natCast, List.getElem?_map, List.getElem?_eq_getElem (by rw [w.lg]; exact hlt)]
      unfold Rm.lgAt
      rw [List.getD_eq_getElem?_getD, List.getElem?_eq_getElem (by rw [w.lg]; exact hlt)]; rfl)
    have e6 : ((wipeE e [6]).set 6 (some (D.int (j : Int))))[6]? = some (some (.int (j : Int))) := by
      rw [List.getElem?_set_self (by simp [wipeE]; exact h6)]
    have e0 : ((wipeE e [6]).set 6 (some (D.int (j : Int))))[0]? = some (some (.ref I.r)) := by
      rw [List.getElem?_set_ne (by decide)]
      show (e.set 6 none)[0]? = _
      rw [List.getElem?_set_ne (by decide)]; exact hr
    exact g_op (g_op (g_v e0) g_c a.iG) (g_v e6) ix
theorem cut_mid {α : Type} (xs : List D) {a b : Int} (h0 : 0 ≤ a) (h1 : a ≤ b) (h2 : b.toNat ≤ xs.length) : cutD xs (some a) (some b) = (xs.drop a.toNat).take (b.toNat - a.toNat) := by
  obtain ⟨i, rfl⟩ : ∃ i : Nat, a = i := ⟨a.toNat, by omega⟩
  obtain ⟨j, rfl⟩ : ∃ j : Nat, b = j := ⟨b.toNat, by omega⟩
  simp only [Int.toNat_natCast] at h2 ⊢
  unfold cutD
  rw [HT.sIx_nat, HT.sIx_nat, Nat.min_eq_left h2, Nat.min_eq_left (by omega : i ≤ xs.length)]
theorem g_srt {h : HP} {i : Nat} {xs : List Int} (l : h[i]? = some (.lst (xs.map D.int))) : bSr2 [.ref i] h = .ok (.ref h.length) (h ++ [.lst ((srtI xs).map D.int)]) := by
  simp only [bSr2, l, bSrt, isL_of l, intsD_ints]
theorem g_maxL {h : HP} {i : Nat} {xs : List Int} {m : Int} (l : h[i]? = some (.lst (xs.map D.int))) (e : maxL xs = some m) : bMax [.ref i] h = .ok (.int m) h := by
  simp only [bMax, isL_of l, intsD_ints, e]
theorem g_tupL {h : HP} {i : Nat} {ds : List D} (l : h[i]? = some (.lst ds)) : bTup [.ref i] h = .ok (.tup ds) h := by simp only [bTup, isL_of l]
theorem srt_mem {xs : List Int} {x : Int} : x ∈ srtI xs ↔ x ∈ xs := (List.mergeSort_perm xs _).mem_iff
theorem srt_lt {xs : List Int} (hn : xs.Nodup) : (srtI xs).Pairwise (· < ·) := by
  have s2 : (srtI xs).Pairwise (· ≤ ·) := by
    have := List.pairwise_mergeSort (le := fun a b : Int => decide (a ≤ b)) (fun a b c h1 h2 => by simp at *; omega) (fun a b => by simp; omega) xs
    exact this.imp fun h => by simpa using h
  have n2 : (srtI xs).Nodup := (List.mergeSort_perm xs _).nodup_iff.mpr hn
  exact (s2.and n2).imp fun ⟨a, b⟩ => by omega
/-- the names of the parts chosen -/
theorem nms_run {h : HP} {I : Ids} {refs : List Nat} {R : Rm} {C : Ctx} (a : RA h I refs R) (w : Wf R) (fu : 1000 < C.fuel) {t : Nat} {js : List Nat} (g0 : h[t]? = some (.lst (natD js))) (hj : ∀ j ∈ js, j < R.P.length) (jl : js.length ≤ 8) {x1 x2 x4 x5 x6 x7 x8 x9 : Option D} :
    eLc [6] (gN 6) (iA (eV 3)) tY (eOp opIx (eOp opIx (eOp opIx (eV 0) (eC (.str "parts"))) (eV 6)) (eC (.int 0))) C [some (.ref I.r), x1, x2, some (.ref t), x4, x5, x6, x7, x8, x9] h = .ok (.ref h.length) (h ++ [.lst ((js.map R.nmAt).map D.str)]) := by
  refine lc_of (it := itL t) (h1 := h) (by unfold iA; rw [g_v (d := .ref t) rfl]; simp only [Z.R.bind_ok, isL_of g0]) ?_
  have hz : (js.map R.nmAt).map D.str = (List.range js.length).map fun k => D.str (R.nmAt (js.getD k 0)) := by
    apply List.ext_getElem?
    intro k
    rw [List.getElem?_map, List.getElem?_map, List.getElem?_map]
    by_cases hk : k < js.length
    · simp [List.getElem?_eq_getElem hk, hk]
    · rw [List.getElem?_eq_none (by omega), List.getElem?_eq_none (by simp; omega)]; rfl
  rw [hz]
  refine cmp_all (n := js.length) (fun k => .int ((js.getD k 0 : Nat) : Int)) (fun k => .str (R.nmAt (js.getD k 0))) (fun k hk => ?_) ?_ (fun k hk => ⟨_, rfl, ?_⟩) (by rw [sizeLine_eq]; omega) js.length 0 [] (by omega) rfl _ (by omega)
  · simp only [itL, g0, natD]
    rw [List.getElem?_map, List.getElem?_eq_getElem hk, List.getD_eq_getElem?_getD, List.getElem?_eq_getElem hk]; rfl
  · simp only [itL, g0, natD]
    rw [List.getElem?_eq_none (by simp)]
  · have hm : js.getD k 0 ∈ js := by
      rw [List.getD_eq_getElem?_getD, List.getElem?_eq_getElem hk]
      exact List.getElem_mem hk
    have hlt := hj _ hm
    generalize js.getD k 0 = j at *
    obtain ⟨x, hx⟩ : ∃ x, R.P[j]? = some x := ⟨_, List.getElem?_eq_getElem hlt⟩
    have ix : opIx (.ref I.p) (.int (j : Int)) h = .ok (partD x) h := g_ixl a.parts (by omega) (by rw [Int.toNat_natCast, List.getElem?_map, hx]; rfl)
    have ix0 : opIx (partD x) (.int 0) h = .ok (.str (R.nmAt j)) h := by rw [← w.names j x hx]; rfl
    have x3 := a.iP
    show (eOp opIx (eOp opIx (eOp opIx (eV 0) (eC (.str "parts"))) (eV 6)) (eC (.int 0))) C [some (.ref I.r), x1, x2, some (.ref t), x4, x5, some (.int (j : Int)), x7, x8, x9] h = _
    (repeat' first | with_reducible exact x3 | with_reducible exact ix | with_reducible exact ix0 | with_reducible exact g_v rfl | with_reducible exact g_c | with_reducible exact g_an | with_reducible exact g_add | with_reducible exact g_sub | with_reducible exact g_iadd | with_reducible exact g_lt | with_reducible exact g_le | with_reducible exact g_gt | with_reducible exact g_ge | with_reducible exact g_eq | with_reducible exact g_ne | with_reducible exact g_neg | with_reducible exact g_mul (by first | assumption | omega | decide) | with_reducible exact g_div (by first | assumption | omega | decide) (by first | assumption | omega | decide) | with_reducible exact g_mod (by first | assumption | omega | decide) | with_reducible exact g_pow (by decide) | with_reducible apply g_isint | with_reducible exact g_sk | with_reducible exact g_rn | with_reducible exact g_bk | with_reducible exact g_ct | with_reducible exact g_gn0 | with_reducible apply g_gns | with_reducible exact g_ap0 | with_reducible apply g_apS | with_reducible apply g_op | with_reducible apply g_un | with_reducible apply g_ac | with_reducible apply g_call | with_reducible apply g_calld | with_reducible apply g_bf | with_reducible apply g_sq | with_reducible apply g_kn | with_reducible exact g_kr | with_reducible exact g_kb | with_reducible exact g_kc | with_reducible apply g_as | with_reducible apply g_pr | with_reducible apply g_au rfl | with_reducible apply g_rt | with_reducible apply g_ex | with_reducible apply g_if | with_reducible apply g_tv | with_reducible apply g_tan | with_reducible apply g_tor | with_reducible apply g_tnt | with_reducible apply g_ean | with_reducible apply g_eor | with_reducible apply g_ent | with_reducible apply g_eif | with_reducible apply g_iftt | with_reducible apply g_iffn | with_reducible apply g_ifff | with_reducible apply g_iftn | with_reducible refine g_ift (by first | assumption | omega | decide) ?_ | with_reducible refine g_iff (by first | assumption | omega | decide) ?_ | with_reducible refine g_ifnt (by first | assumption | omega | decide) ?_ | with_reducible refine g_ifnf (by first | assumption | omega | decide) ?_ | with_reducible exact rfl | with_reducible exact g_eqs | with_reducible exact g_nes | with_reducible exact g_neni | with_reducible exact g_nein | with_reducible exact g_nenn | with_reducible exact g_isn | with_reducible exact g_isi | with_reducible exact g_nsn | with_reducible exact g_nsi | with_reducible exact g_max | with_reducible exact g_max3 | with_reducible exact g_min | with_reducible exact g_intb | with_reducible apply g_gt2 | with_reducible apply g_gt3 | with_reducible apply g_tup | with_reducible apply g_lst | with_reducible exact lenOk rfl | with_reducible exact g_on | with_reducible apply g_os | with_reducible apply g_sl | with_reducible apply g_bkm | with_reducible exact g_okS )
theorem sum_ge : ∀ (xs : List Int), (∀ x ∈ xs, 1 ≤ x) → (xs.length : Int) ≤ xs.sum
  | [], _ => by simp
  | x :: xs, e => by
    have h1 := e x (List.mem_cons_self ..)
    have ih := sum_ge xs fun y hy => e y (List.mem_cons_of_mem _ hy)
    rw [List.length_cons, List.sum_cons]
    omega
theorem maxL_mem {xs : List Int} (h : xs ≠ []) : ∃ m, maxL xs = some m ∧ m ∈ xs := by
  cases xs with
  | nil => exact absurd rfl h
  | cons x xs => exact ⟨_, rfl, (foldl_max xs x).2⟩
theorem pick3 {P : D → Prop} {a0 a1 a2 : D} {k : Int} (k0 : 0 ≤ k) (k1 : k < 3) (p0 : k = 0 → P a0) (p1 : k = 1 → P a1) (p2 : k = 2 → P a2) : ∃ v, P v ∧ [a0, a1, a2][k.toNat]? = some v := by
  obtain ⟨n, rfl⟩ : ∃ n : Nat, k = n := ⟨k.toNat, by omega⟩
  rw [Int.toNat_natCast]
  match n, (show n < 3 by omega) with
  | 0, _ => exact ⟨_, p0 rfl, rfl⟩
  | 1, _ => exact ⟨_, p1 rfl, rfl⟩
  | 2, _ => exact ⟨_, p2 rfl, rfl⟩
/-- which name a limb gets -/
def atV (w : Int) (k : Nat) : Nat := if w % 3 = 2 then ((w / 3 + 5 * (k : Int)) % 8).toNat else 60 + k
theorem atV_lt {w : Int} {k : Nat} (hk : k < 8) : atV w k < 68 := by
  unfold atV
  split <;> omega
theorem atV_inj {w : Int} {i j : Nat} (hi : i < 8) (hj : j < 8) (e : atV w i = atV w j) : i = j := by
  unfold atV at e
  split at e <;> omega
/-- the limbs drawn -/
structure LimbsOk (N : List Str) (w : Int) (L : List (Str × Int)) : Prop where
  nm : L.map (·.1) = (List.range L.length).map fun k => N.getD (atV w k) ""
  ht : ∀ x ∈ L, 0 ≤ x.2 ∧ x.2 ≤ 10 ^ 18
theorem limbs_wf {N : List Str} {w : Int} {L : List (Str × Int)} (n : NamesOk N) (l : LimbsOk N w L) (h : L.length ≤ 8) : (∀ x ∈ L, x.1 ∈ N ∧ 0 ≤ x.2 ∧ x.2 ≤ 10 ^ 18) ∧ (L.map (·.1)).Nodup := by
  have nl := n.len
  refine ⟨fun x hx => ⟨?_, l.ht x hx⟩, ?_⟩
  · have : x.1 ∈ L.map (·.1) := List.mem_map_of_mem hx
    rw [l.nm] at this
    obtain ⟨k, hk, e⟩ := List.mem_map.mp this
    have hk := List.mem_range.mp hk
    have := atV_lt (w := w) (k := k) (by omega)
    rw [← e, List.getD_eq_getElem?_getD, List.getElem?_eq_getElem (by omega)]
    exact List.getElem_mem _
  · rw [l.nm, List.Nodup, List.pairwise_map]
    refine List.Pairwise.imp_of_mem ?_ (List.nodup_range (n := L.length))
    intro a b ha hb ne e
    have ha := List.mem_range.mp ha
    have hb := List.mem_range.mp hb
    have h1 := atV_lt (w := w) (k := a) (by omega)
    have h2 := atV_lt (w := w) (k := b) (by omega)
    rw [List.getD_eq_getElem?_getD, List.getElem?_eq_getElem (by omega), List.getD_eq_getElem?_getD, List.getElem?_eq_getElem (by omega)] at e
    exact ne (atV_inj (by omega) (by omega) ((List.getElem_inj n.nodup).mp e))
/-- the defs that the drawing calls, as facts -/
structure Lib2 (C : Ctx) : Prop where
  lb : Lib C
  fu : 5000 < C.fuel
  cell : ∀ {h : HP} {ns : List Int}, h[0]? = some (.fz (ns.map D.int)) → ∀ k : Nat, C.call 2 [.ref 0, .int k] h = .ok (.int (cellAt ns k)) h
  stream : ∀ (h : HP) {c many : Int}, Lt2 c 2000000 → 0 ≤ many → many ≤ 3000 → ∃ zs : List Int, Drawn (h ++ [.lst (zs.map D.int)]) h.length zs many.toNat ∧ C.call 21 [.int c, .int many] h = .ok (.ref h.length) (h ++ [.lst (zs.map D.int)])
  names : ∀ (h : HP) {c : Int}, Lt2 c 2000000 → ∃ N tl, NamesOk N ∧ C.call 31 [.int c, .int 68] h = .ok (.ref (h ++ tl).length) (h ++ tl ++ [.lst (N.map D.str)])
  simple : ∀ {h : HP} {I : Ids} {refs : List Nat} {R : Rm} {c : Int} {q n : Nat} {zs : List Int}, Wf R → R.P.length < 62 → RA h I refs R → Lt2 c 2000000 → Drawn h q zs n → 4 ≤ n →
    ∃ h' refs' R', C.call 34 [.ref I.r, .int c, .ref q] h = .ok .non h' ∧ RA h' I refs' R' ∧ Wf R' ∧ R'.P.length = R.P.length + 1 ∧ R'.N = R.N ∧ R'.L = R.L ∧ Fr I h h'
  naming : ∀ {h : HP} {I : Ids} {refs : List Nat} {R : Rm} {c : Int} {q : Nat} {zs : List Int}, Wf R → R.P.length < 62 → 0 < R.P.length → RA h I refs R → Lt2 c 2000000 → Drawn h q zs 12 → 4 < zs.getD (0 : Int).toNat 0 % 8 →
    ∃ h' refs' R', C.call 37 [.ref I.r, .int c, .ref q] h = .ok .non h' ∧ RA h' I refs' R' ∧ Wf R' ∧ R'.P.length = R.P.length + 1 ∧ R'.N = R.N ∧ R'.L = R.L ∧ Fr I h h'
theorem g_pn {C : Ctx} {e : Ev} {h : HP} : pN C e h = .ok [] h := rfl
theorem g_pc {C : Ctx} {e : Ev} {h h1 h2 h3 : HP} {k v : ME} {r : MP} {x y : D} {ps : List (D × D)} (hk : k C e h = .ok x h1) (hv : v C e h1 = .ok y h2) (hr : r C e h2 = .ok ps h3) : pC k v r C e h = .ok ((x, y) :: ps) h3 := by
  unfold pC; rw [hk]; simp only [Z.R.bind_ok]; rw [hv]; simp only [Z.R.bind_ok]; rw [hr]; rfl
theorem g_dic {C : Ctx} {e : Ev} {h h1 : HP} {m : MP} {ps : List (D × D)} {kvs : List (Key × D)} (hm : m C e h = .ok ps h1) (hk : seqO (ps.map keyP) = some kvs) (hl : kvs.length ≤ 15) : eDic m C e h = .ok (.ref h1.length) (h1 ++ [.dic (mergeD [] kvs)]) := by
  unfold eDic; rw [hm]; simp only [Z.R.bind_ok, hk, if_pos hl]
/-- the room is laid -/
theorem laid_run {h : HP} {C : Ctx} {nid lid : Nat} {x0 x1 x4 x5 x6 x7 x8 x9 : Option D} :
    eDic (pC (eC (.str "names")) (eV 2) (pC (eC (.str "limbs")) (eV 3) (pC (eC (.str "parts")) (eLst aN) (pC (eC (.str "hands")) (eLst aN) (pC (eC (.str "long")) (eLst aN) pN))))) C [x0, x1, some (.ref nid), some (.ref lid), x4, x5, x6, x7, x8, x9] h =
      .ok (.ref (h.length + 3)) (h ++ [.lst []] ++ [.lst []] ++ [.lst []] ++ [.dic (roomDic ⟨h.length + 3, nid, lid, h.length, h.length + 1, h.length + 2⟩)]) := by
  have l1 : ∀ h : HP, ∀ e : Ev, eLst aN C e h = .ok (.ref h.length) (h ++ [.lst []]) := fun h e => g_lst g_an (lenOk rfl)
  have := g_dic (C := C) (e := [x0, x1, some (.ref nid), some (.ref lid), x4, x5, x6, x7, x8, x9]) (h := h)
    (g_pc (k := eC (.str "names")) g_c (g_v (i := 2) rfl) (g_pc (k := eC (.str "limbs")) g_c (g_v (i := 3) rfl) (g_pc (k := eC (.str "parts")) g_c (l1 _ _) (g_pc (k := eC (.str "hands")) g_c (l1 _ _) (g_pc (k := eC (.str "long")) g_c (l1 _ _) g_pn)))))
    (kvs := [(.inr "names", .ref nid), (.inr "limbs", .ref lid), (.inr "parts", .ref h.length), (.inr "hands", .ref (h ++ [O.lst []]).length), (.inr "long", .ref (h ++ [O.lst []] ++ [O.lst []]).length)]) rfl (by show 5 ≤ 15; decide)
  rw [this]
  have e1 : (h ++ [O.lst []]).length = h.length + 1 := by simp
  have e2 : (h ++ [O.lst []] ++ [O.lst []]).length = h.length + 2 := by simp
  have e3 : (h ++ [O.lst []] ++ [O.lst []] ++ [O.lst []]).length = h.length + 3 := by simp
  rw [e1, e2, e3]
  rfl
/-! the room as data that == goes through -/
def Fm.py : Fm → PyData
  | .hold b => .tuple [.str "hold", .int b]
  | .ring w b => .tuple [.str "ring", .str w, .int b]
  | .raise l t b => .tuple [.str "raise", .str l, .int t, .int b]
  | .row ns => .tuple [.str "row", .tuple (ns.map PyData.str)]
  | .side ns => .tuple [.str "side", .tuple (ns.map PyData.str)]
  | .again t n => .tuple [.str "again", .int t, .str n]
def Fm.nms : Fm → List Str
  | .hold _ => []
  | .ring w _ => [w]
  | .raise l _ _ => [l]
  | .row ns => ns
  | .side ns => ns
  | .again _ n => [n]
def limbP (x : Str × Int) : PyData := .tuple [.str x.1, .int x.2]
def partP (x : Str × Fm) : PyData := .tuple [.str x.1, x.2.py]
theorem str_low {x : Str} (l : lowS x) : PyData.strOk x = true := by
  unfold PyData.strOk
  rw [← Array.all_toList, List.all_eq_true]
  intro c hc
  have := l c hc
  exact decide_eq_true (by omega)
theorem Pd.tupL {h : HP} {k : Nat} (xs : List (D × PyData)) (e : ∀ x ∈ xs, Pd h k x.1 x.2) : Pd h (k + 1) (.tup (xs.map Prod.fst)) (.tuple (xs.map Prod.snd)) := Pd.tup Prod.fst Prod.snd xs e
theorem all1 {α : Type} {P : α → Prop} {a : α} (x : P a) : ∀ z ∈ [a], P z := fun z hz => by rw [List.mem_singleton.mp hz]; exact x
theorem allc {α : Type} {P : α → Prop} {a : α} {as : List α} (x : P a) (y : ∀ z ∈ as, P z) : ∀ z ∈ a :: as, P z := fun z hz => by
  rcases List.mem_cons.mp hz with q | q
  · rw [q]; exact x
  · exact y z q
theorem Pd.t2 {h : HP} {k : Nat} {x y : D} {p q : PyData} (a : Pd h k x p) (b : Pd h k y q) : Pd h (k + 1) (.tup [x, y]) (.tuple [p, q]) :=
  Pd.tupL [(x, p), (y, q)] (allc (P := fun z : D × PyData => Pd h k z.1 z.2) a (all1 (P := fun z : D × PyData => Pd h k z.1 z.2) b))
theorem Pd.t3 {h : HP} {k : Nat} {x y z : D} {p q r : PyData} (a : Pd h k x p) (b : Pd h k y q) (c : Pd h k z r) : Pd h (k + 1) (.tup [x, y, z]) (.tuple [p, q, r]) :=
  Pd.tupL [(x, p), (y, q), (z, r)] (allc (P := fun z : D × PyData => Pd h k z.1 z.2) a (allc (P := fun z : D × PyData => Pd h k z.1 z.2) b (all1 (P := fun z : D × PyData => Pd h k z.1 z.2) c)))
theorem Pd.t4 {h : HP} {k : Nat} {x y z u : D} {p q r s : PyData} (a : Pd h k x p) (b : Pd h k y q) (c : Pd h k z r) (d : Pd h k u s) : Pd h (k + 1) (.tup [x, y, z, u]) (.tuple [p, q, r, s]) :=
  Pd.tupL [(x, p), (y, q), (z, r), (u, s)] (allc (P := fun z : D × PyData => Pd h k z.1 z.2) a (allc (P := fun z : D × PyData => Pd h k z.1 z.2) b (allc (P := fun z : D × PyData => Pd h k z.1 z.2) c (all1 (P := fun z : D × PyData => Pd h k z.1 z.2) d))))
theorem Pd.names {h : HP} {ns : List Str} (l : ∀ s ∈ ns, lowS s) : Pd h 1 (.tup (ns.map D.str)) (.tuple (ns.map PyData.str)) := Pd.tup D.str PyData.str ns fun x hx => Pd.str (str_low (l x hx))
theorem Pd.fm {h : HP} {f : Fm} (l : ∀ s ∈ f.nms, lowS s) : Pd h 2 f.d f.py := by
  cases f with
  | hold b => exact (Pd.mono (k := 1) (k' := 2) (Pd.t2 (Pd.str (by decide +kernel)) Pd.int) (by decide))
  | ring w b => exact (Pd.mono (k := 1) (k' := 2) (Pd.t3 (Pd.str (by decide +kernel)) (Pd.str (str_low (l w (by simp [Fm.nms])))) Pd.int) (by decide))
  | raise a t b => exact (Pd.mono (k := 1) (k' := 2) (Pd.t4 (Pd.str (by decide +kernel)) (Pd.str (str_low (l a (by simp [Fm.nms])))) Pd.int Pd.int) (by decide))
  | row ns => exact Pd.t2 (Pd.str (by decide +kernel)) (Pd.names l)
  | side ns => exact Pd.t2 (Pd.str (by decide +kernel)) (Pd.names l)
  | again t n => exact (Pd.mono (k := 1) (k' := 2) (Pd.t3 (Pd.str (by decide +kernel)) Pd.int (Pd.str (str_low (l n (by simp [Fm.nms]))))) (by decide))
theorem Pd.part {h : HP} {x : Str × Fm} (l1 : lowS x.1) (l : ∀ s ∈ x.2.nms, lowS s) : Pd h 3 (partD x) (partP x) := Pd.t2 (Pd.str (str_low l1)) (Pd.fm l)
theorem Pd.limb {h : HP} {x : Str × Int} (l1 : lowS x.1) : Pd h 1 (limbD x) (limbP x) := Pd.t2 (Pd.str (str_low l1)) Pd.int
theorem nm_in {R : Rm} (w : Wf R) {k : Nat} (hk : k < 68) : R.nmAt k ∈ R.N := by
  have nl := w.nm.len
  unfold Rm.nmAt
  rw [List.getD_eq_getElem?_getD, List.getElem?_eq_getElem (by omega)]
  exact List.getElem_mem _
theorem fm_in {R : Rm} (w : Wf R) {k : Nat} {x : Str × Fm} (q : R.P[k]? = some x) : x.1 ∈ R.N ∧ (∀ s ∈ x.2.nms, s ∈ R.N) ∧ x.2.nms.length ≤ 8 := by
  have hk := (List.getElem?_eq_some_iff.mp q).1
  have hm := w.most
  have f := w.form k x q
  refine ⟨by rw [w.names k x q]; exact nm_in w (by omega), ?_⟩
  obtain ⟨n, f'⟩ := x
  cases f' with
  | hold b => exact ⟨fun s hs => by simp [Fm.nms] at hs, by simp [Fm.nms]⟩
  | ring v b =>
    obtain ⟨f1, _⟩ := f
    exact ⟨fun s hs => by simp [Fm.nms] at hs; rw [hs]; exact f1, by simp [Fm.nms]⟩
  | raise l t b =>
    obtain ⟨_, _, _, _, _, i, ⟨z, hz⟩, _⟩ := f
    exact ⟨fun s hs => by simp [Fm.nms] at hs; rw [hs]; exact (w.limb _ (List.mem_of_getElem? hz)).1, by simp [Fm.nms]⟩
  | row ns =>
    obtain ⟨js, _, a2, a3, a4, _⟩ := f
    refine ⟨fun s hs => ?_, by simp only [Fm.nms]; rw [a4, List.length_map]; exact a2⟩
    simp only [Fm.nms] at hs
    rw [a4] at hs
    obtain ⟨j, hj, rfl⟩ := List.mem_map.mp hs
    have := a3 j hj
    exact nm_in w (by omega)
  | side ns =>
    obtain ⟨js, _, a2, a3, a4, _⟩ := f
    refine ⟨fun s hs => ?_, by simp only [Fm.nms]; rw [a4, List.length_map]; omega⟩
    simp only [Fm.nms] at hs
    rw [a4] at hs
    obtain ⟨j, hj, rfl⟩ := List.mem_map.mp hs
    have := a3 j hj
    exact nm_in w (by omega)
  | again t m =>
    obtain ⟨j, a1, a2, _⟩ := f
    exact ⟨fun s hs => by simp [Fm.nms] at hs; rw [hs, a2]; exact nm_in w (by omega), by simp [Fm.nms]⟩
theorem Pd.parts {h : HP} {R : Rm} (w : Wf R) {i : Nat} (l : h[i]? = some (.lst (R.P.map partD))) : Pd h 4 (.ref i) (.list (R.P.map partP)) :=
  Pd.ref partD partP R.P (isL_of l) fun x hx => by
    obtain ⟨k, hk⟩ := List.mem_iff_getElem?.mp hx
    obtain ⟨f1, f2, _⟩ := fm_in w hk
    exact Pd.part (w.nm.low _ f1).1 fun s hs => (w.nm.low _ (f2 s hs)).1
theorem Pd.limbs {h : HP} {R : Rm} (w : Wf R) {i : Nat} (l : h[i]? = some (.lst (R.L.map limbD))) : Pd h 4 (.ref i) (.list (R.L.map limbP)) :=
  (Pd.ref limbD limbP R.L (isL_of l) fun x hx => Pd.limb (w.nm.low _ (w.limb x hx).1).1).mono (by decide)
/-- parts == [] -/
theorem g_eqpar {h : HP} {R : Rm} (w : Wf R) {i : Nat} (l : h[i]? = some (.lst (R.P.map partD))) : opEq (.ref i) (.ref h.length) (h ++ [.lst []]) = .ok (.bl (decide (R.P.length = 0))) (h ++ [.lst []]) := by
  have p2 : Pd (h ++ [O.lst []]) 4 (.ref h.length) (.list ([] : List PyData)) := (Pd.ref (k := 0) limbD limbP [] (isL_of get_new) fun x hx => by cases hx).mono (by decide)
  rw [g_eqP (Pd.parts w (get_app l)) p2 (by decide) rfl]
  cases e : R.P with
  | nil => rfl
  | cons x xs => rfl
theorem eqv_same {h : HP} {k : Nat} {x : D} {p : PyData} (a : Pd h k x p) : PyData.eqv p p = true := SeqAt.eqv_refl_plain p (PyData.plain_of_canLay0 p a.lay)
/-! books as plain data: forms that name what stands ahead -/
def pnm (P : List (Str × Fm)) : List Str := P.map (·.1)
def lnm (L : List (Str × Int)) : List Str := L.map (·.1)
/-- the place of a name -/
def ixN_ (xs : List Str) (n : Str) : Nat := xs.findIdx (fun x => decide (x = n))
def Fm.pns : Fm → List Str
  | .row ns => ns
  | .side ns => ns
  | .again _ n => [n]
  | _ => []
def namedIx (P : List (Str × Fm)) (f : Fm) : List Nat := f.pns.map (ixN_ (pnm P))
def FmRef (L : List (Str × Int)) (P : List (Str × Fm)) (k : Nat) : Fm → Prop
  | .hold b => 1 ≤ b ∧ b ≤ 10 ^ 18
  | .ring w b => lowS w ∧ w.length ≤ 8 ∧ 1 ≤ b ∧ b ≤ 10 ^ 18
  | .raise l t b => l ∈ lnm L ∧ 0 ≤ t ∧ t ≤ 10 ^ 18 ∧ 1 ≤ b ∧ b ≤ 10 ^ 18
  | .row ns => 1 ≤ ns.length ∧ ns.length ≤ 8 ∧ ∀ n ∈ ns, n ∈ pnm (P.take k)
  | .side ns => 2 ≤ ns.length ∧ ns.length ≤ 4 ∧ ∀ n ∈ ns, n ∈ pnm (P.take k)
  | .again t n => 1 ≤ t ∧ t ≤ 10 ^ 18 ∧ n ∈ pnm (P.take k)
structure BkOk (L : List (Str × Int)) (P : List (Str × Fm)) : Prop where
  l1 : 1 ≤ L.length ∧ L.length ≤ 8
  p1 : 1 ≤ P.length ∧ P.length ≤ 62
  ln : (lnm L).Nodup
  pn : (pnm P).Nodup
  llow : ∀ x ∈ lnm L, lowS x ∧ 1 ≤ x.length ∧ x.length ≤ 8
  plow : ∀ x ∈ pnm P, lowS x ∧ 1 ≤ x.length ∧ x.length ≤ 8
  lht : ∀ x ∈ L, 0 ≤ x.2 ∧ x.2 ≤ 10 ^ 18
  fm : ∀ k x, P[k]? = some x → FmRef L P k x.2
theorem ixN_lt {xs : List Str} {n : Str} (h : n ∈ xs) : ixN_ xs n < xs.length := List.findIdx_lt_length_of_exists ⟨n, h, decide_eq_true rfl⟩
theorem ixN_get {xs : List Str} {n : Str} (h : n ∈ xs) : xs[ixN_ xs n]? = some n := by
  have hl := ixN_lt h
  rw [List.getElem?_eq_getElem hl]
  have := List.findIdx_getElem (w := hl)
  exact congrArg some (of_decide_eq_true this)
theorem ixN_of {xs : List Str} (nd : xs.Nodup) {j : Nat} {n : Str} (q : xs[j]? = some n) : ixN_ xs n = j := by
  have hj := (List.getElem?_eq_some_iff.mp q).1
  have hm := List.mem_of_getElem? q
  have hg := ixN_get hm
  have hl := ixN_lt hm
  rw [List.getElem?_eq_getElem hl] at hg
  rw [List.getElem?_eq_getElem hj] at q
  exact (List.getElem_inj nd).mp (Option.some.inj (hg.trans q.symm))
theorem pnm_at {P : List (Str × Fm)} {k : Nat} {x : Str × Fm} (q : P[k]? = some x) : (pnm P)[k]? = some x.1 := by unfold pnm; rw [List.getElem?_map, q]; rfl
theorem lnm_at {L : List (Str × Int)} {k : Nat} {x : Str × Int} (q : L[k]? = some x) : (lnm L)[k]? = some x.1 := by unfold lnm; rw [List.getElem?_map, q]; rfl
/-- a name ahead of k has a place ahead of k -/
theorem ix_ahead {P : List (Str × Fm)} (nd : (pnm P).Nodup) {k : Nat} {n : Str} (h : n ∈ pnm (P.take k)) : ixN_ (pnm P) n < k ∧ ixN_ (pnm P) n < P.length := by
  obtain ⟨j, hj⟩ := List.mem_iff_getElem?.mp h
  have hl := (List.getElem?_eq_some_iff.mp hj).1
  unfold pnm at hl
  rw [List.length_map, List.length_take] at hl
  have e : (pnm P)[j]? = some n := by
    unfold pnm at hj ⊢
    rw [List.getElem?_map] at hj ⊢
    rw [List.getElem?_take, if_pos (by omega)] at hj
    exact hj
  rw [ixN_of nd e]
  omega
theorem named_ahead {L : List (Str × Int)} {P : List (Str × Fm)} (o : BkOk L P) {k : Nat} {x : Str × Fm} (q : P[k]? = some x) : (∀ n ∈ x.2.pns, n ∈ pnm P) ∧ (∀ j ∈ namedIx P x.2, j < k ∧ j < P.length) ∧ (namedIx P x.2).length ≤ 8 := by
  have f := o.fm k x q
  have key : ∀ ns : List Str, (∀ n ∈ ns, n ∈ pnm (P.take k)) → (∀ n ∈ ns, n ∈ pnm P) ∧ (∀ j ∈ ns.map (ixN_ (pnm P)), j < k ∧ j < P.length) := fun ns h => ⟨fun n hn => by
      have := h n hn
      unfold pnm at this ⊢
      obtain ⟨y, hy, e⟩ := List.mem_map.mp this
      exact List.mem_map.mpr ⟨y, List.mem_of_mem_take hy, e⟩, fun j hj => by
      obtain ⟨n, hn, rfl⟩ := List.mem_map.mp hj
      exact ix_ahead o.pn (h n hn)⟩
  have fin : ∀ ns : List Str, x.2.pns = ns → (∀ n ∈ ns, n ∈ pnm (P.take k)) → ns.length ≤ 8 → (∀ n ∈ x.2.pns, n ∈ pnm P) ∧ (∀ j ∈ namedIx P x.2, j < k ∧ j < P.length) ∧ (namedIx P x.2).length ≤ 8 := fun ns e h l => by
    unfold namedIx
    rw [e]
    exact ⟨(key ns h).1, (key ns h).2, by rw [List.length_map]; exact l⟩
  obtain ⟨m, f'⟩ := x
  cases f' with
  | hold b => exact fin [] rfl (fun n hn => by cases hn) (by decide)
  | ring w b => exact fin [] rfl (fun n hn => by cases hn) (by decide)
  | raise l t b => exact fin [] rfl (fun n hn => by cases hn) (by decide)
  | row ns => exact fin ns rfl f.2.2 f.2.1
  | side ns => exact fin ns rfl f.2.2 (by have := f.2.1; omega)
  | again t n => exact fin [n] rfl (all1 f.2.2) (by simp)
theorem Wf.pnm_eq {R : Rm} (w : Wf R) : pnm R.P = R.N.take R.P.length := by
  have nl := w.nm.len
  have hm := w.most
  apply List.ext_getElem?
  intro k
  unfold pnm
  rw [List.getElem?_map, List.getElem?_take]
  split
  · rename_i hk
    obtain ⟨x, hx⟩ : ∃ x, R.P[k]? = some x := ⟨_, List.getElem?_eq_getElem hk⟩
    rw [hx, Option.map_some, w.names k x hx]
    unfold Rm.nmAt
    rw [List.getD_eq_getElem?_getD, List.getElem?_eq_getElem (by omega)]
    rfl
  · rename_i hk
    rw [List.getElem?_eq_none (by omega)]; rfl
theorem Wf.ix_nm {R : Rm} (w : Wf R) {j : Nat} (hj : j < R.P.length) : ixN_ (pnm R.P) (R.nmAt j) = j := by
  have nl := w.nm.len
  have hm := w.most
  refine ixN_of (by rw [w.pnm_eq]; exact (List.take_sublist _ _).nodup w.nm.nodup) ?_
  rw [w.pnm_eq, List.getElem?_take, if_pos hj]
  unfold Rm.nmAt
  rw [List.getD_eq_getElem?_getD, List.getElem?_eq_getElem (by omega)]
  rfl
theorem Wf.nm_ahead {R : Rm} (w : Wf R) {k : Nat} {js : List Nat} (hk : k ≤ R.P.length) (h : ∀ j ∈ js, j < k) : ∀ n ∈ js.map R.nmAt, n ∈ pnm (R.P.take k) := fun n hn => by
  obtain ⟨j, hj, rfl⟩ := List.mem_map.mp hn
  have hjk := h j hj
  obtain ⟨x, hx⟩ : ∃ x, R.P[j]? = some x := ⟨_, List.getElem?_eq_getElem (by omega)⟩
  unfold pnm
  refine List.mem_map.mpr ⟨x, List.mem_iff_getElem?.mpr ⟨j, by rw [List.getElem?_take, if_pos hjk]; exact hx⟩, w.names j x hx⟩
theorem Wf.bk {R : Rm} (w : Wf R) (h1 : 1 ≤ R.P.length) : BkOk R.L R.P := by
  refine ⟨w.l1, ⟨h1, w.most⟩, w.lnd, by rw [w.pnm_eq]; exact (List.take_sublist _ _).nodup w.nm.nodup, fun x hx => ?_, fun x hx => ?_, fun x hx => (w.limb x hx).2, fun k x q => ?_⟩
  · obtain ⟨y, hy, rfl⟩ := List.mem_map.mp hx
    exact w.nm.low _ (w.limb y hy).1
  · rw [w.pnm_eq] at hx
    exact w.nm.low _ (List.mem_of_mem_take hx)
  · have hk := (List.getElem?_eq_some_iff.mp q).1
    have f := w.form k x q
    obtain ⟨m, g⟩ := x
    cases g with
    | hold b => exact ⟨f.1, f.2.1⟩
    | ring v b => exact ⟨(w.nm.low v f.1).1, (w.nm.low v f.1).2.2, f.2.1, f.2.2.1⟩
    | raise l t b =>
      obtain ⟨a1, a2, a3, a4, _, i, ⟨z, hz⟩, _⟩ := f
      exact ⟨List.mem_of_getElem? (lnm_at hz), a1, a2, a3, a4⟩
    | row ns =>
      obtain ⟨js, a1, a2, a3, a4, _⟩ := f
      subst a4
      exact ⟨by rw [List.length_map]; exact a1, by rw [List.length_map]; exact a2, w.nm_ahead (by omega) a3⟩
    | side ns =>
      obtain ⟨js, a1, a2, a3, a4, _⟩ := f
      subst a4
      exact ⟨by rw [List.length_map]; exact a1, by rw [List.length_map]; exact a2, w.nm_ahead (by omega) a3⟩
    | again t n =>
      obtain ⟨j, a1, a2, _, _, a3, a4⟩ := f
      subst a2
      have := w.nm_ahead (k := k) (js := [j]) (by omega) (all1 a1)
      exact ⟨a3, a4, this _ (by simp)⟩
/-- a book's lists as data for == -/
theorem BkOk.pdP {L : List (Str × Int)} {P : List (Str × Fm)} (o : BkOk L P) {h : HP} {i : Nat} (l : h[i]? = some (.lst (P.map partD))) : Pd h 4 (.ref i) (.list (P.map partP)) :=
  Pd.ref partD partP P (isL_of l) fun x hx => by
    obtain ⟨k, hk⟩ := List.mem_iff_getElem?.mp hx
    refine Pd.part (o.plow _ (List.mem_of_getElem? (pnm_at hk))).1 fun s hs => ?_
    have f := o.fm k x hk
    have pn := (named_ahead o hk).1
    obtain ⟨m, g⟩ := x
    cases g with
    | hold b => simp [Fm.nms] at hs
    | ring v b => simp [Fm.nms] at hs; rw [hs]; exact f.1
    | raise l t b => simp [Fm.nms] at hs; rw [hs]; exact (o.llow _ f.1).1
    | row ns => exact (o.plow _ (pn s hs)).1
    | side ns => exact (o.plow _ (pn s hs)).1
    | again t n => exact (o.plow _ (pn s hs)).1
theorem BkOk.pdL {L : List (Str × Int)} {P : List (Str × Fm)} (o : BkOk L P) {h : HP} {i : Nat} (l : h[i]? = some (.lst (L.map limbD))) : Pd h 4 (.ref i) (.list (L.map limbP)) :=
  (Pd.ref limbD limbP L (isL_of l) fun x hx => Pd.limb (o.llow _ (List.mem_map_of_mem hx)).1).mono (by decide)
theorem BkOk.pdB {L : List (Str × Int)} {P : List (Str × Fm)} (o : BkOk L P) {h : HP} {i j : Nat} (l : h[i]? = some (.lst (L.map limbD))) (p : h[j]? = some (.lst (P.map partD))) : Pd h 5 (.tup [.ref i, .ref j]) (.tuple [.list (L.map limbP), .list (P.map partP)]) := Pd.t2 (o.pdL l) (o.pdP p)
theorem BkOk.eqB {L : List (Str × Int)} {P : List (Str × Fm)} (o : BkOk L P) {h : HP} {i j i2 j2 : Nat} (l : h[i]? = some (.lst (L.map limbD))) (p : h[j]? = some (.lst (P.map partD))) (l2 : h[i2]? = some (.lst (L.map limbD))) (p2 : h[j2]? = some (.lst (P.map partD))) :
    opEq (.tup [.ref i, .ref j]) (.tup [.ref i2, .ref j2]) h = .ok (.bl true) h := by
  have := g_eqP (o.pdB l p) (o.pdB l2 p2) (by decide) rfl
  rw [eqv_same (o.pdB l p)] at this
  exact this
/-! numbers of names -/
def numD (i : Nat) : List Str → List (Key × D)
  | [] => []
  | x :: xs => (.inr x, .int (i : Int)) :: numD (i + 1) xs
theorem numD_len : ∀ (xs : List Str) (i : Nat), (numD i xs).length = xs.length
  | [], _ => rfl
  | x :: xs, i => by simp only [numD, List.length_cons, numD_len xs]
theorem numD_app : ∀ (xs : List Str) (i : Nat) (y : Str), numD i (xs ++ [y]) = numD i xs ++ [(.inr y, .int ((i + xs.length : Nat) : Int))]
  | [], i, y => rfl
  | x :: xs, i, y => by
    simp only [List.cons_append, numD, numD_app xs (i + 1) y, List.length_cons]
    rw [show i + 1 + xs.length = i + (xs.length + 1) by omega]
theorem numD_any : ∀ (xs : List Str) (i : Nat) (y : Str), y ∉ xs → ((numD i xs).any fun kv => decide (kv.1 = (.inr y : Key))) = false
  | [], _, _, _ => rfl
  | x :: xs, i, y, h => by
    have h1 : ¬ ((.inr x : Key) = .inr y) := fun e => h (by cases e; exact List.mem_cons_self ..)
    simp only [numD, List.any_cons, decide_eq_false h1, Bool.false_or]
    exact numD_any xs (i + 1) y fun q => h (List.mem_cons_of_mem _ q)
theorem numD_put {xs : List Str} {y : Str} (h : y ∉ xs) : putKD (numD 0 xs) (.inr y) (.int (xs.length : Int)) = numD 0 (xs ++ [y]) := by
  unfold putKD
  rw [if_neg (by rw [numD_any xs 0 y h]; decide), numD_app, Nat.zero_add]
theorem numD_val : ∀ (xs : List Str) (i : Nat) (y : Str), y ∈ xs → valD (numD i xs) (.inr y) = some (.int ((i + ixN_ xs y : Nat) : Int))
  | x :: xs, i, y, h => by
    by_cases e : x = y
    · subst e
      have : ixN_ (x :: xs) x = 0 := by unfold ixN_; rw [List.findIdx_cons]; simp
      rw [this]
      unfold valD
      simp only [numD, List.find?_cons, decide_eq_true (rfl : (Sum.inr x : Key) = .inr x)]
      rfl
    · have h2 : y ∈ xs := (List.mem_cons.mp h).resolve_left fun z => e z.symm
      have : ixN_ (x :: xs) y = ixN_ xs y + 1 := by unfold ixN_; rw [List.findIdx_cons]; simp [e]
      rw [this]
      have ih := numD_val xs (i + 1) y h2
      unfold valD at ih ⊢
      have h1 : ¬ ((.inr x : Key) = .inr y) := fun z => e (by cases z; rfl)
      simp only [numD, List.find?_cons, decide_eq_false h1]
      rw [ih, show i + 1 + ixN_ xs y = i + (ixN_ xs y + 1) by omega]
theorem g_ixNum {h : HP} {d : Nat} {xs : List Str} {y : Str} (k : h[d]? = some (.dic (numD 0 xs))) (m : y ∈ xs) : opIx (.ref d) (.str y) h = .ok (.int ((ixN_ xs y : Nat) : Int)) h := by
  have := numD_val xs 0 y m
  rw [Nat.zero_add] at this
  simp only [opIx, k, keyD, this]
theorem g_stD {h : HP} {i : Nat} {kvs : List (Key × D)} {y : Str} {v : D} (l : h[i]? = some (.dic kvs)) (m : kvs.length < 1000) : stD (.ref i) (.str y) v h = .ok () (h.set i (.dic (putKD kvs (.inr y) v))) := by
  have m2 : kvs.length < sizeLine := by rw [sizeLine_eq]; omega
  simp only [stD, l, keyD, if_pos m2]
theorem set_new {h : HP} {o o' : O} : (h ++ [o]).set h.length o' = h ++ [o'] := by
  rw [List.set_append_right _ _ (Nat.le_refl _)]; simp
/-! texts of books: words of parts -/
def itx (i : Int) : Str := toString i
theorem g_str {i : Int} {h : HP} (l : i.natAbs.log2 < 1920) : bStr [.int i] h = .ok (.str (itx i)) h := by
  show (if i.natAbs.log2 < 1920 then _ else _) = _
  rw [if_pos l]; rfl
theorem g_strS {x : Str} {h : HP} : bStr [.str x] h = .ok (.str x) h := rfl
theorem itx_len {i : Int} (l : i.natAbs.log2 < 1920) : (itx i).length ≤ 1921 := PyProof.Rows.int_text_len_1921 l
theorem log_of {i : Int} (l : i.natAbs ≤ 10 ^ 18) : i.natAbs.log2 < 1920 := by
  have := log2_le (n := i.natAbs) (a := 60) (by omega)
  omega
inductive It where
  | i (z : Int) | s (x : Str) | n (xs : List Str)
def It.d : It → D
  | .i z => .int z
  | .s x => .str x
  | .n xs => .tup (xs.map D.str)
def It.w : It → List Str
  | .i z => [itx z]
  | .s x => [x]
  | .n xs => xs
def It.ok : It → Prop
  | .i z => z.natAbs ≤ 10 ^ 18
  | .s x => x.length ≤ 8
  | .n xs => xs.length ≤ 8 ∧ ∀ x ∈ xs, x.length ≤ 8
def Fm.tag : Fm → Str
  | .hold _ => "hold"
  | .ring _ _ => "ring"
  | .raise _ _ _ => "raise"
  | .row _ => "row"
  | .side _ => "side"
  | .again _ _ => "again"
def Fm.its : Fm → List It
  | .hold b => [.i b]
  | .ring w b => [.s w, .i b]
  | .raise l t b => [.s l, .i t, .i b]
  | .row ns => [.n ns]
  | .side ns => [.n ns]
  | .again t n => [.i t, .s n]
theorem Fm.d_eq (f : Fm) : f.d = .tup (.str f.tag :: f.its.map It.d) := by cases f <;> rfl
def fmW (f : Fm) : List Str := f.tag :: f.its.flatMap It.w
def limbW (x : Str × Int) : List Str := [x.1, itx x.2]
theorem Fm.its_len (f : Fm) : f.its.length ≤ 3 := by cases f <;> simp [Fm.its]
theorem Fm.tag_len (f : Fm) : f.tag.length ≤ 8 := by cases f <;> simp only [Fm.tag] <;> decide
theorem It.w_ok {t : It} (o : t.ok) : t.w.length ≤ 8 ∧ ∀ x ∈ t.w, x.length ≤ 1921 := by
  cases t with
  | i z => exact ⟨by simp [It.w], fun x hx => by simp [It.w] at hx; rw [hx]; exact itx_len (log_of o)⟩
  | s x => exact ⟨by simp [It.w], fun y hy => by simp [It.w] at hy; rw [hy]; exact Nat.le_trans o (by decide)⟩
  | n xs => exact ⟨o.1, fun y hy => Nat.le_trans (o.2 y hy) (by decide)⟩
theorem flat_ok : ∀ (ts : List It), (∀ t ∈ ts, t.ok) → (ts.flatMap It.w).length ≤ 8 * ts.length ∧ ∀ x ∈ ts.flatMap It.w, x.length ≤ 1921
  | [], _ => ⟨by simp, fun x hx => by simp at hx⟩
  | t :: ts, o => by
    obtain ⟨a, b⟩ := flat_ok ts fun u hu => o u (List.mem_cons_of_mem _ hu)
    obtain ⟨c, d⟩ := It.w_ok (o t (List.mem_cons_self ..))
    rw [List.flatMap_cons, List.length_append, List.length_cons]
    refine ⟨by omega, fun x hx => ?_⟩
    rcases List.mem_append.mp hx with q | q
    · exact d x q
    · exact b x q
theorem fmW_ok {f : Fm} (o : ∀ t ∈ f.its, t.ok) : (fmW f).length ≤ 25 ∧ ∀ x ∈ fmW f, x.length ≤ 1921 := by
  obtain ⟨a, b⟩ := flat_ok f.its o
  have := f.its_len
  unfold fmW
  refine ⟨by rw [List.length_cons]; omega, fun x hx => ?_⟩
  rcases List.mem_cons.mp hx with q | q
  · rw [q]; exact Nat.le_trans f.tag_len (by decide)
  · exact b x q
theorem its_ok {R : Rm} (w : Wf R) {k : Nat} {x : Str × Fm} (q : R.P[k]? = some x) : ∀ t ∈ x.2.its, t.ok := by
  obtain ⟨_, f2, f3⟩ := fm_in w q
  have f := w.form k x q
  obtain ⟨m, g⟩ := x
  have lw : ∀ s ∈ g.nms, s.length ≤ 8 := fun s hs => (w.nm.low s (f2 s hs)).2.2
  cases g with
  | hold b => exact all1 (by show b.natAbs ≤ _; obtain ⟨a1, a2, _⟩ := f; omega)
  | ring v b => exact allc (lw v (by simp [Fm.nms])) (all1 (by show b.natAbs ≤ _; obtain ⟨_, a1, a2, _⟩ := f; omega))
  | raise l t b => exact allc (lw l (by simp [Fm.nms])) (allc (by show t.natAbs ≤ _; obtain ⟨a1, a2, _⟩ := f; omega) (all1 (by show b.natAbs ≤ _; obtain ⟨_, _, a1, a2, _⟩ := f; omega)))
  | row ns => exact all1 ⟨f3, lw⟩
  | side ns => exact all1 ⟨f3, lw⟩
  | again t n => exact allc (by show t.natAbs ≤ _; obtain ⟨j, _, _, _, _, a1, a2⟩ := f; omega) (all1 (lw n (by simp [Fm.nms])))
theorem sum_le {ws : List Str} {c : Nat} (l : ∀ x ∈ ws, x.length ≤ c) : (ws.map (·.length)).sum ≤ c * ws.length := by
  induction ws with
  | nil => simp
  | cons w ws ih =>
    have h1 := l w (List.mem_cons_self ..)
    have h2 := ih fun x hx => l x (List.mem_cons_of_mem _ hx)
    rw [List.map_cons, List.sum_cons, List.length_cons, Nat.mul_add]
    omega
theorem join_snoc {a x y : Str} {ys : List Str} : Txt.join a (x :: ys ++ [y]) = Txt.join a (x :: ys) ++ a ++ y := by
  show (⟨List.foldl (fun acc p => acc ++ a.cps ++ p.cps) x.cps (ys ++ [y])⟩ : Str) = ⟨List.foldl (fun acc p => acc ++ a.cps ++ p.cps) x.cps ys ++ a.cps ++ y.cps⟩
  rw [List.foldl_append]; rfl
theorem bl_len : (" " : Str).length = 1 := rfl
/-- a text of words, one blank between -/
def rowT (ws : List Str) : Str := Txt.join " " ws
theorem rowT_len {ws : List Str} (l : ∀ x ∈ ws, x.length ≤ 1921) : (rowT ws).length ≤ 1922 * ws.length := by
  have h1 := txtjoin_len " " ws
  have h2 := sum_le l
  rw [bl_len] at h1
  unfold rowT
  omega
theorem g_rowT {i : Nat} {ws : List Str} {h : HP} (k : h[i]? = some (.lst (ws.map D.str))) (l : ∀ x ∈ ws, x.length ≤ 1921) (n : ws.length ≤ 100) : mJoin (.str " ") [.ref i] h = .ok (.str (rowT ws)) h := by
  have h2 := sum_le l
  exact g_join (isL_of k) (by rw [bl_len]; omega)
theorem itT_at {α : Type} {f : α → D} {xs : List α} {j : Nat} {x : α} {h : HP} (q : xs[j]? = some x) : itT (xs.map f) j h = some (some (f x)) := by
  unfold itT; rw [List.getElem?_map, q]; rfl
theorem itT_end {α : Type} {f : α → D} {xs : List α} {h : HP} : itT (xs.map f) xs.length h = some none := by
  unfold itT; rw [List.getElem?_eq_none (by simp)]
theorem itL_at {α : Type} {f : α → D} {xs : List α} {i j : Nat} {x : α} {h : HP} (g : h[i]? = some (.lst (xs.map f))) (q : xs[j]? = some x) : itL i j h = some (some (f x)) := by
  simp only [itL, g]; rw [List.getElem?_map, q]; rfl
theorem itL_end {α : Type} {f : α → D} {xs : List α} {i : Nat} {h : HP} (g : h[i]? = some (.lst (xs.map f))) : itL i xs.length h = some none := by
  simp only [itL, g]; rw [List.getElem?_eq_none (by simp)]
/-- for x in xs, all gone through: the list is a list of f x -/
theorem for_all {α : Type} {it : Itr} {g : Tg} {b : MS} {C : Ctx} (f : α → D) (xs : List α) (Pv : Nat → Ev → HP → Prop) (hi : ∀ j x e h, xs[j]? = some x → Pv j e h → it j h = some (some (f x))) (hd : ∀ e h, Pv xs.length e h → it xs.length h = some none)
    (hs : ∀ j x e h, xs[j]? = some x → Pv j e h → ∃ e1, g e (f x) = some e1 ∧ ∃ e2 h2, (b C e1 h = .ok (.nx e2) h2 ∨ b C e1 h = .ok (.ct e2) h2) ∧ Pv (j + 1) e2 h2) {e : Ev} {h : HP} (p : Pv 0 e h) {fuel : Nat} (hf : xs.length < fuel) :
    ∃ e2 h2, forN it g b fuel 0 C e h = .ok (.nx e2) h2 ∧ Pv xs.length e2 h2 := by
  refine for_go (n := xs.length) (fun j => ((xs[j]?).map f).getD .non) Pv (fun j e h hj p => ?_) hd (fun j e h hj p => ?_) xs.length 0 e h (by omega) p fuel hf
  · rw [List.getElem?_eq_getElem hj]
    exact hi j _ e h (List.getElem?_eq_getElem hj) p
  · rw [List.getElem?_eq_getElem hj]
    exact hs j _ e h (List.getElem?_eq_getElem hj) p
theorem take_snoc {α : Type} {xs : List α} {j : Nat} {x : α} (q : xs[j]? = some x) : xs.take (j + 1) = xs.take j ++ [x] := by
  rw [List.take_add_one, q]; rfl
theorem g_ext {h : HP} {i j : Nat} {xs ys : List D} (l : h[i]? = some (.lst xs)) (m : h[j]? = some (.lst ys)) (z : xs.length + ys.length ≤ 1000000) : mExt (.ref i) [.ref j] h = .ok .non (h.set i (.lst (xs ++ ys))) := by
  have z2 : xs.length + ys.length ≤ sizeLine := by rw [sizeLine_eq]; omega
  simp only [mExt, l, m, if_pos z2]
theorem g_lstT {h : HP} {ds : List D} : bLst [.tup ds] h = .ok (.ref h.length) (h ++ [.lst ds]) := rfl
theorem g_lstL {h : HP} {i : Nat} {ds : List D} (l : h[i]? = some (.lst ds)) : bLst [.ref i] h = .ok (.ref h.length) (h ++ [.lst ds]) := by simp only [bLst, isL_of l]
theorem g_nesr {p : Str} {h : HP} : opNe (.str p) (.str p) h = .ok (.bl false) h := by rw [g_nes]; simp
theorem g_eqsr {p : Str} {h : HP} : opEq (.str p) (.str p) h = .ok (.bl true) h := by rw [g_eqs]; simp
theorem g_eqsn {p q : Str} {h : HP} (n : p ≠ q) : opEq (.str p) (.str q) h = .ok (.bl false) h := by rw [g_eqs, decide_eq_false n]
def It.w1 : It → Str
  | .i z => itx z
  | .s x => x
  | .n _ => ""
theorem flat_one : ∀ {ts : List It}, (∀ t ∈ ts, ∀ xs, t ≠ .n xs) → ts.flatMap It.w = ts.map It.w1
  | [], _ => rfl
  | t :: ts, o => by
    rw [List.flatMap_cons, List.map_cons, flat_one fun u hu => o u (List.mem_cons_of_mem _ hu)]
    cases t with
    | i z => rfl
    | s x => rfl
    | n xs => exact absurd rfl (o _ (List.mem_cons_self ..) xs)
theorem cut_tl {x : D} {xs : List D} : cutD (x :: xs) (some 1) none = xs := by
  have s1 : HT.sIx (x :: xs).length 0 (some ((1 : Nat) : Int)) = min 1 (x :: xs).length := HT.sIx_nat (n := (x :: xs).length) (d := 0) 1
  have s1 : HT.sIx (x :: xs).length 0 (some 1) = min 1 (x :: xs).length := s1
  unfold cutD
  rw [HT.sIx_none, s1, List.length_cons, Nat.min_eq_left (by omega)]
  simp
theorem g_stL {h : HP} {i : Nat} {xs : List D} {v : D} {k : Nat} (l : h[i]? = some (.lst xs)) (m : k < xs.length) : stD (.ref i) (.int (k : Int)) v h = .ok () (h.set i (.lst (xs.set k v))) := by
  have z : ixN xs.length (k : Int) = some k := by unfold ixN; rw [if_pos (by omega), if_pos (by omega), Int.toNat_natCast]
  simp only [stD, l, z]
theorem g_st {C : Ctx} {e : Ev} {h h1 h2 h3 h4 : HP} {f : D → D → D → HP → R Unit} {o i a : ME} {v x y : D} (ha : a C e h = .ok v h1) (ho : o C e h1 = .ok x h2) (hi : i C e h2 = .ok y h3) (hf : f x y v h3 = .ok () h4) : sSt f o i a C e h = .ok (.nx e) h4 := by
  unfold sSt; rw [ha]; simp only [Z.R.bind_ok]; rw [ho]; simp only [Z.R.bind_ok]; rw [hi]; simp only [Z.R.bind_ok]; rw [hf]; rfl
/-! numbers_of, named, moved -/
theorem for_enum {α : Type} {i : Nat} {g : Tg} {b : MS} {C : Ctx} (f : α → D) (xs : List α) (Pv : Nat → Ev → HP → Prop) (hl : ∀ j e h, Pv j e h → h[i]? = some (.lst (xs.map f)))
    (hs : ∀ j x e h, xs[j]? = some x → Pv j e h → ∃ e1, g e (.tup [.int (j : Int), f x]) = some e1 ∧ ∃ e2 h2, (b C e1 h = .ok (.nx e2) h2 ∨ b C e1 h = .ok (.ct e2) h2) ∧ Pv (j + 1) e2 h2) {e : Ev} {h : HP} (p : Pv 0 e h) {fuel : Nat} (hf : xs.length < fuel) :
    ∃ e2 h2, forN (itE i) g b fuel 0 C e h = .ok (.nx e2) h2 ∧ Pv xs.length e2 h2 := by
  refine for_go (n := xs.length) (fun j => .tup [.int (j : Int), ((xs[j]?).map f).getD .non]) Pv (fun j e h hj p => ?_) (fun e h p => ?_) (fun j e h hj p => ?_) xs.length 0 e h (by omega) p fuel hf
  · have q : xs[j]? = some xs[j] := List.getElem?_eq_getElem hj
    unfold itE
    rw [itL_at (hl j e h p) q, q]; rfl
  · unfold itE
    rw [itL_end (hl _ e h p)]; rfl
  · have q : xs[j]? = some xs[j] := List.getElem?_eq_getElem hj
    have := hs j _ e h q p
    rw [q]
    exact this
theorem nodup_take_snoc {xs : List Str} (nd : xs.Nodup) {j : Nat} {x : Str} (q : xs[j]? = some x) : x ∉ xs.take j := fun h => by
  have e := take_snoc q
  have := (List.take_sublist (j + 1) xs).nodup nd
  rw [e, List.nodup_append] at this
  exact this.2.2 x h x (List.mem_singleton.mpr rfl) rfl
theorem numbers_of_run {α : Type} {h : HP} {C : Ctx} (f : α → D) (nm : α → Str) (hf : ∀ x h, opIx (f x) (.int 0) h = .ok (.str (nm x)) h) {xs : List α} (nd : (xs.map nm).Nodup) (l : xs.length ≤ 500) {r : Nat} (g : h[r]? = some (.lst (xs.map f))) (fu : 1000 < C.fuel) :
    runFn C f_numbers_of [.ref r] h = .ok (.ref h.length) (h ++ [.dic (numD 0 (xs.map nm))]) := by
  obtain ⟨e2, h2, F, x2, x3, rfl, rfl⟩ := for_enum (i := r) (g := gT [2, 3]) (b := b_numbers_of_1) (C := C) f xs
    (fun j e h' => ∃ x2 x3, e = [some (.ref r), some (.ref h.length), x2, x3] ∧ h' = h ++ [.dic (numD 0 ((xs.map nm).take j))])
    (fun j e h' ⟨x2, x3, e1, e2⟩ => by rw [e2]; exact get_app g)
    (fun j x e h' q ⟨x2, x3, e1, e2⟩ => by
      subst e1 e2
      have jl := (List.getElem?_eq_some_iff.mp q).1
      have q2 : (xs.map nm)[j]? = some (nm x) := by rw [List.getElem?_map, q]; rfl
      have hn := nodup_take_snoc nd q2
      have tl : ((xs.map nm).take j).length = j := by rw [List.length_take, List.length_map]; omega
      have ix := hf x (h ++ [.dic (numD 0 ((xs.map nm).take j))])
      have st := g_stD (h := h ++ [.dic (numD 0 ((xs.map nm).take j))]) (i := h.length) (y := nm x) (v := .int (j : Int)) get_new (by rw [numD_len, tl]; omega)
      have pu := numD_put hn
      rw [tl] at pu
      rw [pu, set_new] at st
      unfold b_numbers_of_1
      apply turn_of
      · (repeat' first | with_reducible exact g_v rfl | with_reducible exact g_c | with_reducible exact g_an | with_reducible exact g_add | with_reducible exact g_sub | with_reducible exact g_iadd | with_reducible exact g_lt | with_reducible exact g_le | with_reducible exact g_gt | with_reducible exact g_ge | with_reducible exact g_eq | with_reducible exact g_ne | with_reducible exact g_neg | with_reducible exact g_mul (by first | assumption | omega | decide) | with_reducible exact g_div (by first | assumption | omega | decide) (by first | assumption | omega | decide) | with_reducible exact g_mod (by first | assumption | omega | decide) | with_reducible exact g_pow (by decide) | with_reducible apply g_isint | with_reducible exact g_sk | with_reducible exact g_rn | with_reducible exact g_bk | with_reducible exact g_ct | with_reducible exact g_gn0 | with_reducible apply g_gns | with_reducible exact g_ap0 | with_reducible apply g_apS | with_reducible apply g_op | with_reducible apply g_un | with_reducible apply g_ac | with_reducible apply g_call | with_reducible apply g_calld | with_reducible apply g_bf | with_reducible apply g_sq | with_reducible apply g_kn | with_reducible exact g_kr | with_reducible exact g_kb | with_reducible exact g_kc | with_reducible apply g_as | with_reducible apply g_pr | with_reducible apply g_au rfl | with_reducible apply g_rt | with_reducible apply g_ex | with_reducible apply g_if | with_reducible apply g_tv | with_reducible apply g_tan | with_reducible apply g_tor | with_reducible apply g_tnt | with_reducible apply g_ean | with_reducible apply g_eor | with_reducible apply g_ent | with_reducible apply g_eif | with_reducible apply g_iftt | with_reducible apply g_iffn | with_reducible apply g_ifff | with_reducible apply g_iftn | with_reducible refine g_ift (by first | assumption | omega | decide) ?_ | with_reducible refine g_iff (by first | assumption | omega | decide) ?_ | with_reducible refine g_ifnt (by first | assumption | omega | decide) ?_ | with_reducible refine g_ifnf (by first | assumption | omega | decide) ?_ | with_reducible exact rfl | with_reducible exact g_eqs | with_reducible exact g_nes | with_reducible exact g_neni | with_reducible exact g_nein | with_reducible exact g_nenn | with_reducible exact g_isn | with_reducible exact g_isi | with_reducible exact g_nsn | with_reducible exact g_nsi | with_reducible exact g_max | with_reducible exact g_max3 | with_reducible exact g_min | with_reducible exact g_intb | with_reducible apply g_gt2 | with_reducible apply g_gt3 | with_reducible apply g_tup | with_reducible apply g_lst | with_reducible exact lenOk rfl | with_reducible exact g_on | with_reducible apply g_os | with_reducible apply g_sl | with_reducible apply g_bkm | with_reducible exact g_okS )
      apply body_nx
      · apply g_st
        · (repeat' first | with_reducible exact g_v rfl | with_reducible exact g_c | with_reducible exact g_an | with_reducible exact g_add | with_reducible exact g_sub | with_reducible exact g_iadd | with_reducible exact g_lt | with_reducible exact g_le | with_reducible exact g_gt | with_reducible exact g_ge | with_reducible exact g_eq | with_reducible exact g_ne | with_reducible exact g_neg | with_reducible exact g_mul (by first | assumption | omega | decide) | with_reducible exact g_div (by first | assumption | omega | decide) (by first | assumption | omega | decide) | with_reducible exact g_mod (by first | assumption | omega | decide) | with_reducible exact g_pow (by decide) | with_reducible apply g_isint | with_reducible exact g_sk | with_reducible exact g_rn | with_reducible exact g_bk | with_reducible exact g_ct | with_reducible exact g_gn0 | with_reducible apply g_gns | with_reducible exact g_ap0 | with_reducible apply g_apS | with_reducible apply g_op | with_reducible apply g_un | with_reducible apply g_ac | with_reducible apply g_call | with_reducible apply g_calld | with_reducible apply g_bf | with_reducible apply g_sq | with_reducible apply g_kn | with_reducible exact g_kr | with_reducible exact g_kb | with_reducible exact g_kc | with_reducible apply g_as | with_reducible apply g_pr | with_reducible apply g_au rfl | with_reducible apply g_rt | with_reducible apply g_ex | with_reducible apply g_if | with_reducible apply g_tv | with_reducible apply g_tan | with_reducible apply g_tor | with_reducible apply g_tnt | with_reducible apply g_ean | with_reducible apply g_eor | with_reducible apply g_ent | with_reducible apply g_eif | with_reducible apply g_iftt | with_reducible apply g_iffn | with_reducible apply g_ifff | with_reducible apply g_iftn | with_reducible refine g_ift (by first | assumption | omega | decide) ?_ | with_reducible refine g_iff (by first | assumption | omega | decide) ?_ | with_reducible refine g_ifnt (by first | assumption | omega | decide) ?_ | with_reducible refine g_ifnf (by first | assumption | omega | decide) ?_ | with_reducible exact rfl | with_reducible exact g_eqs | with_reducible exact g_nes | with_reducible exact g_neni | with_reducible exact g_nein | with_reducible exact g_nenn | with_reducible exact g_isn | with_reducible exact g_isi | with_reducible exact g_nsn | with_reducible exact g_nsi | with_reducible exact g_max | with_reducible exact g_max3 | with_reducible exact g_min | with_reducible exact g_intb | with_reducible apply g_gt2 | with_reducible apply g_gt3 | with_reducible apply g_tup | with_reducible apply g_lst | with_reducible exact lenOk rfl | with_reducible exact g_on | with_reducible apply g_os | with_reducible apply g_sl | with_reducible apply g_bkm | with_reducible exact g_okS )
        · (repeat' first | with_reducible exact g_v rfl | with_reducible exact g_c | with_reducible exact g_an | with_reducible exact g_add | with_reducible exact g_sub | with_reducible exact g_iadd | with_reducible exact g_lt | with_reducible exact g_le | with_reducible exact g_gt | with_reducible exact g_ge | with_reducible exact g_eq | with_reducible exact g_ne | with_reducible exact g_neg | with_reducible exact g_mul (by first | assumption | omega | decide) | with_reducible exact g_div (by first | assumption | omega | decide) (by first | assumption | omega | decide) | with_reducible exact g_mod (by first | assumption | omega | decide) | with_reducible exact g_pow (by decide) | with_reducible apply g_isint | with_reducible exact g_sk | with_reducible exact g_rn | with_reducible exact g_bk | with_reducible exact g_ct | with_reducible exact g_gn0 | with_reducible apply g_gns | with_reducible exact g_ap0 | with_reducible apply g_apS | with_reducible apply g_op | with_reducible apply g_un | with_reducible apply g_ac | with_reducible apply g_call | with_reducible apply g_calld | with_reducible apply g_bf | with_reducible apply g_sq | with_reducible apply g_kn | with_reducible exact g_kr | with_reducible exact g_kb | with_reducible exact g_kc | with_reducible apply g_as | with_reducible apply g_pr | with_reducible apply g_au rfl | with_reducible apply g_rt | with_reducible apply g_ex | with_reducible apply g_if | with_reducible apply g_tv | with_reducible apply g_tan | with_reducible apply g_tor | with_reducible apply g_tnt | with_reducible apply g_ean | with_reducible apply g_eor | with_reducible apply g_ent | with_reducible apply g_eif | with_reducible apply g_iftt | with_reducible apply g_iffn | with_reducible apply g_ifff | with_reducible apply g_iftn | with_reducible refine g_ift (by first | assumption | omega | decide) ?_ | with_reducible refine g_iff (by first | assumption | omega | decide) ?_ | with_reducible refine g_ifnt (by first | assumption | omega | decide) ?_ | with_reducible refine g_ifnf (by first | assumption | omega | decide) ?_ | with_reducible exact rfl | with_reducible exact g_eqs | with_reducible exact g_nes | with_reducible exact g_neni | with_reducible exact g_nein | with_reducible exact g_nenn | with_reducible exact g_isn | with_reducible exact g_isi | with_reducible exact g_nsn | with_reducible exact g_nsi | with_reducible exact g_max | with_reducible exact g_max3 | with_reducible exact g_min | with_reducible exact g_intb | with_reducible apply g_gt2 | with_reducible apply g_gt3 | with_reducible apply g_tup | with_reducible apply g_lst | with_reducible exact lenOk rfl | with_reducible exact g_on | with_reducible apply g_os | with_reducible apply g_sl | with_reducible apply g_bkm | with_reducible exact g_okS )
        · (repeat' first | with_reducible exact ix | with_reducible exact g_v rfl | with_reducible exact g_c | with_reducible exact g_an | with_reducible exact g_add | with_reducible exact g_sub | with_reducible exact g_iadd | with_reducible exact g_lt | with_reducible exact g_le | with_reducible exact g_gt | with_reducible exact g_ge | with_reducible exact g_eq | with_reducible exact g_ne | with_reducible exact g_neg | with_reducible exact g_mul (by first | assumption | omega | decide) | with_reducible exact g_div (by first | assumption | omega | decide) (by first | assumption | omega | decide) | with_reducible exact g_mod (by first | assumption | omega | decide) | with_reducible exact g_pow (by decide) | with_reducible apply g_isint | with_reducible exact g_sk | with_reducible exact g_rn | with_reducible exact g_bk | with_reducible exact g_ct | with_reducible exact g_gn0 | with_reducible apply g_gns | with_reducible exact g_ap0 | with_reducible apply g_apS | with_reducible apply g_op | with_reducible apply g_un | with_reducible apply g_ac | with_reducible apply g_call | with_reducible apply g_calld | with_reducible apply g_bf | with_reducible apply g_sq | with_reducible apply g_kn | with_reducible exact g_kr | with_reducible exact g_kb | with_reducible exact g_kc | with_reducible apply g_as | with_reducible apply g_pr | with_reducible apply g_au rfl | with_reducible apply g_rt | with_reducible apply g_ex | with_reducible apply g_if | with_reducible apply g_tv | with_reducible apply g_tan | with_reducible apply g_tor | with_reducible apply g_tnt | with_reducible apply g_ean | with_reducible apply g_eor | with_reducible apply g_ent | with_reducible apply g_eif | with_reducible apply g_iftt | with_reducible apply g_iffn | with_reducible apply g_ifff | with_reducible apply g_iftn | with_reducible refine g_ift (by first | assumption | omega | decide) ?_ | with_reducible refine g_iff (by first | assumption | omega | decide) ?_ | with_reducible refine g_ifnt (by first | assumption | omega | decide) ?_ | with_reducible refine g_ifnf (by first | assumption | omega | decide) ?_ | with_reducible exact rfl | with_reducible exact g_eqs | with_reducible exact g_nes | with_reducible exact g_neni | with_reducible exact g_nein | with_reducible exact g_nenn | with_reducible exact g_isn | with_reducible exact g_isi | with_reducible exact g_nsn | with_reducible exact g_nsi | with_reducible exact g_max | with_reducible exact g_max3 | with_reducible exact g_min | with_reducible exact g_intb | with_reducible apply g_gt2 | with_reducible apply g_gt3 | with_reducible apply g_tup | with_reducible apply g_lst | with_reducible exact lenOk rfl | with_reducible exact g_on | with_reducible apply g_os | with_reducible apply g_sl | with_reducible apply g_bkm | with_reducible exact g_okS )
        · exact st
      · exact ⟨_, _, rfl, by rw [take_snoc q2]⟩)
    (e := [some (.ref r), some (.ref h.length), none, none]) (h := h ++ [.dic []]) ⟨_, _, rfl, by simp [numD]⟩ (fuel := C.fuel) (by omega)
  have F := fo_of (g := gT [2, 3]) (mi := iEn (eV 0)) (e := [some (.ref r), some (.ref h.length), none, none]) (h := h ++ [.dic []]) (h1 := h ++ [.dic []]) (it := itE r) (by
    unfold iEn; rw [g_v (d := .ref r) rfl]; simp only [Z.R.bind_ok, isL_of (get_app (t := [.dic []]) g)]) F
  have dk : ∀ e : Ev, eDiK C e h = .ok (.ref h.length) (h ++ [.dic []]) := fun e => rfl
  rw [List.take_of_length_le (by simp)] at F
  refine run_rt rfl (by simp only [List.map_cons, List.map_nil, List.length_cons, List.length_nil, List.cons_append, List.nil_append, Nat.reduceAdd, Nat.reduceSub, List.replicate_succ, List.replicate_zero]; exact rfl) ?_
  (repeat' first | with_reducible exact dk _ | with_reducible exact F | with_reducible exact g_v rfl | with_reducible exact g_c | with_reducible exact g_an | with_reducible exact g_add | with_reducible exact g_sub | with_reducible exact g_iadd | with_reducible exact g_lt | with_reducible exact g_le | with_reducible exact g_gt | with_reducible exact g_ge | with_reducible exact g_eq | with_reducible exact g_ne | with_reducible exact g_neg | with_reducible exact g_mul (by first | assumption | omega | decide) | with_reducible exact g_div (by first | assumption | omega | decide) (by first | assumption | omega | decide) | with_reducible exact g_mod (by first | assumption | omega | decide) | with_reducible exact g_pow (by decide) | with_reducible apply g_isint | with_reducible exact g_sk | with_reducible exact g_rn | with_reducible exact g_bk | with_reducible exact g_ct | with_reducible exact g_gn0 | with_reducible apply g_gns | with_reducible exact g_ap0 | with_reducible apply g_apS | with_reducible apply g_op | with_reducible apply g_un | with_reducible apply g_ac | with_reducible apply g_call | with_reducible apply g_calld | with_reducible apply g_bf | with_reducible apply g_sq | with_reducible apply g_kn | with_reducible exact g_kr | with_reducible exact g_kb | with_reducible exact g_kc | with_reducible apply g_as | with_reducible apply g_pr | with_reducible apply g_au rfl | with_reducible apply g_rt | with_reducible apply g_ex | with_reducible apply g_if | with_reducible apply g_tv | with_reducible apply g_tan | with_reducible apply g_tor | with_reducible apply g_tnt | with_reducible apply g_ean | with_reducible apply g_eor | with_reducible apply g_ent | with_reducible apply g_eif | with_reducible apply g_iftt | with_reducible apply g_iffn | with_reducible apply g_ifff | with_reducible apply g_iftn | with_reducible refine g_ift (by first | assumption | omega | decide) ?_ | with_reducible refine g_iff (by first | assumption | omega | decide) ?_ | with_reducible refine g_ifnt (by first | assumption | omega | decide) ?_ | with_reducible refine g_ifnf (by first | assumption | omega | decide) ?_ | with_reducible exact rfl | with_reducible exact g_eqs | with_reducible exact g_nes | with_reducible exact g_neni | with_reducible exact g_nein | with_reducible exact g_nenn | with_reducible exact g_isn | with_reducible exact g_isi | with_reducible exact g_nsn | with_reducible exact g_nsi | with_reducible exact g_max | with_reducible exact g_max3 | with_reducible exact g_min | with_reducible exact g_intb | with_reducible apply g_gt2 | with_reducible apply g_gt3 | with_reducible apply g_tup | with_reducible apply g_lst | with_reducible exact lenOk rfl | with_reducible exact g_on | with_reducible apply g_os | with_reducible apply g_sl | with_reducible apply g_bkm | with_reducible exact g_okS )
theorem ix_limb {x : Str × Int} {h : HP} : opIx (limbD x) (.int 0) h = .ok (.str x.1) h := rfl
theorem ix_part {x : Str × Fm} {h : HP} : opIx (partD x) (.int 0) h = .ok (.str x.1) h := rfl
theorem ix_tag {f : Fm} {h : HP} : opIx f.d (.int 0) h = .ok (.str f.tag) h := by rw [f.d_eq]; exact g_ixt (by decide) rfl
theorem natD_len {js : List Nat} : (natD js).length = js.length := by simp [natD]
/-- [numbers[name] for name in ..] -/
theorem nix_run {h : HP} {C : Ctx} {xs : List Str} {d : Nat} (gd : h[d]? = some (.dic (numD 0 xs))) {ns : List Str} (hn : ∀ n ∈ ns, n ∈ xs) (l : ns.length ≤ 100) (fu : 1000 < C.fuel) {y : D} {mi : MI} {x2 : Option D} (hmi : mi C [some y, some (.ref d), x2] h = .ok (itT (ns.map D.str)) h) :
    eLc [2] (gN 2) mi tY (eOp opIx (eV 1) (eV 2)) C [some y, some (.ref d), x2] h = .ok (.ref h.length) (h ++ [.lst (natD (ns.map (ixN_ xs)))]) := by
  refine lc_of hmi ?_
  have hz : natD (ns.map (ixN_ xs)) = (List.range ns.length).map fun k => ((ns[k]?).map fun n => D.int ((ixN_ xs n : Nat) : Int)).getD .non := by
    apply List.ext_getElem?
    intro k
    unfold natD
    rw [List.getElem?_map, List.getElem?_map, List.getElem?_map]
    by_cases hk : k < ns.length
    · have q : ns[k]? = some ns[k] := List.getElem?_eq_getElem hk
      rw [List.getElem?_range hk]
      simp only [Option.map_some, q]
      rfl
    · rw [List.getElem?_eq_none (by omega), List.getElem?_eq_none (by simp; omega)]; rfl
  rw [hz]
  refine cmp_all (n := ns.length) (fun k => ((ns[k]?).map D.str).getD .non) (fun k => ((ns[k]?).map fun n => D.int ((ixN_ xs n : Nat) : Int)).getD .non) (fun k hk => ?_) itT_end (fun k hk => ⟨_, rfl, ?_⟩) (by rw [sizeLine_eq]; omega) ns.length 0 [] (by omega) rfl _ (by omega)
  · have q : ns[k]? = some ns[k] := List.getElem?_eq_getElem hk
    rw [itT_at q, q]; rfl
  · have q : ns[k]? = some ns[k] := List.getElem?_eq_getElem hk
    rw [q]
    have ix := g_ixNum gd (hn _ (List.getElem_mem hk))
    show (eOp opIx (eV 1) (eV 2)) C [some y, some (.ref d), some (.str ns[k])] h = .ok (.int ((ixN_ xs ns[k] : Nat) : Int)) h
    (repeat' first | with_reducible exact ix | with_reducible exact g_v rfl | with_reducible exact g_c | with_reducible exact g_an | with_reducible exact g_add | with_reducible exact g_sub | with_reducible exact g_iadd | with_reducible exact g_lt | with_reducible exact g_le | with_reducible exact g_gt | with_reducible exact g_ge | with_reducible exact g_eq | with_reducible exact g_ne | with_reducible exact g_neg | with_reducible exact g_mul (by first | assumption | omega | decide) | with_reducible exact g_div (by first | assumption | omega | decide) (by first | assumption | omega | decide) | with_reducible exact g_mod (by first | assumption | omega | decide) | with_reducible exact g_pow (by decide) | with_reducible apply g_isint | with_reducible exact g_sk | with_reducible exact g_rn | with_reducible exact g_bk | with_reducible exact g_ct | with_reducible exact g_gn0 | with_reducible apply g_gns | with_reducible exact g_ap0 | with_reducible apply g_apS | with_reducible apply g_op | with_reducible apply g_un | with_reducible apply g_ac | with_reducible apply g_call | with_reducible apply g_calld | with_reducible apply g_bf | with_reducible apply g_sq | with_reducible apply g_kn | with_reducible exact g_kr | with_reducible exact g_kb | with_reducible exact g_kc | with_reducible apply g_as | with_reducible apply g_pr | with_reducible apply g_au rfl | with_reducible apply g_rt | with_reducible apply g_ex | with_reducible apply g_if | with_reducible apply g_tv | with_reducible apply g_tan | with_reducible apply g_tor | with_reducible apply g_tnt | with_reducible apply g_ean | with_reducible apply g_eor | with_reducible apply g_ent | with_reducible apply g_eif | with_reducible apply g_iftt | with_reducible apply g_iffn | with_reducible apply g_ifff | with_reducible apply g_iftn | with_reducible refine g_ift (by first | assumption | omega | decide) ?_ | with_reducible refine g_iff (by first | assumption | omega | decide) ?_ | with_reducible refine g_ifnt (by first | assumption | omega | decide) ?_ | with_reducible refine g_ifnf (by first | assumption | omega | decide) ?_ | with_reducible exact rfl | with_reducible exact g_eqs | with_reducible exact g_nes | with_reducible exact g_neni | with_reducible exact g_nein | with_reducible exact g_nenn | with_reducible exact g_isn | with_reducible exact g_isi | with_reducible exact g_nsn | with_reducible exact g_nsi | with_reducible exact g_max | with_reducible exact g_max3 | with_reducible exact g_min | with_reducible exact g_intb | with_reducible apply g_gt2 | with_reducible apply g_gt3 | with_reducible apply g_tup | with_reducible apply g_lst | with_reducible exact lenOk rfl | with_reducible exact g_on | with_reducible apply g_os | with_reducible apply g_sl | with_reducible apply g_bkm | with_reducible exact g_okS )
theorem named_run {h : HP} {C : Ctx} {P : List (Str × Fm)} {f : Fm} (hn : ∀ n ∈ f.pns, n ∈ pnm P) (l : f.pns.length ≤ 8) {d : Nat} (gd : h[d]? = some (.dic (numD 0 (pnm P)))) (fu : 1000 < C.fuel) :
    runFn C f_named [f.d, .ref d] h = .ok (.ref h.length) (h ++ [.lst (natD (namedIx P f))]) := by
  have it0 : ∀ h : HP, opIx f.d (.int 0) h = .ok (.str f.tag) h := fun h => ix_tag
  have none_ : f.tag ≠ "row" → f.tag ≠ "side" → f.tag ≠ "again" → f.pns = [] → runFn C f_named [f.d, .ref d] h = .ok (.ref h.length) (h ++ [.lst (natD (namedIx P f))]) := fun n1 n2 n3 e => by
    have e1 := g_eqsn (h := h) n1
    have e2 := g_eqsn (h := h) n2
    have e3 := g_eqsn (h := h) n3
    unfold namedIx
    rw [e]
    show _ = R.ok _ (h ++ [O.lst []])
    refine run_rt rfl (by simp only [List.map_cons, List.map_nil, List.length_cons, List.length_nil, List.cons_append, List.nil_append, Nat.reduceAdd, Nat.reduceSub, List.replicate_succ, List.replicate_zero]; exact rfl) ?_
    (repeat' first | with_reducible exact it0 _ | with_reducible exact e1 | with_reducible exact e2 | with_reducible exact e3 | with_reducible exact g_v rfl | with_reducible exact g_c | with_reducible exact g_an | with_reducible exact g_add | with_reducible exact g_sub | with_reducible exact g_iadd | with_reducible exact g_lt | with_reducible exact g_le | with_reducible exact g_gt | with_reducible exact g_ge | with_reducible exact g_eq | with_reducible exact g_ne | with_reducible exact g_neg | with_reducible exact g_mul (by first | assumption | omega | decide) | with_reducible exact g_div (by first | assumption | omega | decide) (by first | assumption | omega | decide) | with_reducible exact g_mod (by first | assumption | omega | decide) | with_reducible exact g_pow (by decide) | with_reducible apply g_isint | with_reducible exact g_sk | with_reducible exact g_rn | with_reducible exact g_bk | with_reducible exact g_ct | with_reducible exact g_gn0 | with_reducible apply g_gns | with_reducible exact g_ap0 | with_reducible apply g_apS | with_reducible apply g_op | with_reducible apply g_un | with_reducible apply g_ac | with_reducible apply g_call | with_reducible apply g_calld | with_reducible apply g_bf | with_reducible apply g_sq | with_reducible apply g_kn | with_reducible exact g_kr | with_reducible exact g_kb | with_reducible exact g_kc | with_reducible apply g_as | with_reducible apply g_pr | with_reducible apply g_au rfl | with_reducible apply g_rt | with_reducible apply g_ex | with_reducible apply g_if | with_reducible apply g_tv | with_reducible apply g_tan | with_reducible apply g_tor | with_reducible apply g_tnt | with_reducible apply g_ean | with_reducible apply g_eor | with_reducible apply g_ent | with_reducible apply g_eif | with_reducible apply g_iftt | with_reducible apply g_iffn | with_reducible apply g_ifff | with_reducible apply g_iftn | with_reducible refine g_ift (by first | assumption | omega | decide) ?_ | with_reducible refine g_iff (by first | assumption | omega | decide) ?_ | with_reducible refine g_ifnt (by first | assumption | omega | decide) ?_ | with_reducible refine g_ifnf (by first | assumption | omega | decide) ?_ | with_reducible exact rfl | with_reducible exact g_eqs | with_reducible exact g_nes | with_reducible exact g_neni | with_reducible exact g_nein | with_reducible exact g_nenn | with_reducible exact g_isn | with_reducible exact g_isi | with_reducible exact g_nsn | with_reducible exact g_nsi | with_reducible exact g_max | with_reducible exact g_max3 | with_reducible exact g_min | with_reducible exact g_intb | with_reducible apply g_gt2 | with_reducible apply g_gt3 | with_reducible apply g_tup | with_reducible apply g_lst | with_reducible exact lenOk rfl | with_reducible exact g_on | with_reducible apply g_os | with_reducible apply g_sl | with_reducible apply g_bkm | with_reducible exact g_okS )
  have tup_ : ∀ ns : List Str, f.pns = ns → f.d = .tup [.str f.tag, .tup (ns.map D.str)] → f.tag = "row" ∨ f.tag = "side" → runFn C f_named [f.d, .ref d] h = .ok (.ref h.length) (h ++ [.lst (natD (namedIx P f))]) := fun ns e ed ht => by
    rw [e] at hn l
    have ix1 : opIx f.d (.int 1) h = .ok (.tup (ns.map D.str)) h := by rw [ed]; exact g_ixt (by decide) rfl
    have LC := nix_run (C := C) (y := f.d) (x2 := none) (mi := iA (eOp opIx (eV 0) (eC (.int 1)))) gd hn (by omega) fu (by
      have q : (eOp opIx (eV 0) (eC (.int 1))) C [some f.d, some (.ref d), none] h = .ok (.tup (ns.map D.str)) h := by (repeat' first | with_reducible exact ix1 | with_reducible exact g_v rfl | with_reducible exact g_c | with_reducible exact g_an | with_reducible exact g_add | with_reducible exact g_sub | with_reducible exact g_iadd | with_reducible exact g_lt | with_reducible exact g_le | with_reducible exact g_gt | with_reducible exact g_ge | with_reducible exact g_eq | with_reducible exact g_ne | with_reducible exact g_neg | with_reducible exact g_mul (by first | assumption | omega | decide) | with_reducible exact g_div (by first | assumption | omega | decide) (by first | assumption | omega | decide) | with_reducible exact g_mod (by first | assumption | omega | decide) | with_reducible exact g_pow (by decide) | with_reducible apply g_isint | with_reducible exact g_sk | with_reducible exact g_rn | with_reducible exact g_bk | with_reducible exact g_ct | with_reducible exact g_gn0 | with_reducible apply g_gns | with_reducible exact g_ap0 | with_reducible apply g_apS | with_reducible apply g_op | with_reducible apply g_un | with_reducible apply g_ac | with_reducible apply g_call | with_reducible apply g_calld | with_reducible apply g_bf | with_reducible apply g_sq | with_reducible apply g_kn | with_reducible exact g_kr | with_reducible exact g_kb | with_reducible exact g_kc | with_reducible apply g_as | with_reducible apply g_pr | with_reducible apply g_au rfl | with_reducible apply g_rt | with_reducible apply g_ex | with_reducible apply g_if | with_reducible apply g_tv | with_reducible apply g_tan | with_reducible apply g_tor | with_reducible apply g_tnt | with_reducible apply g_ean | with_reducible apply g_eor | with_reducible apply g_ent | with_reducible apply g_eif | with_reducible apply g_iftt | with_reducible apply g_iffn | with_reducible apply g_ifff | with_reducible apply g_iftn | with_reducible refine g_ift (by first | assumption | omega | decide) ?_ | with_reducible refine g_iff (by first | assumption | omega | decide) ?_ | with_reducible refine g_ifnt (by first | assumption | omega | decide) ?_ | with_reducible refine g_ifnf (by first | assumption | omega | decide) ?_ | with_reducible exact rfl | with_reducible exact g_eqs | with_reducible exact g_nes | with_reducible exact g_neni | with_reducible exact g_nein | with_reducible exact g_nenn | with_reducible exact g_isn | with_reducible exact g_isi | with_reducible exact g_nsn | with_reducible exact g_nsi | with_reducible exact g_max | with_reducible exact g_max3 | with_reducible exact g_min | with_reducible exact g_intb | with_reducible apply g_gt2 | with_reducible apply g_gt3 | with_reducible apply g_tup | with_reducible apply g_lst | with_reducible exact lenOk rfl | with_reducible exact g_on | with_reducible apply g_os | with_reducible apply g_sl | with_reducible apply g_bkm | with_reducible exact g_okS )
      unfold iA; rw [q]; rfl)
    have e' : namedIx P f = ns.map (ixN_ (pnm P)) := by unfold namedIx; rw [e]
    rw [e']
    rcases ht with ht | ht
    · have er := g_eqsr (p := ("row" : Str)) (h := h)
      rw [ht] at it0
      refine run_rt rfl (by simp only [List.map_cons, List.map_nil, List.length_cons, List.length_nil, List.cons_append, List.nil_append, Nat.reduceAdd, Nat.reduceSub, List.replicate_succ, List.replicate_zero]; exact rfl) ?_
      (repeat' first | with_reducible exact it0 _ | with_reducible exact er | with_reducible exact LC | with_reducible exact g_v rfl | with_reducible exact g_c | with_reducible exact g_an | with_reducible exact g_add | with_reducible exact g_sub | with_reducible exact g_iadd | with_reducible exact g_lt | with_reducible exact g_le | with_reducible exact g_gt | with_reducible exact g_ge | with_reducible exact g_eq | with_reducible exact g_ne | with_reducible exact g_neg | with_reducible exact g_mul (by first | assumption | omega | decide) | with_reducible exact g_div (by first | assumption | omega | decide) (by first | assumption | omega | decide) | with_reducible exact g_mod (by first | assumption | omega | decide) | with_reducible exact g_pow (by decide) | with_reducible apply g_isint | with_reducible exact g_sk | with_reducible exact g_rn | with_reducible exact g_bk | with_reducible exact g_ct | with_reducible exact g_gn0 | with_reducible apply g_gns | with_reducible exact g_ap0 | with_reducible apply g_apS | with_reducible apply g_op | with_reducible apply g_un | with_reducible apply g_ac | with_reducible apply g_call | with_reducible apply g_calld | with_reducible apply g_bf | with_reducible apply g_sq | with_reducible apply g_kn | with_reducible exact g_kr | with_reducible exact g_kb | with_reducible exact g_kc | with_reducible apply g_as | with_reducible apply g_pr | with_reducible apply g_au rfl | with_reducible apply g_rt | with_reducible apply g_ex | with_reducible apply g_if | with_reducible apply g_tv | with_reducible apply g_tan | with_reducible apply g_tor | with_reducible apply g_tnt | with_reducible apply g_ean | with_reducible apply g_eor | with_reducible apply g_ent | with_reducible apply g_eif | with_reducible apply g_iftt | with_reducible apply g_iffn | with_reducible apply g_ifff | with_reducible apply g_iftn | with_reducible refine g_ift (by first | assumption | omega | decide) ?_ | with_reducible refine g_iff (by first | assumption | omega | decide) ?_ | with_reducible refine g_ifnt (by first | assumption | omega | decide) ?_ | with_reducible refine g_ifnf (by first | assumption | omega | decide) ?_ | with_reducible exact rfl | with_reducible exact g_eqs | with_reducible exact g_nes | with_reducible exact g_neni | with_reducible exact g_nein | with_reducible exact g_nenn | with_reducible exact g_isn | with_reducible exact g_isi | with_reducible exact g_nsn | with_reducible exact g_nsi | with_reducible exact g_max | with_reducible exact g_max3 | with_reducible exact g_min | with_reducible exact g_intb | with_reducible apply g_gt2 | with_reducible apply g_gt3 | with_reducible apply g_tup | with_reducible apply g_lst | with_reducible exact lenOk rfl | with_reducible exact g_on | with_reducible apply g_os | with_reducible apply g_sl | with_reducible apply g_bkm | with_reducible exact g_okS )
    · have er := g_eqsr (p := ("side" : Str)) (h := h)
      have e1 := g_eqsn (p := ("side" : Str)) (q := "row") (h := h) (by decide)
      rw [ht] at it0
      refine run_rt rfl (by simp only [List.map_cons, List.map_nil, List.length_cons, List.length_nil, List.cons_append, List.nil_append, Nat.reduceAdd, Nat.reduceSub, List.replicate_succ, List.replicate_zero]; exact rfl) ?_
      (repeat' first | with_reducible exact it0 _ | with_reducible exact e1 | with_reducible exact er | with_reducible exact LC | with_reducible exact g_v rfl | with_reducible exact g_c | with_reducible exact g_an | with_reducible exact g_add | with_reducible exact g_sub | with_reducible exact g_iadd | with_reducible exact g_lt | with_reducible exact g_le | with_reducible exact g_gt | with_reducible exact g_ge | with_reducible exact g_eq | with_reducible exact g_ne | with_reducible exact g_neg | with_reducible exact g_mul (by first | assumption | omega | decide) | with_reducible exact g_div (by first | assumption | omega | decide) (by first | assumption | omega | decide) | with_reducible exact g_mod (by first | assumption | omega | decide) | with_reducible exact g_pow (by decide) | with_reducible apply g_isint | with_reducible exact g_sk | with_reducible exact g_rn | with_reducible exact g_bk | with_reducible exact g_ct | with_reducible exact g_gn0 | with_reducible apply g_gns | with_reducible exact g_ap0 | with_reducible apply g_apS | with_reducible apply g_op | with_reducible apply g_un | with_reducible apply g_ac | with_reducible apply g_call | with_reducible apply g_calld | with_reducible apply g_bf | with_reducible apply g_sq | with_reducible apply g_kn | with_reducible exact g_kr | with_reducible exact g_kb | with_reducible exact g_kc | with_reducible apply g_as | with_reducible apply g_pr | with_reducible apply g_au rfl | with_reducible apply g_rt | with_reducible apply g_ex | with_reducible apply g_if | with_reducible apply g_tv | with_reducible apply g_tan | with_reducible apply g_tor | with_reducible apply g_tnt | with_reducible apply g_ean | with_reducible apply g_eor | with_reducible apply g_ent | with_reducible apply g_eif | with_reducible apply g_iftt | with_reducible apply g_iffn | with_reducible apply g_ifff | with_reducible apply g_iftn | with_reducible refine g_ift (by first | assumption | omega | decide) ?_ | with_reducible refine g_iff (by first | assumption | omega | decide) ?_ | with_reducible refine g_ifnt (by first | assumption | omega | decide) ?_ | with_reducible refine g_ifnf (by first | assumption | omega | decide) ?_ | with_reducible exact rfl | with_reducible exact g_eqs | with_reducible exact g_nes | with_reducible exact g_neni | with_reducible exact g_nein | with_reducible exact g_nenn | with_reducible exact g_isn | with_reducible exact g_isi | with_reducible exact g_nsn | with_reducible exact g_nsi | with_reducible exact g_max | with_reducible exact g_max3 | with_reducible exact g_min | with_reducible exact g_intb | with_reducible apply g_gt2 | with_reducible apply g_gt3 | with_reducible apply g_tup | with_reducible apply g_lst | with_reducible exact lenOk rfl | with_reducible exact g_on | with_reducible apply g_os | with_reducible apply g_sl | with_reducible apply g_bkm | with_reducible exact g_okS )
  cases f with
  | hold b => exact none_ (by simp only [Fm.tag]; decide) (by simp only [Fm.tag]; decide) (by simp only [Fm.tag]; decide) rfl
  | ring w b => exact none_ (by simp only [Fm.tag]; decide) (by simp only [Fm.tag]; decide) (by simp only [Fm.tag]; decide) rfl
  | raise a t b => exact none_ (by simp only [Fm.tag]; decide) (by simp only [Fm.tag]; decide) (by simp only [Fm.tag]; decide) rfl
  | row ns => exact tup_ ns rfl rfl (.inl rfl)
  | side ns => exact tup_ ns rfl rfl (.inr rfl)
  | again t n =>
    have e1 := g_eqsn (p := ("again" : Str)) (q := "row") (h := h) (by decide)
    have e2 := g_eqsn (p := ("again" : Str)) (q := "side") (h := h) (by decide)
    have er := g_eqsr (p := ("again" : Str)) (h := h)
    have ix2 : opIx (Fm.again t n).d (.int 2) h = .ok (.str n) h := rfl
    have ixn := g_ixNum gd (hn n (by simp [Fm.pns]))
    have it0 : ∀ h : HP, opIx (Fm.again t n).d (.int 0) h = .ok (.str "again") h := it0
    show runFn C f_named [(Fm.again t n).d, .ref d] h = .ok (.ref h.length) (h ++ [.lst [.int ((ixN_ (pnm P) n : Nat) : Int)]])
    refine run_rt rfl (by simp only [List.map_cons, List.map_nil, List.length_cons, List.length_nil, List.cons_append, List.nil_append, Nat.reduceAdd, Nat.reduceSub, List.replicate_succ, List.replicate_zero]; exact rfl) ?_
    (repeat' first | with_reducible exact it0 _ | with_reducible exact e1 | with_reducible exact e2 | with_reducible exact er | with_reducible exact ix2 | with_reducible exact ixn | with_reducible exact g_v rfl | with_reducible exact g_c | with_reducible exact g_an | with_reducible exact g_add | with_reducible exact g_sub | with_reducible exact g_iadd | with_reducible exact g_lt | with_reducible exact g_le | with_reducible exact g_gt | with_reducible exact g_ge | with_reducible exact g_eq | with_reducible exact g_ne | with_reducible exact g_neg | with_reducible exact g_mul (by first | assumption | omega | decide) | with_reducible exact g_div (by first | assumption | omega | decide) (by first | assumption | omega | decide) | with_reducible exact g_mod (by first | assumption | omega | decide) | with_reducible exact g_pow (by decide) | with_reducible apply g_isint | with_reducible exact g_sk | with_reducible exact g_rn | with_reducible exact g_bk | with_reducible exact g_ct | with_reducible exact g_gn0 | with_reducible apply g_gns | with_reducible exact g_ap0 | with_reducible apply g_apS | with_reducible apply g_op | with_reducible apply g_un | with_reducible apply g_ac | with_reducible apply g_call | with_reducible apply g_calld | with_reducible apply g_bf | with_reducible apply g_sq | with_reducible apply g_kn | with_reducible exact g_kr | with_reducible exact g_kb | with_reducible exact g_kc | with_reducible apply g_as | with_reducible apply g_pr | with_reducible apply g_au rfl | with_reducible apply g_rt | with_reducible apply g_ex | with_reducible apply g_if | with_reducible apply g_tv | with_reducible apply g_tan | with_reducible apply g_tor | with_reducible apply g_tnt | with_reducible apply g_ean | with_reducible apply g_eor | with_reducible apply g_ent | with_reducible apply g_eif | with_reducible apply g_iftt | with_reducible apply g_iffn | with_reducible apply g_ifff | with_reducible apply g_iftn | with_reducible refine g_ift (by first | assumption | omega | decide) ?_ | with_reducible refine g_iff (by first | assumption | omega | decide) ?_ | with_reducible refine g_ifnt (by first | assumption | omega | decide) ?_ | with_reducible refine g_ifnf (by first | assumption | omega | decide) ?_ | with_reducible exact rfl | with_reducible exact g_eqs | with_reducible exact g_nes | with_reducible exact g_neni | with_reducible exact g_nein | with_reducible exact g_nenn | with_reducible exact g_isn | with_reducible exact g_isi | with_reducible exact g_nsn | with_reducible exact g_nsi | with_reducible exact g_max | with_reducible exact g_max3 | with_reducible exact g_min | with_reducible exact g_intb | with_reducible apply g_gt2 | with_reducible apply g_gt3 | with_reducible apply g_tup | with_reducible apply g_lst | with_reducible exact lenOk rfl | with_reducible exact g_on | with_reducible apply g_os | with_reducible apply g_sl | with_reducible apply g_bkm | with_reducible exact g_okS )
theorem g_srs {h : HP} {m : Nat} {ns : List Int} (g : h[m]? = some (.lst (ns.map D.int))) (l : ns.length ≤ 500) (u : (uniq ns).length < 64) : bSrS (.ref m) h = .ok (.ref h.length) (h ++ [.lst ((srtI (uniq ns)).map D.int)]) := by
  have l2 : ns.length + 1 < scanBound := by have : scanBound = 4096 := rfl; omega
  simp only [bSrS, isL_of g, intsD_ints, if_pos (And.intro l2 u)]
/-- new lists, one a part -/
structure TL (lo : Nat) (h : HP) (refs : List Nat) (M : List (List D)) : Prop where
  len : refs.length = M.length
  each : ∀ k i, refs[k]? = some i → h[i]? = some (.lst (M.getD k [])) ∧ lo ≤ i
  up : refs.Pairwise (· < ·)
theorem TL.kp {lo : Nat} {h h' : HP} {refs : List Nat} {M : List (List D)} (t : TL lo h refs M) (k : Kp h h') : TL lo h' refs M := ⟨t.len, fun j i q => ⟨k _ _ (t.each j i q).1, (t.each j i q).2⟩, t.up⟩
theorem TL.nil {lo : Nat} {h : HP} : TL lo h [] [] := ⟨rfl, fun k i q => by simp at q, .nil⟩
theorem TL.snoc {lo : Nat} {h : HP} {refs : List Nat} {M : List (List D)} (t : TL lo h refs M) (l : lo ≤ h.length) {xs : List D} : TL lo (h ++ [.lst xs]) (refs ++ [h.length]) (M ++ [xs]) := by
  have lt : ∀ i ∈ refs, i < h.length := fun i hi => by
    obtain ⟨k, hk⟩ := List.mem_iff_getElem?.mp hi
    exact (List.getElem?_eq_some_iff.mp (t.each k i hk).1).1
  refine ⟨by rw [List.length_append, List.length_append, t.len]; rfl, fun k i q => ?_, List.pairwise_append.mpr ⟨t.up, List.pairwise_singleton _ _, fun a ha b hb => by rw [List.mem_singleton.mp hb]; exact lt a ha⟩⟩
  by_cases hk : k < refs.length
  · rw [List.getElem?_append_left hk] at q
    rw [getD_app (by rw [← t.len]; exact hk)]
    exact ⟨get_app (t.each k i q).1, (t.each k i q).2⟩
  · rw [List.getElem?_append_right (by omega)] at q
    have z : k = refs.length := by
      cases z : k - refs.length with
      | zero => omega
      | succ n => rw [z] at q; simp at q
    subst z
    simp only [Nat.sub_self, List.getElem?_cons_zero, Option.some.injEq] at q
    subst q
    rw [t.len, getD_new, get_new]
    exact ⟨rfl, l⟩
theorem TL.get {lo : Nat} {h : HP} {refs : List Nat} {M : List (List D)} (t : TL lo h refs M) {tl : Nat} (g : h[tl]? = some (.lst (refs.map D.ref))) {j : Nat} (hj : j < M.length) : ∃ i, opIx (.ref tl) (.int (j : Int)) h = .ok (.ref i) h ∧ h[i]? = some (.lst (M.getD j [])) ∧ refs[j]? = some i := by
  obtain ⟨i, e⟩ : ∃ i, refs[j]? = some i := ⟨_, List.getElem?_eq_getElem (by rw [t.len]; exact hj)⟩
  exact ⟨i, g_ixl g (by omega) (by rw [Int.toNat_natCast, List.getElem?_map, e]; rfl), (t.each j _ e).1, e⟩
/-! limbs moved -/
def own (L : List (Str × Int)) : Fm → List Int
  | .raise l _ _ => [((ixN_ (lnm L) l : Nat) : Int)]
  | _ => []
def mv1 (L : List (Str × Int)) (P : List (Str × Fm)) (M : List (List Int)) (f : Fm) : List Int := srtI (uniq (own L f ++ (namedIx P f).flatMap fun j => M.getD j []))
structure MvOk (L : List (Str × Int)) (P : List (Str × Fm)) (n : Nat) (M : List (List Int)) : Prop where
  len : M.length = n
  all : ∀ k x, k < n → P[k]? = some x → M.getD k [] = mv1 L P M x.2
  bd : ∀ k z, z ∈ M.getD k [] → 0 ≤ z ∧ z < L.length
  up : ∀ k, (M.getD k []).Pairwise (· < ·)
theorem own_bd {L : List (Str × Int)} {P : List (Str × Fm)} {k : Nat} {f : Fm} (r : FmRef L P k f) : (∀ z ∈ own L f, 0 ≤ z ∧ z < L.length) ∧ (own L f).length ≤ 1 := by
  cases f with
  | raise l t b =>
    have := ixN_lt r.1
    unfold lnm at this
    rw [List.length_map] at this
    refine ⟨all1 ⟨by omega, ?_⟩, by simp [own]⟩
    show ((ixN_ (List.map (·.1) L) l : Nat) : Int) < _
    omega
  | hold b => exact ⟨fun z hz => by simp [own] at hz, by simp [own]⟩
  | ring w b => exact ⟨fun z hz => by simp [own] at hz, by simp [own]⟩
  | row ns => exact ⟨fun z hz => by simp [own] at hz, by simp [own]⟩
  | side ns => exact ⟨fun z hz => by simp [own] at hz, by simp [own]⟩
  | again t n => exact ⟨fun z hz => by simp [own] at hz, by simp [own]⟩
theorem MvOk.len8 {L : List (Str × Int)} {P : List (Str × Fm)} {n : Nat} {M : List (List Int)} (m : MvOk L P n M) (l : L.length ≤ 8) (k : Nat) : (M.getD k []).length ≤ 8 := by
  have := rise_len _ 0 L.length (m.up k) (m.bd k)
  omega
theorem flat_len {M : List (List Int)} {js : List Nat} (h : ∀ k, (M.getD k []).length ≤ 8) : (js.flatMap fun j => M.getD j []).length ≤ 8 * js.length := by
  induction js with
  | nil => simp
  | cons j js ih =>
    have := h j
    rw [List.flatMap_cons, List.length_append, List.length_cons]
    omega
theorem uniq_bd {ns : List Int} {n : Nat} (h : ∀ z ∈ ns, 0 ≤ z ∧ z < n) : (uniq ns).length ≤ n := by
  have := rise_len (srtI (uniq ns)) 0 n (srt_lt (uniq_nd ns)) fun z hz => h z (uniq_mem.mp (srt_mem.mp hz))
  have e : (srtI (uniq ns)).length = (uniq ns).length := (List.mergeSort_perm (uniq ns) _).length_eq
  omega
theorem flat_congr {α β : Type} {xs : List α} {f g : α → List β} (h : ∀ x ∈ xs, f x = g x) : xs.flatMap f = xs.flatMap g := by rw [List.flatMap_def, List.flatMap_def, List.map_congr_left h]
theorem mv1_app {L : List (Str × Int)} {P : List (Str × Fm)} {M : List (List Int)} {f : Fm} (h : ∀ j ∈ namedIx P f, j < M.length) {xs : List Int} : mv1 L P (M ++ [xs]) f = mv1 L P M f := by
  unfold mv1
  congr 3
  refine flat_congr fun j hj => getD_app (h j hj)
theorem MvOk.snoc {L : List (Str × Int)} {P : List (Str × Fm)} {n : Nat} {M : List (List Int)} (o : BkOk L P) (m : MvOk L P n M) {x : Str × Fm} (q : P[n]? = some x) : MvOk L P (n + 1) (M ++ [mv1 L P M x.2]) := by
  have na := fun (k : Nat) (x : Str × Fm) (q : P[k]? = some x) => named_ahead o q
  have ob := own_bd (o.fm n x q)
  have bz : ∀ z ∈ own L x.2 ++ (namedIx P x.2).flatMap (fun j => M.getD j []), 0 ≤ z ∧ z < L.length := fun z hz => by
    rcases List.mem_append.mp hz with h | h
    · exact ob.1 z h
    · obtain ⟨j, _, h⟩ := List.mem_flatMap.mp h
      exact m.bd j z h
  have get : ∀ k, (M ++ [mv1 L P M x.2]).getD k [] = M.getD k [] ∨ (M ++ [mv1 L P M x.2]).getD k [] = mv1 L P M x.2 := fun k => by
    by_cases hk : k < M.length
    · exact .inl (getD_app hk)
    · by_cases e : k = M.length
      · subst e; exact .inr getD_new
      · left
        rw [List.getD_eq_getElem?_getD, List.getD_eq_getElem?_getD, List.getElem?_eq_none (by simp; omega), List.getElem?_eq_none (by omega)]
  refine ⟨by rw [List.length_append, m.len]; rfl, fun k y hk hq => ?_, fun k z hz => ?_, fun k => ?_⟩
  · rw [mv1_app fun j hj => by rw [m.len]; have := ((na k y hq).2.1 j hj).1; omega]
    by_cases e : k < n
    · rw [getD_app (by rw [m.len]; exact e)]
      exact m.all k y e hq
    · have : k = n := by omega
      subst this
      rw [q] at hq
      cases hq
      have := m.len
      rw [show k = M.length by omega]
      exact getD_new
  · rcases get k with e | e <;> rw [e] at hz
    · exact m.bd k z hz
    · exact bz z (uniq_mem.mp (srt_mem.mp hz))
  · rcases get k with e | e <;> rw [e]
    · exact m.up k
    · exact srt_lt (uniq_nd _)
/-! lists of new lists, statements -/
theorem g_okL_of {h : HP} {i : Nat} {xs : List D} (g : h[i]? = some (.lst xs)) : okL (.ref i) h = true := g_okL (isL_of g)
theorem natD_at {js : List Nat} {i j : Nat} {h : HP} {t : Nat} (g : h[t]? = some (.lst (natD js))) (q : js[i]? = some j) : itL t i h = some (some (.int (j : Int))) := itL_at (f := fun j : Nat => D.int (j : Int)) g q
theorem natD_end {js : List Nat} {h : HP} {t : Nat} (g : h[t]? = some (.lst (natD js))) : itL t js.length h = some none := itL_end (f := fun j : Nat => D.int (j : Int)) g
theorem map_getD (M : List (List Int)) (j : Nat) : (M.map (·.map D.int)).getD j [] = (M.getD j []).map D.int := by
  rw [List.getD_eq_getElem?_getD, List.getD_eq_getElem?_getD, List.getElem?_map]
  cases M[j]? <;> rfl
/-- the first two of three -/
theorem sq_of2 {C : Ctx} {s1 s2 s3 : MS} {e1 e2 : Ev} {hA hB : HP} (q : (sSq s1 s2) C e1 hA = .ok (.nx e2) hB) (r : Z.R FL) (q2 : s3 C e2 hB = r) : (sSq s1 (sSq s2 s3)) C e1 hA = r := by
  unfold sSq at q ⊢
  cases q1 : s1 C e1 hA with
  | ok fl hh =>
    rw [q1] at q
    cases fl with
    | nx e' =>
      simp only [Z.R.bind_ok] at q ⊢
      rw [q]
      exact q2
    | rt d => simp only [Z.R.bind_ok] at q; cases q
    | bk e' => simp only [Z.R.bind_ok] at q; cases q
    | ct e' => simp only [Z.R.bind_ok] at q; cases q
  | ex _ _ _ => rw [q1] at q; cases q
  | no => rw [q1] at q; cases q
/-! _law_numbers, _law_named -/
theorem g_lenD {h : HP} {i : Nat} {kvs : List (Key × D)} (g : h[i]? = some (.dic kvs)) : bLen [.ref i] h = .ok (.int (kvs.length : Int)) h := by simp only [bLen, g]
theorem ist_L {T : String} {C : Ctx} {e : Ev} {h : HP} {k i : Nat} {xs : List D} (q : e[k]? = some (some (.ref i))) (g : h[i]? = some (.lst xs)) : tV (eIs T (eV k)) C e h = .ok ("list" == T || ("list" == "bool" && T == "int")) h := by
  unfold tV eIs; rw [g_v q]; simp only [Z.R.bind_ok, tyName, g]
theorem ist_I {T : String} {C : Ctx} {e : Ev} {h : HP} {k : Nat} {i : Int} (q : e[k]? = some (some (.int i))) : tV (eIs T (eV k)) C e h = .ok ("int" == T || ("int" == "bool" && T == "int")) h := by
  unfold tV eIs; rw [g_v q]; rfl
theorem ise_I {T : String} {C : Ctx} {e : Ev} {h : HP} {k : Nat} {i : Int} (q : e[k]? = some (some (.int i))) : eIs T (eV k) C e h = .ok (.bl ("int" == T || ("int" == "bool" && T == "int"))) h := by
  unfold eIs; rw [g_v q]; rfl
theorem ist_T {T : String} {C : Ctx} {e : Ev} {h : HP} {k : Nat} {xs : List D} (q : e[k]? = some (some (.tup xs))) : tV (eIs T (eV k)) C e h = .ok ("tuple" == T || ("tuple" == "bool" && T == "int")) h := by
  unfold tV eIs; rw [g_v q]; rfl
/-- two nodup lists of the same numbers, sorted -/
theorem srt_eq {xs ys : List Int} (h1 : xs.Nodup) (h2 : ys.Nodup) (h : ∀ z, z ∈ xs ↔ z ∈ ys) : srtI xs = srtI ys :=
  srt_uniq ((List.mergeSort_perm xs _).trans ((List.perm_ext_iff_of_nodup h1 h2).mpr h)) ((srt_lt h1).imp fun h => by omega)
theorem srt_id {xs : List Int} (h : xs.Pairwise (· < ·)) : srtI xs = xs := (srt_uniq (List.Perm.refl xs) (h.imp fun h => by omega)).symm
theorem rise_nd {xs : List Int} (h : xs.Pairwise (· < ·)) : xs.Nodup := h.imp fun h => by omega
/-! lists of lists of whole numbers as data -/
theorem Pd.nums {h : HP} {t : Nat} {refs : List Nat} {Ms : List (List Int)} (gt : h[t]? = some (.lst (refs.map D.ref))) (le : refs.length = Ms.length) (each : ∀ (k i : Nat), refs[k]? = some i → h[i]? = some (.lst ((Ms.getD k []).map D.int))) : Pd h 2 (.ref t) (.list (Ms.map fun ns => .list (ns.map PyData.int))) := by
  have e1 : refs.map D.ref = (refs.zip Ms).map fun x => D.ref x.1 := by
    rw [show (fun x : Nat × List Int => D.ref x.1) = D.ref ∘ Prod.fst from rfl, ← List.map_map, List.map_fst_zip (by omega)]
  have e2 : (Ms.map fun ns : List Int => PyData.list (ns.map PyData.int)) = (refs.zip Ms).map fun x => PyData.list (x.2.map PyData.int) := by
    rw [show (fun x : Nat × List Int => PyData.list (x.2.map PyData.int)) = (fun ns : List Int => PyData.list (ns.map PyData.int)) ∘ Prod.snd from rfl, ← List.map_map, List.map_snd_zip (by omega)]
  rw [e2]
  rw [e1] at gt
  refine Pd.ref _ _ (refs.zip Ms) (isL_of gt) fun x hx => ?_
  obtain ⟨k, hk⟩ := List.mem_iff_getElem?.mp hx
  rw [List.getElem?_zip_eq_some] at hk
  have := each k x.1 hk.1
  rw [List.getD_eq_getElem?_getD, hk.2] at this
  exact Pd.ints this
theorem cmp_map {α : Type} {it : Itr} {g : Tg} {e0 : Ev} {C : Ctx} {a : ME} {h : HP} {xs : List α} (f out : α → D) (hi : ∀ j x, xs[j]? = some x → it j h = some (some (f x))) (hd : it xs.length h = some none)
    (hs : ∀ x ∈ xs, ∃ e1, g e0 (f x) = some e1 ∧ a C e1 h = .ok (out x) h) (l : xs.length ≤ 500) (fu : 1000 < C.fuel) : cmpN it g tY a e0 C C.fuel 0 [] h = .ok (xs.map out) h := by
  have hz : xs.map out = (List.range xs.length).map fun k => ((xs[k]?).map out).getD .non := by
    apply List.ext_getElem?
    intro k
    rw [List.getElem?_map, List.getElem?_map]
    by_cases hk : k < xs.length
    · have q : xs[k]? = some xs[k] := List.getElem?_eq_getElem hk
      rw [List.getElem?_range hk]
      simp only [Option.map_some, q]
      rfl
    · rw [List.getElem?_eq_none (by omega), List.getElem?_eq_none (by simp; omega)]; rfl
  rw [hz]
  refine cmp_all (n := xs.length) (fun k => ((xs[k]?).map f).getD .non) (fun k => ((xs[k]?).map out).getD .non) (fun k hk => ?_) hd (fun k hk => ?_) (by rw [sizeLine_eq]; omega) xs.length 0 [] (by omega) rfl _ (by omega)
  · have q : xs[k]? = some xs[k] := List.getElem?_eq_getElem hk
    rw [hi k _ q, q]; rfl
  · have q : xs[k]? = some xs[k] := List.getElem?_eq_getElem hk
    rw [q]
    exact hs _ (List.getElem_mem hk)
/-- [s[j] for j in ..] -/
theorem pick_run {h h1 : HP} {C : Ctx} {e : Ev} {mi : MI} {s v bl src : Nat} {js : List Nat} (out : Nat → D) (hmi : mi C e h = .ok (itL bl) h1) (gb : h1[bl]? = some (.lst (natD js))) (hs : e[s]? = some (some (.ref src))) (hv : v < e.length) (ne : v ≠ s)
    (ix : ∀ j ∈ js, opIx (.ref src) (.int (j : Int)) h1 = .ok (out j) h1) (l : js.length ≤ 500) (fu : 1000 < C.fuel) : eLc [v] (gN v) mi tY (eOp opIx (eV s) (eV v)) C e h = .ok (.ref h1.length) (h1 ++ [.lst (js.map out)]) := by
  refine lc_of hmi ?_
  refine cmp_map (fun j : Nat => .int (j : Int)) out (fun i j q => natD_at gb q) (natD_end gb) (fun j hj => ⟨_, rfl, ?_⟩) l fu
  have l1 : (wipeE e [v]).length = e.length := by simp [wipeE]
  have e1 : ((wipeE e [v]).set v (some (D.int (j : Int))))[v]? = some (some (.int (j : Int))) := by rw [List.getElem?_set_self (by rw [l1]; exact hv)]
  have e2 : ((wipeE e [v]).set v (some (D.int (j : Int))))[s]? = some (some (.ref src)) := by
    rw [List.getElem?_set_ne ne]
    show (e.set v none)[s]? = _
    rw [List.getElem?_set_ne ne]; exact hs
  exact g_op (g_v e2) (g_v e1) (ix j hj)
theorem tis_I {T : String} {C : Ctx} {e : Ev} {h h1 : HP} {a : ME} {p : Int} {b : Bool} (hb : ("int" == T || ("int" == "bool" && T == "int")) = b) (ha : a C e h = .ok (.int p) h1) : tV (eIs T a) C e h = .ok b h1 := by
  unfold tV eIs; rw [ha, ← hb]; rfl
/-! look_at_side -/
theorem Kp.at_ {h h' : HP} (k : Kp h h') {i : Nat} {o : O} (q : h[i]? = some o) : h'[i]? = some o := k i o q
theorem g_in_nil {h : HP} {e t : Nat} {refs : List Nat} {Ms : List (List Int)} (ge : h[e]? = some (.lst [])) (gt : h[t]? = some (.lst (refs.map D.ref))) (le : refs.length = Ms.length) (each : ∀ (k i : Nat), refs[k]? = some i → h[i]? = some (.lst ((Ms.getD k []).map D.int))) (ne : ∀ ns ∈ Ms, ns ≠ []) (r0 : refs ≠ []) :
    opIn (.ref e) (.ref t) h = .ok (.bl false) h := by
  have p1 := Pd.nums gt le each
  have pe : Pd h 1 (.ref e) (.list []) := Pd.ints (xs := []) ge
  have sh := p1.shaped (by decide)
  have tp : seqO ((refs.map D.ref).map (toPy deepN h)) = some (Ms.map fun ns => .list (ns.map PyData.int)) := by
    have := p1.py (deepN + 1) (by unfold deepN; omega)
    simp only [toPy, isL_of gt] at this
    obtain ⟨l, hl, e⟩ := Option.map_eq_some_iff.mp this
    cases e
    exact hl
  have nf : ¬ (flatD (.ref e) = true ∧ (refs.map D.ref).all flatD = true) := fun z => by
    have := z.1
    simp [flatD] at this
  have an : ((Ms.map fun ns : List Int => PyData.list (ns.map PyData.int)).any fun z => PyData.eqv z (.list [])) = false := by
    rw [List.any_eq_false]
    intro z hz
    obtain ⟨ns, hn, rfl⟩ := List.mem_map.mp hz
    have := ne ns hn
    cases ns with
    | nil => exact absurd rfl this
    | cons a r => simp [PyData.eqv, PyData.eqvAll]
  have e1 : inD (.ref e) (.ref t) h = some false := by
    unfold inD
    simp only [gt, isL_of gt, if_neg nf, inDeep, pe.py deepN (by unfold deepN; omega), tp, pe.shaped (by decide), sh, and_self, if_true, an]
  simp only [opIn, e1]
theorem in_ref {h : HP} {z : Int} {i : Nat} {xs : List Int} (g : h[i]? = some (.lst (xs.map D.int))) : opIn (.int z) (.ref i) h = .ok (.bl (decide (z ∈ xs))) h := g_inI g
/-- [x for x in refs if z in x] -/
theorem cmp_refs {it : Itr} {g : Tg} {t : MT} {e0 : Ev} {C : Ctx} {a : ME} {h : HP} {refs : List Nat} (p : Nat → Bool) (hi : ∀ (j r : Nat), refs[j]? = some r → it j h = some (some (.ref r))) (hd : it refs.length h = some none)
    (hs : ∀ (j r : Nat), refs[j]? = some r → ∃ e1, g e0 (.ref r) = some e1 ∧ t C e1 h = .ok (p r) h ∧ a C e1 h = .ok (.ref r) h) (hn : refs.length ≤ 1000) :
    ∀ (m j : Nat) (acc : List Nat), j + m = refs.length → acc.length ≤ j → ∀ fuel, m < fuel → cmpN it g t a e0 C fuel j (acc.map D.ref) h = .ok ((acc ++ (refs.drop j).filter p).map D.ref) h
  | 0, j, acc, hj, ha, fuel, hf => by
    obtain ⟨f, rfl⟩ : ∃ f, fuel = f + 1 := ⟨fuel - 1, by omega⟩
    have : j = refs.length := by omega
    subst this
    simp only [cmpN, hd, List.drop_length, List.filter_nil, List.append_nil]
  | m + 1, j, acc, hj, ha, fuel, hf => by
    obtain ⟨f, rfl⟩ : ∃ f, fuel = f + 1 := ⟨fuel - 1, by omega⟩
    have hjl : j < refs.length := by omega
    obtain ⟨r, hr⟩ : ∃ r, refs[j]? = some r := ⟨_, List.getElem?_eq_getElem hjl⟩
    obtain ⟨e1, g1, q1, q2⟩ := hs j r hr
    have e3 : refs.drop j = r :: refs.drop (j + 1) := by
      rw [List.drop_eq_getElem_cons hjl]
      rw [List.getElem?_eq_getElem hjl] at hr
      cases hr; rfl
    rw [e3]
    have hl : (acc.map D.ref).length < sizeLine := by rw [List.length_map, sizeLine_eq]; omega
    simp only [cmpN, hi j r hr, g1, q1, Z.R.bind_ok]
    by_cases c : p r = true
    · rw [if_pos c, q2]
      simp only [Z.R.bind_ok, if_pos hl]
      have ih := cmp_refs p hi hd hs hn m (j + 1) (acc ++ [r]) (by omega) (by rw [List.length_append]; simp; omega) f (by omega)
      rw [List.map_append] at ih
      simp only [List.map_cons, List.map_nil] at ih
      rw [ih, List.filter_cons, if_pos c, List.append_assoc]; rfl
    · rw [if_neg c, List.filter_cons, if_neg c]
      exact cmp_refs p hi hd hs hn m (j + 1) acc (by omega) (by omega) f (by omega)
theorem look_run {h : HP} {C : Ctx} {L : List (Str × Int)} (l8 : L.length ≤ 8) (fu : 1000 < C.fuel) {a b t : Nat} {nb : D} (ga : h[a]? = some (.lst (L.map limbD))) {refs : List Nat} {Ms : List (List Int)} (gt : h[t]? = some (.lst (refs.map D.ref))) (le : refs.length = Ms.length) (r1 : 1 ≤ refs.length ∧ refs.length ≤ 8)
    (each : ∀ (k i : Nat), refs[k]? = some i → h[i]? = some (.lst ((Ms.getD k []).map D.int))) (ne : ∀ ns ∈ Ms, ns ≠ []) (ap : Ms.Pairwise (fun x y => ∀ z ∈ x, z ∉ y)) :
    ∃ h', runFn C f_look_at_side [.tup [.ref a, .ref b], nb, .ref t] h = .ok .non h' ∧ Kp h h' := by
  have k1 : Kp h (h ++ [O.lst []]) := Kp.app
  have i0 := g_in_nil (h := h ++ [.lst []]) (e := h.length) get_new (k1 _ _ gt) le (fun k i q => k1 _ _ (each k i q)) ne (by intro z; rw [z] at r1; simp at r1)
  obtain ⟨e2, h2, F, x3, x4, rfl, k2⟩ := for_go (it := itR 0 L.length) (g := gN 3) (b := b_look_at_side_1) (C := C) (n := L.length) (fun j => .int (0 + j))
    (fun j e h' => ∃ x3 x4, e = [some (.tup [.ref a, .ref b]), some nb, some (.ref t), x3, x4] ∧ Kp h h')
    (fun j e h' hj _ => by simp only [itR, if_pos hj]) (fun e h' _ => by simp [itR])
    (fun j e h' hj ⟨x3, x4, e1, k⟩ => by
      subst e1
      obtain ⟨z, hz⟩ : ∃ z : Int, z = 0 + (j : Int) := ⟨_, rfl⟩
      rw [← hz]
      have key : ∀ (refs : List Nat) (Ms : List (List Int)), refs.length = Ms.length → (∀ (k i : Nat), refs[k]? = some i → h'[i]? = some (.lst ((Ms.getD k []).map D.int))) → Ms.Pairwise (fun x y => ∀ z ∈ x, z ∉ y) →
          (refs.filter fun r : Nat => match h'[r]? with | some (.lst xs) => (xs.any fun d => match d with | .int i => decide (i = z) | _ => false) | _ => false).length = (Ms.filter fun xs => decide (z ∈ xs)).length := by
        intro refs
        induction refs with
        | nil => intro Ms l _ _; cases Ms with
          | nil => rfl
          | cons _ _ => simp at l
        | cons r refs ih =>
          intro Ms l e ap
          cases Ms with
          | nil => simp at l
          | cons M Ms =>
            have e0 : h'[r]? = some (.lst (M.map D.int)) := e 0 r rfl
            have ih := ih Ms (by simpa using l) (fun k i q => e (k + 1) i q) (List.pairwise_cons.mp ap).2
            have ep : (match h'[r]? with | some (.lst xs) => (xs.any fun d => match d with | .int i => decide (i = z) | _ => false) | _ => false) = decide (z ∈ M) := by
              simp only [e0]
              rw [List.any_map]
              by_cases c : z ∈ M
              · rw [decide_eq_true c, List.any_eq_true]
                exact ⟨z, c, by simp⟩
              · rw [decide_eq_false c, List.any_eq_false]
                intro y hy
                simp only [Function.comp, decide_eq_true_iff]
                exact fun e => c (e ▸ hy)
            rw [List.filter_cons, List.filter_cons, ep]
            by_cases c : z ∈ M
            · rw [if_pos (decide_eq_true c), if_pos (decide_eq_true c), List.length_cons, List.length_cons, ih]
            · rw [if_neg (by simpa using c), if_neg (by simpa using c), ih]
      have few : ∀ Ms : List (List Int), Ms.Pairwise (fun x y => ∀ z ∈ x, z ∉ y) → (Ms.filter fun xs => decide (z ∈ xs)).length ≤ 1 := by
        intro Ms
        induction Ms with
        | nil => intro _; simp
        | cons M Ms ih =>
          intro ap
          rw [List.pairwise_cons] at ap
          rw [List.filter_cons]
          split
          · rename_i c
            have c : z ∈ M := by simpa using c
            have : Ms.filter (fun xs => decide (z ∈ xs)) = [] := List.filter_eq_nil_iff.mpr fun xs hx => by simpa using ap.1 xs hx z c
            rw [this]; simp
          · exact ih ap.2
      obtain ⟨p, hp⟩ : ∃ p : Nat → Bool, p = fun r : Nat => match h'[r]? with | some (.lst xs) => (xs.any fun d => match d with | .int i => decide (i = z) | _ => false) | _ => false := ⟨_, rfl⟩
      have le1 : (refs.filter p).length ≤ 1 := by
        rw [hp, key refs Ms le (fun k i q => Kp.at_ ‹Kp h h'› (each k i q)) ap]
        exact few Ms ap
      have gt' := k _ _ gt
      have LC : eLc [4] (gN 4) (iA (eV 2)) (tV (eOp opIn (eV 3) (eV 4))) (eV 4) C [some (.tup [.ref a, .ref b]), some nb, some (.ref t), some (.int z), x4] h' = .ok (.ref h'.length) (h' ++ [.lst ((refs.filter p).map D.ref)]) := by
        refine lc_of (it := itL t) (h1 := h') (by unfold iA; rw [g_v (d := .ref t) rfl]; simp only [Z.R.bind_ok, isL_of gt']) ?_
        have := cmp_refs (it := itL t) (g := gN 4) (t := tV (eOp opIn (eV 3) (eV 4))) (e0 := [some (.tup [.ref a, .ref b]), some nb, some (.ref t), some (.int z), none]) (C := C) (a := eV 4) (h := h') (refs := refs) p (fun j r q => itL_at gt' q) (itL_end gt') (fun j r q => ⟨_, rfl, by
          have gr := k _ _ (each j r q)
          have ix := in_ref (z := z) gr
          have ep : p r = decide (z ∈ Ms.getD j []) := by
            rw [hp]
            simp only [gr]
            rw [List.any_map]
            by_cases c : z ∈ Ms.getD j []
            · rw [decide_eq_true c, List.any_eq_true]
              exact ⟨z, c, by simp⟩
            · rw [decide_eq_false c, List.any_eq_false]
              intro y hy
              simp only [Function.comp, decide_eq_true_iff]
              exact fun e => c (e ▸ hy)
          rw [ep]
          show tV (eOp opIn (eV 3) (eV 4)) C [some (.tup [.ref a, .ref b]), some nb, some (.ref t), some (.int z), some (.ref r)] h' = _
          (repeat' first | with_reducible exact ix | with_reducible exact g_v rfl | with_reducible exact g_c | with_reducible exact g_an | with_reducible exact g_add | with_reducible exact g_sub | with_reducible exact g_iadd | with_reducible exact g_lt | with_reducible exact g_le | with_reducible exact g_gt | with_reducible exact g_ge | with_reducible exact g_eq | with_reducible exact g_ne | with_reducible exact g_neg | with_reducible exact g_mul (by first | assumption | omega | decide) | with_reducible exact g_div (by first | assumption | omega | decide) (by first | assumption | omega | decide) | with_reducible exact g_mod (by first | assumption | omega | decide) | with_reducible exact g_pow (by decide) | with_reducible apply g_isint | with_reducible exact g_sk | with_reducible exact g_rn | with_reducible exact g_bk | with_reducible exact g_ct | with_reducible exact g_gn0 | with_reducible apply g_gns | with_reducible exact g_ap0 | with_reducible apply g_apS | with_reducible apply g_op | with_reducible apply g_un | with_reducible apply g_ac | with_reducible apply g_call | with_reducible apply g_calld | with_reducible apply g_bf | with_reducible apply g_sq | with_reducible apply g_kn | with_reducible exact g_kr | with_reducible exact g_kb | with_reducible exact g_kc | with_reducible apply g_as | with_reducible apply g_pr | with_reducible apply g_au rfl | with_reducible apply g_rt | with_reducible apply g_ex | with_reducible apply g_if | with_reducible apply g_tv | with_reducible apply g_tan | with_reducible apply g_tor | with_reducible apply g_tnt | with_reducible apply g_ean | with_reducible apply g_eor | with_reducible apply g_ent | with_reducible apply g_eif | with_reducible apply g_iftt | with_reducible apply g_iffn | with_reducible apply g_ifff | with_reducible apply g_iftn | with_reducible refine g_ift (by first | assumption | omega | decide) ?_ | with_reducible refine g_iff (by first | assumption | omega | decide) ?_ | with_reducible refine g_ifnt (by first | assumption | omega | decide) ?_ | with_reducible refine g_ifnf (by first | assumption | omega | decide) ?_ | with_reducible exact rfl | with_reducible exact g_eqs | with_reducible exact g_nes | with_reducible exact g_neni | with_reducible exact g_nein | with_reducible exact g_nenn | with_reducible exact g_isn | with_reducible exact g_isi | with_reducible exact g_nsn | with_reducible exact g_nsi | with_reducible exact g_max | with_reducible exact g_max3 | with_reducible exact g_min | with_reducible exact g_intb | with_reducible apply g_gt2 | with_reducible apply g_gt3 | with_reducible apply g_tup | with_reducible apply g_lst | with_reducible exact lenOk rfl | with_reducible exact g_on | with_reducible apply g_os | with_reducible apply g_sl | with_reducible apply g_bkm | with_reducible exact g_okS ), rfl⟩) (by omega) refs.length 0 [] (by omega) (Nat.le_refl _) C.fuel (by omega)
        rw [List.drop_zero, List.nil_append] at this
        exact this
      have ln := g_lenL (h := h' ++ [.lst ((refs.filter p).map D.ref)]) (i := h'.length) get_new
      have ln : bLen [.ref h'.length] (h' ++ [.lst ((refs.filter p).map D.ref)]) = .ok (.int ((refs.filter p).length : Int)) (h' ++ [.lst ((refs.filter p).map D.ref)]) := by rw [ln, List.length_map]
      have nb' : ¬ (1 : Int) < ((refs.filter p).length : Int) := by omega
      unfold b_look_at_side_1
      apply turn_of
      · (repeat' first | with_reducible exact g_v rfl | with_reducible exact g_c | with_reducible exact g_an | with_reducible exact g_add | with_reducible exact g_sub | with_reducible exact g_iadd | with_reducible exact g_lt | with_reducible exact g_le | with_reducible exact g_gt | with_reducible exact g_ge | with_reducible exact g_eq | with_reducible exact g_ne | with_reducible exact g_neg | with_reducible exact g_mul (by first | assumption | omega | decide) | with_reducible exact g_div (by first | assumption | omega | decide) (by first | assumption | omega | decide) | with_reducible exact g_mod (by first | assumption | omega | decide) | with_reducible exact g_pow (by decide) | with_reducible apply g_isint | with_reducible exact g_sk | with_reducible exact g_rn | with_reducible exact g_bk | with_reducible exact g_ct | with_reducible exact g_gn0 | with_reducible apply g_gns | with_reducible exact g_ap0 | with_reducible apply g_apS | with_reducible apply g_op | with_reducible apply g_un | with_reducible apply g_ac | with_reducible apply g_call | with_reducible apply g_calld | with_reducible apply g_bf | with_reducible apply g_sq | with_reducible apply g_kn | with_reducible exact g_kr | with_reducible exact g_kb | with_reducible exact g_kc | with_reducible apply g_as | with_reducible apply g_pr | with_reducible apply g_au rfl | with_reducible apply g_rt | with_reducible apply g_ex | with_reducible apply g_if | with_reducible apply g_tv | with_reducible apply g_tan | with_reducible apply g_tor | with_reducible apply g_tnt | with_reducible apply g_ean | with_reducible apply g_eor | with_reducible apply g_ent | with_reducible apply g_eif | with_reducible apply g_iftt | with_reducible apply g_iffn | with_reducible apply g_ifff | with_reducible apply g_iftn | with_reducible refine g_ift (by first | assumption | omega | decide) ?_ | with_reducible refine g_iff (by first | assumption | omega | decide) ?_ | with_reducible refine g_ifnt (by first | assumption | omega | decide) ?_ | with_reducible refine g_ifnf (by first | assumption | omega | decide) ?_ | with_reducible exact rfl | with_reducible exact g_eqs | with_reducible exact g_nes | with_reducible exact g_neni | with_reducible exact g_nein | with_reducible exact g_nenn | with_reducible exact g_isn | with_reducible exact g_isi | with_reducible exact g_nsn | with_reducible exact g_nsi | with_reducible exact g_max | with_reducible exact g_max3 | with_reducible exact g_min | with_reducible exact g_intb | with_reducible apply g_gt2 | with_reducible apply g_gt3 | with_reducible apply g_tup | with_reducible apply g_lst | with_reducible exact lenOk rfl | with_reducible exact g_on | with_reducible apply g_os | with_reducible apply g_sl | with_reducible apply g_bkm | with_reducible exact g_okS )
      apply body_nx
      · (repeat' first | with_reducible exact LC | with_reducible exact ln | with_reducible exact g_v rfl | with_reducible exact g_c | with_reducible exact g_an | with_reducible exact g_add | with_reducible exact g_sub | with_reducible exact g_iadd | with_reducible exact g_lt | with_reducible exact g_le | with_reducible exact g_gt | with_reducible exact g_ge | with_reducible exact g_eq | with_reducible exact g_ne | with_reducible exact g_neg | with_reducible exact g_mul (by first | assumption | omega | decide) | with_reducible exact g_div (by first | assumption | omega | decide) (by first | assumption | omega | decide) | with_reducible exact g_mod (by first | assumption | omega | decide) | with_reducible exact g_pow (by decide) | with_reducible apply g_isint | with_reducible exact g_sk | with_reducible exact g_rn | with_reducible exact g_bk | with_reducible exact g_ct | with_reducible exact g_gn0 | with_reducible apply g_gns | with_reducible exact g_ap0 | with_reducible apply g_apS | with_reducible apply g_op | with_reducible apply g_un | with_reducible apply g_ac | with_reducible apply g_call | with_reducible apply g_calld | with_reducible apply g_bf | with_reducible apply g_sq | with_reducible apply g_kn | with_reducible exact g_kr | with_reducible exact g_kb | with_reducible exact g_kc | with_reducible apply g_as | with_reducible apply g_pr | with_reducible apply g_au rfl | with_reducible apply g_rt | with_reducible apply g_ex | with_reducible apply g_if | with_reducible apply g_tv | with_reducible apply g_tan | with_reducible apply g_tor | with_reducible apply g_tnt | with_reducible apply g_ean | with_reducible apply g_eor | with_reducible apply g_ent | with_reducible apply g_eif | with_reducible apply g_iftt | with_reducible apply g_iffn | with_reducible apply g_ifff | with_reducible apply g_iftn | with_reducible refine g_ift (by first | assumption | omega | decide) ?_ | with_reducible refine g_iff (by first | assumption | omega | decide) ?_ | with_reducible refine g_ifnt (by first | assumption | omega | decide) ?_ | with_reducible refine g_ifnf (by first | assumption | omega | decide) ?_ | with_reducible exact rfl | with_reducible exact g_eqs | with_reducible exact g_nes | with_reducible exact g_neni | with_reducible exact g_nein | with_reducible exact g_nenn | with_reducible exact g_isn | with_reducible exact g_isi | with_reducible exact g_nsn | with_reducible exact g_nsi | with_reducible exact g_max | with_reducible exact g_max3 | with_reducible exact g_min | with_reducible exact g_intb | with_reducible apply g_gt2 | with_reducible apply g_gt3 | with_reducible apply g_tup | with_reducible apply g_lst | with_reducible exact lenOk rfl | with_reducible exact g_on | with_reducible apply g_os | with_reducible apply g_sl | with_reducible apply g_bkm | with_reducible exact g_okS )
      · exact ⟨_, _, rfl, Kp.trans ‹Kp h h'› Kp.app⟩)
    L.length 0 [some (.tup [.ref a, .ref b]), some nb, some (.ref t), none, none] (h ++ [.lst []]) (by omega) ⟨_, _, rfl, k1⟩ C.fuel (by omega)
  have ia : opIx (.tup [.ref a, .ref b]) (.int 0) (h ++ [.lst []]) = .ok (.ref a) (h ++ [.lst []]) := g_ixt (by decide) rfl
  have la : bLen [.ref a] (h ++ [.lst []]) = .ok (.int (L.length : Int)) (h ++ [.lst []]) := by rw [g_lenL (k1 _ _ ga), List.length_map]
  have F := fo_of (g := gN 3) (mi := iR1 (eBf bLen (aC (eOp opIx (eV 0) (eC (.int 0))) aN))) (iR1_of (C := C) (e := [some (.tup [.ref a, .ref b]), some nb, some (.ref t), none, none]) (h := h ++ [.lst []]) (h1 := h ++ [.lst []]) (n := (L.length : Int)) (by (repeat' first | with_reducible exact ia | with_reducible exact la | with_reducible exact g_v rfl | with_reducible exact g_c | with_reducible exact g_an | with_reducible exact g_add | with_reducible exact g_sub | with_reducible exact g_iadd | with_reducible exact g_lt | with_reducible exact g_le | with_reducible exact g_gt | with_reducible exact g_ge | with_reducible exact g_eq | with_reducible exact g_ne | with_reducible exact g_neg | with_reducible exact g_mul (by first | assumption | omega | decide) | with_reducible exact g_div (by first | assumption | omega | decide) (by first | assumption | omega | decide) | with_reducible exact g_mod (by first | assumption | omega | decide) | with_reducible exact g_pow (by decide) | with_reducible apply g_isint | with_reducible exact g_sk | with_reducible exact g_rn | with_reducible exact g_bk | with_reducible exact g_ct | with_reducible exact g_gn0 | with_reducible apply g_gns | with_reducible exact g_ap0 | with_reducible apply g_apS | with_reducible apply g_op | with_reducible apply g_un | with_reducible apply g_ac | with_reducible apply g_call | with_reducible apply g_calld | with_reducible apply g_bf | with_reducible apply g_sq | with_reducible apply g_kn | with_reducible exact g_kr | with_reducible exact g_kb | with_reducible exact g_kc | with_reducible apply g_as | with_reducible apply g_pr | with_reducible apply g_au rfl | with_reducible apply g_rt | with_reducible apply g_ex | with_reducible apply g_if | with_reducible apply g_tv | with_reducible apply g_tan | with_reducible apply g_tor | with_reducible apply g_tnt | with_reducible apply g_ean | with_reducible apply g_eor | with_reducible apply g_ent | with_reducible apply g_eif | with_reducible apply g_iftt | with_reducible apply g_iffn | with_reducible apply g_ifff | with_reducible apply g_iftn | with_reducible refine g_ift (by first | assumption | omega | decide) ?_ | with_reducible refine g_iff (by first | assumption | omega | decide) ?_ | with_reducible refine g_ifnt (by first | assumption | omega | decide) ?_ | with_reducible refine g_ifnf (by first | assumption | omega | decide) ?_ | with_reducible exact rfl | with_reducible exact g_eqs | with_reducible exact g_nes | with_reducible exact g_neni | with_reducible exact g_nein | with_reducible exact g_nenn | with_reducible exact g_isn | with_reducible exact g_isi | with_reducible exact g_nsn | with_reducible exact g_nsi | with_reducible exact g_max | with_reducible exact g_max3 | with_reducible exact g_min | with_reducible exact g_intb | with_reducible apply g_gt2 | with_reducible apply g_gt3 | with_reducible apply g_tup | with_reducible apply g_lst | with_reducible exact lenOk rfl | with_reducible exact g_on | with_reducible apply g_os | with_reducible apply g_sl | with_reducible apply g_bkm | with_reducible exact g_okS )) (by omega) (by omega)) (by rw [Int.toNat_natCast]; exact F)
  refine ⟨h2, ?_, k2⟩
  apply run_nx (e' := [some (.tup [.ref a, .ref b]), some nb, some (.ref t), none, none]) rfl rfl
  (repeat' first | with_reducible exact i0 | with_reducible exact F | with_reducible exact g_v rfl | with_reducible exact g_c | with_reducible exact g_an | with_reducible exact g_add | with_reducible exact g_sub | with_reducible exact g_iadd | with_reducible exact g_lt | with_reducible exact g_le | with_reducible exact g_gt | with_reducible exact g_ge | with_reducible exact g_eq | with_reducible exact g_ne | with_reducible exact g_neg | with_reducible exact g_mul (by first | assumption | omega | decide) | with_reducible exact g_div (by first | assumption | omega | decide) (by first | assumption | omega | decide) | with_reducible exact g_mod (by first | assumption | omega | decide) | with_reducible exact g_pow (by decide) | with_reducible apply g_isint | with_reducible exact g_sk | with_reducible exact g_rn | with_reducible exact g_bk | with_reducible exact g_ct | with_reducible exact g_gn0 | with_reducible apply g_gns | with_reducible exact g_ap0 | with_reducible apply g_apS | with_reducible apply g_op | with_reducible apply g_un | with_reducible apply g_ac | with_reducible apply g_call | with_reducible apply g_calld | with_reducible apply g_bf | with_reducible apply g_sq | with_reducible apply g_kn | with_reducible exact g_kr | with_reducible exact g_kb | with_reducible exact g_kc | with_reducible apply g_as | with_reducible apply g_pr | with_reducible apply g_au rfl | with_reducible apply g_rt | with_reducible apply g_ex | with_reducible apply g_if | with_reducible apply g_tv | with_reducible apply g_tan | with_reducible apply g_tor | with_reducible apply g_tnt | with_reducible apply g_ean | with_reducible apply g_eor | with_reducible apply g_ent | with_reducible apply g_eif | with_reducible apply g_iftt | with_reducible apply g_iffn | with_reducible apply g_ifff | with_reducible apply g_iftn | with_reducible refine g_ift (by first | assumption | omega | decide) ?_ | with_reducible refine g_iff (by first | assumption | omega | decide) ?_ | with_reducible refine g_ifnt (by first | assumption | omega | decide) ?_ | with_reducible refine g_ifnf (by first | assumption | omega | decide) ?_ | with_reducible exact rfl | with_reducible exact g_eqs | with_reducible exact g_nes | with_reducible exact g_neni | with_reducible exact g_nein | with_reducible exact g_nenn | with_reducible exact g_isn | with_reducible exact g_isi | with_reducible exact g_nsn | with_reducible exact g_nsi | with_reducible exact g_max | with_reducible exact g_max3 | with_reducible exact g_min | with_reducible exact g_intb | with_reducible apply g_gt2 | with_reducible apply g_gt3 | with_reducible apply g_tup | with_reducible apply g_lst | with_reducible exact lenOk rfl | with_reducible exact g_on | with_reducible apply g_os | with_reducible apply g_sl | with_reducible apply g_bkm | with_reducible exact g_okS )

/-! moved -/
theorem moved_run {h : HP} {C : Ctx} {L : List (Str × Int)} {P : List (Str × Fm)} (o : BkOk L P) (fu : 1000 < C.fuel) {a b : Nat} (ga : h[a]? = some (.lst (L.map limbD))) (gb : h[b]? = some (.lst (P.map partD)))
    (c61L : ∀ h : HP, h[a]? = some (.lst (L.map limbD)) → C.call 61 [.ref a] h = .ok (.ref h.length) (h ++ [.dic (numD 0 (lnm L))]))
    (c61P : ∀ h : HP, h[b]? = some (.lst (P.map partD)) → C.call 61 [.ref b] h = .ok (.ref h.length) (h ++ [.dic (numD 0 (pnm P))]))
    (c62 : ∀ (h : HP) (f : Fm) (d : Nat), (∀ n ∈ f.pns, n ∈ pnm P) → f.pns.length ≤ 8 → h[d]? = some (.dic (numD 0 (pnm P))) → C.call 62 [f.d, .ref d] h = .ok (.ref h.length) (h ++ [.lst (natD (namedIx P f))])) :
    ∃ h' t refs M, runFn C f_moved [.tup [.ref a, .ref b]] h = .ok (.ref t) h' ∧ Kp h h' ∧ h.length ≤ t ∧ h'[t]? = some (.lst (refs.map D.ref)) ∧ TL h.length h' refs (M.map (·.map D.int)) ∧ MvOk L P P.length M ∧ t ∉ refs := by
  obtain ⟨h1, hh1⟩ : ∃ h1, h1 = h ++ [O.dic (numD 0 (lnm L))] := ⟨_, rfl⟩
  have k1 : Kp h h1 := by rw [hh1]; exact Kp.app
  have n1 : h1.length = h.length + 1 := by rw [hh1]; simp
  have d1 : h1[h.length]? = some (.dic (numD 0 (lnm L))) := by rw [hh1]; exact get_new
  obtain ⟨h2, hh2⟩ : ∃ h2, h2 = h1 ++ [O.dic (numD 0 (pnm P))] := ⟨_, rfl⟩
  have k2 : Kp h1 h2 := by rw [hh2]; exact Kp.app
  have n2 : h2.length = h1.length + 1 := by rw [hh2]; simp
  have d2 : h2[h1.length]? = some (.dic (numD 0 (pnm P))) := by rw [hh2]; exact get_new
  have cL := c61L h ga
  have cP := c61P h1 (k1 _ _ gb)
  rw [← hh1] at cL
  rw [← hh2] at cP
  have op := o.p1
  have ol := o.l1
  obtain ⟨e2, h4, F, x4, x5, x6, x7, refs, M, rfl, k4, gt, tl, mv⟩ := for_all (it := itL b) (g := gT [4, 5]) (b := b_moved_2) (C := C) partD P
    (fun j e h' => ∃ x4 x5 x6 x7 refs M, e = [some (.tup [.ref a, .ref b]), some (.ref h.length), some (.ref h1.length), some (.ref h2.length), x4, x5, x6, x7] ∧ Kp h2 h' ∧ h'[h2.length]? = some (.lst (refs.map D.ref)) ∧ TL (h2.length + 1) h' refs (M.map (·.map D.int)) ∧ MvOk L P j M)
    (fun j x e h' q ⟨x4, x5, x6, x7, refs, M, e1, k, _⟩ => itL_at (k _ _ (k2 _ _ (k1 _ _ gb))) q) (fun e h' ⟨x4, x5, x6, x7, refs, M, e1, k, _⟩ => itL_end (k _ _ (k2 _ _ (k1 _ _ gb))))
    (fun j x e h' q ⟨x4, x5, x6, x7, refs, M, e1, k, gt, tl, mv⟩ => by
      subst e1
      have jl := (List.getElem?_eq_some_iff.mp q).1
      obtain ⟨na1, na2, na3⟩ := named_ahead o q
      obtain ⟨ob1, ob2⟩ := own_bd (o.fm j x q)
      have fr := o.fm j x q
      obtain ⟨n, f⟩ := x
      dsimp only at na1 na2 na3 ob1 ob2 fr
      have pl : f.pns.length ≤ 8 := by unfold namedIx at na3; rw [List.length_map] at na3; exact na3
      -- limbs = []; limbs.append(..)
      obtain ⟨m, hm⟩ : ∃ m, m = h'.length := ⟨_, rfl⟩
      have kl := (List.getElem?_eq_some_iff.mp gt).1
      obtain ⟨h5, hh5⟩ : ∃ h5, h5 = h' ++ [O.lst ((own L f).map D.int)] := ⟨_, rfl⟩
      have k5 : Kp h' h5 := by rw [hh5]; exact Kp.app
      have g5 : h5[m]? = some (.lst ((own L f).map D.int)) := by rw [hh5, hm]; exact get_new
      have n5 : h5.length = m + 1 := by rw [hh5, hm]; simp
      have S1 : ∀ y4 y5 y7, (sSq (sAs (gN 6) (eLst aN)) (sIf (tV (eOp opEq (eOp opIx (eV 5) (eC (.int 0))) (eC (.str "raise")))) (sEx (eBk okL mApp (eV 6) (aC (eOp opIx (eV 1) (eOp opIx (eV 5) (eC (.int 1)))) aN))) sSk)) C [some (.tup [.ref a, .ref b]), some (.ref h.length), some (.ref h1.length), some (.ref h2.length), y4, some f.d, y5, y7] h' =
          .ok (.nx [some (.tup [.ref a, .ref b]), some (.ref h.length), some (.ref h1.length), some (.ref h2.length), y4, some f.d, some (.ref m), y7]) h5 := fun y4 y5 y7 => by
        have it0 : ∀ h : HP, opIx f.d (.int 0) h = .ok (.str f.tag) h := fun h => ix_tag
        by_cases ht : f.tag = "raise"
        · obtain ⟨l, t, bt, rfl⟩ : ∃ l t bt, f = .raise l t bt := by
            cases f with
            | raise l t bt => exact ⟨l, t, bt, rfl⟩
            | hold b => exact absurd ht (by simp only [Fm.tag]; decide)
            | ring w b => exact absurd ht (by simp only [Fm.tag]; decide)
            | row ns => exact absurd ht (by simp only [Fm.tag]; decide)
            | side ns => exact absurd ht (by simp only [Fm.tag]; decide)
            | again t n => exact absurd ht (by simp only [Fm.tag]; decide)
          have ix1 : ∀ h : HP, opIx (Fm.raise l t bt).d (.int 1) h = .ok (.str l) h := fun h => rfl
          have it0 : ∀ h : HP, opIx (Fm.raise l t bt).d (.int 0) h = .ok (.str "raise") h := it0
          have dl := g_ixNum (h := h' ++ [.lst []]) (get_app (k _ _ (k2 _ _ d1))) fr.1
          have ap := g_app_new (h := h') (xs := []) (y := .int ((ixN_ (lnm L) l : Nat) : Int)) (by rw [sizeLine_eq]; decide)
          have e5 : h5 = h' ++ [O.lst ([] ++ [.int ((ixN_ (lnm L) l : Nat) : Int)])] := by rw [hh5]; rfl
          rw [← e5] at ap
          have er := fun h => g_eqsr (p := ("raise" : Str)) (h := h)
          rw [hm]
          (repeat' first | with_reducible exact it0 _ | with_reducible exact er _ | with_reducible exact g_okL_new | with_reducible exact ix1 _ | with_reducible exact dl | with_reducible exact ap | with_reducible exact g_v rfl | with_reducible exact g_c | with_reducible exact g_an | with_reducible exact g_add | with_reducible exact g_sub | with_reducible exact g_iadd | with_reducible exact g_lt | with_reducible exact g_le | with_reducible exact g_gt | with_reducible exact g_ge | with_reducible exact g_eq | with_reducible exact g_ne | with_reducible exact g_neg | with_reducible exact g_mul (by first | assumption | omega | decide) | with_reducible exact g_div (by first | assumption | omega | decide) (by first | assumption | omega | decide) | with_reducible exact g_mod (by first | assumption | omega | decide) | with_reducible exact g_pow (by decide) | with_reducible apply g_isint | with_reducible exact g_sk | with_reducible exact g_rn | with_reducible exact g_bk | with_reducible exact g_ct | with_reducible exact g_gn0 | with_reducible apply g_gns | with_reducible exact g_ap0 | with_reducible apply g_apS | with_reducible apply g_op | with_reducible apply g_un | with_reducible apply g_ac | with_reducible apply g_call | with_reducible apply g_calld | with_reducible apply g_bf | with_reducible apply g_sq | with_reducible apply g_kn | with_reducible exact g_kr | with_reducible exact g_kb | with_reducible exact g_kc | with_reducible apply g_as | with_reducible apply g_pr | with_reducible apply g_au rfl | with_reducible apply g_rt | with_reducible apply g_ex | with_reducible apply g_if | with_reducible apply g_tv | with_reducible apply g_tan | with_reducible apply g_tor | with_reducible apply g_tnt | with_reducible apply g_ean | with_reducible apply g_eor | with_reducible apply g_ent | with_reducible apply g_eif | with_reducible apply g_iftt | with_reducible apply g_iffn | with_reducible apply g_ifff | with_reducible apply g_iftn | with_reducible refine g_ift (by first | assumption | omega | decide) ?_ | with_reducible refine g_iff (by first | assumption | omega | decide) ?_ | with_reducible refine g_ifnt (by first | assumption | omega | decide) ?_ | with_reducible refine g_ifnf (by first | assumption | omega | decide) ?_ | with_reducible exact rfl | with_reducible exact g_eqs | with_reducible exact g_nes | with_reducible exact g_neni | with_reducible exact g_nein | with_reducible exact g_nenn | with_reducible exact g_isn | with_reducible exact g_isi | with_reducible exact g_nsn | with_reducible exact g_nsi | with_reducible exact g_max | with_reducible exact g_max3 | with_reducible exact g_min | with_reducible exact g_intb | with_reducible apply g_gt2 | with_reducible apply g_gt3 | with_reducible apply g_tup | with_reducible apply g_lst | with_reducible exact lenOk rfl | with_reducible exact g_on | with_reducible apply g_os | with_reducible apply g_sl | with_reducible apply g_bkm | with_reducible exact g_okS )
        · have en := fun h => g_eqsn (h := h) ht
          have eo : own L f = [] := by
            cases f with
            | raise l t bt => exact absurd rfl ht
            | _ => rfl
          rw [hm, hh5, eo]
          show _ = R.ok (FL.nx _) (h' ++ [O.lst []])
          (repeat' first | with_reducible exact it0 _ | with_reducible exact en _ | with_reducible exact g_v rfl | with_reducible exact g_c | with_reducible exact g_an | with_reducible exact g_add | with_reducible exact g_sub | with_reducible exact g_iadd | with_reducible exact g_lt | with_reducible exact g_le | with_reducible exact g_gt | with_reducible exact g_ge | with_reducible exact g_eq | with_reducible exact g_ne | with_reducible exact g_neg | with_reducible exact g_mul (by first | assumption | omega | decide) | with_reducible exact g_div (by first | assumption | omega | decide) (by first | assumption | omega | decide) | with_reducible exact g_mod (by first | assumption | omega | decide) | with_reducible exact g_pow (by decide) | with_reducible apply g_isint | with_reducible exact g_sk | with_reducible exact g_rn | with_reducible exact g_bk | with_reducible exact g_ct | with_reducible exact g_gn0 | with_reducible apply g_gns | with_reducible exact g_ap0 | with_reducible apply g_apS | with_reducible apply g_op | with_reducible apply g_un | with_reducible apply g_ac | with_reducible apply g_call | with_reducible apply g_calld | with_reducible apply g_bf | with_reducible apply g_sq | with_reducible apply g_kn | with_reducible exact g_kr | with_reducible exact g_kb | with_reducible exact g_kc | with_reducible apply g_as | with_reducible apply g_pr | with_reducible apply g_au rfl | with_reducible apply g_rt | with_reducible apply g_ex | with_reducible apply g_if | with_reducible apply g_tv | with_reducible apply g_tan | with_reducible apply g_tor | with_reducible apply g_tnt | with_reducible apply g_ean | with_reducible apply g_eor | with_reducible apply g_ent | with_reducible apply g_eif | with_reducible apply g_iftt | with_reducible apply g_iffn | with_reducible apply g_ifff | with_reducible apply g_iftn | with_reducible refine g_ift (by first | assumption | omega | decide) ?_ | with_reducible refine g_iff (by first | assumption | omega | decide) ?_ | with_reducible refine g_ifnt (by first | assumption | omega | decide) ?_ | with_reducible refine g_ifnf (by first | assumption | omega | decide) ?_ | with_reducible exact rfl | with_reducible exact g_eqs | with_reducible exact g_nes | with_reducible exact g_neni | with_reducible exact g_nein | with_reducible exact g_nenn | with_reducible exact g_isn | with_reducible exact g_isi | with_reducible exact g_nsn | with_reducible exact g_nsi | with_reducible exact g_max | with_reducible exact g_max3 | with_reducible exact g_min | with_reducible exact g_intb | with_reducible apply g_gt2 | with_reducible apply g_gt3 | with_reducible apply g_tup | with_reducible apply g_lst | with_reducible exact lenOk rfl | with_reducible exact g_on | with_reducible apply g_os | with_reducible apply g_sl | with_reducible apply g_bkm | with_reducible exact g_okS )
      -- for number in named(form, numbers)
      have cn := c62 h5 f h1.length na1 pl (k5 _ _ (k _ _ d2))
      obtain ⟨h6, hh6⟩ : ∃ h6, h6 = h5 ++ [O.lst (natD (namedIx P f))] := ⟨_, rfl⟩
      rw [← hh6] at cn
      have k6 : Kp h5 h6 := by rw [hh6]; exact Kp.app
      have g6 : h6[h5.length]? = some (.lst (natD (namedIx P f))) := by rw [hh6]; exact get_new
      have m8 := mv.len8 ol.2
      obtain ⟨e3, h7, F1, y7, rfl, k7, g7⟩ := for_all (it := itL h5.length) (g := gN 7) (b := b_moved_1) (C := C) (fun j : Nat => D.int (j : Int)) (namedIx P f)
        (fun i e h'' => ∃ y7, e = [some (.tup [.ref a, .ref b]), some (.ref h.length), some (.ref h1.length), some (.ref h2.length), some (.str n), some f.d, some (.ref m), y7] ∧ (∀ i o, i ≠ m → h6[i]? = some o → h''[i]? = some o) ∧ h''[m]? = some (.lst ((own L f ++ ((namedIx P f).take i).flatMap fun j => M.getD j []).map D.int)))
        (fun i j' e h'' q' ⟨y7, e1, k', g'⟩ => itL_at (f := fun j : Nat => D.int (j : Int)) (k' _ _ (by omega) g6) q')
        (fun e h'' ⟨y7, e1, k', g'⟩ => itL_end (f := fun j : Nat => D.int (j : Int)) (k' _ _ (by omega) g6))
        (fun i j' e h'' q' ⟨y7, e1, k', g'⟩ => by
          subst e1
          have hj' := (na2 j' (List.mem_of_getElem? q')).1
          have il := (List.getElem?_eq_some_iff.mp q').1
          have tl' : TL (h2.length + 1) h6 refs (M.map (·.map D.int)) := (tl.kp k5).kp k6
          obtain ⟨r, i1, i2, i3⟩ := tl'.get (k6 _ _ (k5 _ _ gt)) (j := j') (by rw [List.length_map, mv.len]; exact hj')
          have rlt : r < m := by rw [hm]; exact (List.getElem?_eq_some_iff.mp (tl.each j' r i3).1).1
          have gt' := k' _ _ (show h2.length ≠ m by omega) (k6 _ _ (k5 _ _ gt))
          have i1' : opIx (.ref h2.length) (.int (j' : Int)) h'' = .ok (.ref r) h'' := g_ixl gt' (by omega) (by rw [Int.toNat_natCast, List.getElem?_map, i3]; rfl)
          have i2' := k' _ _ (show r ≠ m by omega) i2
          rw [map_getD] at i2'
          have fl := flat_len (js := (namedIx P f).take i) m8
          rw [List.length_take] at fl
          have ex := g_ext g' i2' (by rw [List.length_map, List.length_map, List.length_append]; have := m8 j'; omega)
          have okl := g_okL_of g'
          unfold b_moved_1
          apply turn_of
          · (repeat' first | with_reducible exact g_v rfl | with_reducible exact g_c | with_reducible exact g_an | with_reducible exact g_add | with_reducible exact g_sub | with_reducible exact g_iadd | with_reducible exact g_lt | with_reducible exact g_le | with_reducible exact g_gt | with_reducible exact g_ge | with_reducible exact g_eq | with_reducible exact g_ne | with_reducible exact g_neg | with_reducible exact g_mul (by first | assumption | omega | decide) | with_reducible exact g_div (by first | assumption | omega | decide) (by first | assumption | omega | decide) | with_reducible exact g_mod (by first | assumption | omega | decide) | with_reducible exact g_pow (by decide) | with_reducible apply g_isint | with_reducible exact g_sk | with_reducible exact g_rn | with_reducible exact g_bk | with_reducible exact g_ct | with_reducible exact g_gn0 | with_reducible apply g_gns | with_reducible exact g_ap0 | with_reducible apply g_apS | with_reducible apply g_op | with_reducible apply g_un | with_reducible apply g_ac | with_reducible apply g_call | with_reducible apply g_calld | with_reducible apply g_bf | with_reducible apply g_sq | with_reducible apply g_kn | with_reducible exact g_kr | with_reducible exact g_kb | with_reducible exact g_kc | with_reducible apply g_as | with_reducible apply g_pr | with_reducible apply g_au rfl | with_reducible apply g_rt | with_reducible apply g_ex | with_reducible apply g_if | with_reducible apply g_tv | with_reducible apply g_tan | with_reducible apply g_tor | with_reducible apply g_tnt | with_reducible apply g_ean | with_reducible apply g_eor | with_reducible apply g_ent | with_reducible apply g_eif | with_reducible apply g_iftt | with_reducible apply g_iffn | with_reducible apply g_ifff | with_reducible apply g_iftn | with_reducible refine g_ift (by first | assumption | omega | decide) ?_ | with_reducible refine g_iff (by first | assumption | omega | decide) ?_ | with_reducible refine g_ifnt (by first | assumption | omega | decide) ?_ | with_reducible refine g_ifnf (by first | assumption | omega | decide) ?_ | with_reducible exact rfl | with_reducible exact g_eqs | with_reducible exact g_nes | with_reducible exact g_neni | with_reducible exact g_nein | with_reducible exact g_nenn | with_reducible exact g_isn | with_reducible exact g_isi | with_reducible exact g_nsn | with_reducible exact g_nsi | with_reducible exact g_max | with_reducible exact g_max3 | with_reducible exact g_min | with_reducible exact g_intb | with_reducible apply g_gt2 | with_reducible apply g_gt3 | with_reducible apply g_tup | with_reducible apply g_lst | with_reducible exact lenOk rfl | with_reducible exact g_on | with_reducible apply g_os | with_reducible apply g_sl | with_reducible apply g_bkm | with_reducible exact g_okS )
          apply body_nx
          · (repeat' first | with_reducible exact okl | with_reducible exact i1' | with_reducible exact ex | with_reducible exact g_v rfl | with_reducible exact g_c | with_reducible exact g_an | with_reducible exact g_add | with_reducible exact g_sub | with_reducible exact g_iadd | with_reducible exact g_lt | with_reducible exact g_le | with_reducible exact g_gt | with_reducible exact g_ge | with_reducible exact g_eq | with_reducible exact g_ne | with_reducible exact g_neg | with_reducible exact g_mul (by first | assumption | omega | decide) | with_reducible exact g_div (by first | assumption | omega | decide) (by first | assumption | omega | decide) | with_reducible exact g_mod (by first | assumption | omega | decide) | with_reducible exact g_pow (by decide) | with_reducible apply g_isint | with_reducible exact g_sk | with_reducible exact g_rn | with_reducible exact g_bk | with_reducible exact g_ct | with_reducible exact g_gn0 | with_reducible apply g_gns | with_reducible exact g_ap0 | with_reducible apply g_apS | with_reducible apply g_op | with_reducible apply g_un | with_reducible apply g_ac | with_reducible apply g_call | with_reducible apply g_calld | with_reducible apply g_bf | with_reducible apply g_sq | with_reducible apply g_kn | with_reducible exact g_kr | with_reducible exact g_kb | with_reducible exact g_kc | with_reducible apply g_as | with_reducible apply g_pr | with_reducible apply g_au rfl | with_reducible apply g_rt | with_reducible apply g_ex | with_reducible apply g_if | with_reducible apply g_tv | with_reducible apply g_tan | with_reducible apply g_tor | with_reducible apply g_tnt | with_reducible apply g_ean | with_reducible apply g_eor | with_reducible apply g_ent | with_reducible apply g_eif | with_reducible apply g_iftt | with_reducible apply g_iffn | with_reducible apply g_ifff | with_reducible apply g_iftn | with_reducible refine g_ift (by first | assumption | omega | decide) ?_ | with_reducible refine g_iff (by first | assumption | omega | decide) ?_ | with_reducible refine g_ifnt (by first | assumption | omega | decide) ?_ | with_reducible refine g_ifnf (by first | assumption | omega | decide) ?_ | with_reducible exact rfl | with_reducible exact g_eqs | with_reducible exact g_nes | with_reducible exact g_neni | with_reducible exact g_nein | with_reducible exact g_nenn | with_reducible exact g_isn | with_reducible exact g_isi | with_reducible exact g_nsn | with_reducible exact g_nsi | with_reducible exact g_max | with_reducible exact g_max3 | with_reducible exact g_min | with_reducible exact g_intb | with_reducible apply g_gt2 | with_reducible apply g_gt3 | with_reducible apply g_tup | with_reducible apply g_lst | with_reducible exact lenOk rfl | with_reducible exact g_on | with_reducible apply g_os | with_reducible apply g_sl | with_reducible apply g_bkm | with_reducible exact g_okS )
          · refine ⟨_, rfl, fun i o hi q => getset hi (k' i o hi q), ?_⟩
            rw [getset_same g', take_snoc q', ← List.map_append]
            simp)
        (e := [some (.tup [.ref a, .ref b]), some (.ref h.length), some (.ref h1.length), some (.ref h2.length), some (.str n), some f.d, some (.ref m), x7]) (h := h6) ⟨x7, rfl, fun i o _ q => q, by rw [k6 _ _ g5]; simp⟩ (fuel := C.fuel) (by omega)
      rw [List.take_length] at g7
      have k7' : Kp h' h7 := fun i o q => k7 i o (by have := (List.getElem?_eq_some_iff.mp q).1; omega) (k6 _ _ (k5 _ _ q))
      have F1 := fo_of (g := gN 7) (mi := iA (eCall 62 (aC (eV 5) (aC (eV 2) aN)) [])) (e := [some (.tup [.ref a, .ref b]), some (.ref h.length), some (.ref h1.length), some (.ref h2.length), some (.str n), some f.d, some (.ref m), x7]) (h := h5) (h1 := h6) (it := itL h5.length) (by
        have q : (eCall 62 (aC (eV 5) (aC (eV 2) aN)) []) C [some (.tup [.ref a, .ref b]), some (.ref h.length), some (.ref h1.length), some (.ref h2.length), some (.str n), some f.d, some (.ref m), x7] h5 = .ok (.ref h5.length) h6 := by (repeat' first | with_reducible exact cn | with_reducible exact g_v rfl | with_reducible exact g_c | with_reducible exact g_an | with_reducible exact g_add | with_reducible exact g_sub | with_reducible exact g_iadd | with_reducible exact g_lt | with_reducible exact g_le | with_reducible exact g_gt | with_reducible exact g_ge | with_reducible exact g_eq | with_reducible exact g_ne | with_reducible exact g_neg | with_reducible exact g_mul (by first | assumption | omega | decide) | with_reducible exact g_div (by first | assumption | omega | decide) (by first | assumption | omega | decide) | with_reducible exact g_mod (by first | assumption | omega | decide) | with_reducible exact g_pow (by decide) | with_reducible apply g_isint | with_reducible exact g_sk | with_reducible exact g_rn | with_reducible exact g_bk | with_reducible exact g_ct | with_reducible exact g_gn0 | with_reducible apply g_gns | with_reducible exact g_ap0 | with_reducible apply g_apS | with_reducible apply g_op | with_reducible apply g_un | with_reducible apply g_ac | with_reducible apply g_call | with_reducible apply g_calld | with_reducible apply g_bf | with_reducible apply g_sq | with_reducible apply g_kn | with_reducible exact g_kr | with_reducible exact g_kb | with_reducible exact g_kc | with_reducible apply g_as | with_reducible apply g_pr | with_reducible apply g_au rfl | with_reducible apply g_rt | with_reducible apply g_ex | with_reducible apply g_if | with_reducible apply g_tv | with_reducible apply g_tan | with_reducible apply g_tor | with_reducible apply g_tnt | with_reducible apply g_ean | with_reducible apply g_eor | with_reducible apply g_ent | with_reducible apply g_eif | with_reducible apply g_iftt | with_reducible apply g_iffn | with_reducible apply g_ifff | with_reducible apply g_iftn | with_reducible refine g_ift (by first | assumption | omega | decide) ?_ | with_reducible refine g_iff (by first | assumption | omega | decide) ?_ | with_reducible refine g_ifnt (by first | assumption | omega | decide) ?_ | with_reducible refine g_ifnf (by first | assumption | omega | decide) ?_ | with_reducible exact rfl | with_reducible exact g_eqs | with_reducible exact g_nes | with_reducible exact g_neni | with_reducible exact g_nein | with_reducible exact g_nenn | with_reducible exact g_isn | with_reducible exact g_isi | with_reducible exact g_nsn | with_reducible exact g_nsi | with_reducible exact g_max | with_reducible exact g_max3 | with_reducible exact g_min | with_reducible exact g_intb | with_reducible apply g_gt2 | with_reducible apply g_gt3 | with_reducible apply g_tup | with_reducible apply g_lst | with_reducible exact lenOk rfl | with_reducible exact g_on | with_reducible apply g_os | with_reducible apply g_sl | with_reducible apply g_bkm | with_reducible exact g_okS )
        unfold iA; rw [q]; simp only [Z.R.bind_ok, isL_of g6]) F1
      have bz : ∀ z ∈ own L f ++ (namedIx P f).flatMap (fun j => M.getD j []), 0 ≤ z ∧ z < L.length := fun z hz => by
        rcases List.mem_append.mp hz with h | h
        · exact ob1 z h
        · obtain ⟨j, _, h⟩ := List.mem_flatMap.mp h
          exact mv.bd j z h
      have ub := uniq_bd bz
      have fl := flat_len (js := namedIx P f) m8
      have sr := g_srs g7 (by rw [List.length_append]; omega) (by omega)
      obtain ⟨h8, hh8⟩ : ∃ h8, h8 = h7 ++ [O.lst ((mv1 L P M f).map D.int)] := ⟨_, rfl⟩
      have e8 : h7 ++ [O.lst ((srtI (uniq (own L f ++ (namedIx P f).flatMap fun j => M.getD j []))).map D.int)] = h8 := by rw [hh8]; rfl
      rw [e8] at sr
      have k8 : Kp h7 h8 := by rw [hh8]; exact Kp.app
      have gt8 := k8 _ _ (k7' _ _ gt)
      have okt7 := g_okL_of (k7' _ _ gt)
      have ap := g_app (y := .ref h7.length) gt8 (by rw [List.length_map, tl.len, List.length_map, mv.len, sizeLine_eq]; omega)
      have tl7 := tl.kp k7'
      have k7l := k7'.len
      have tl8 := tl7.snoc (xs := (mv1 L P M f).map D.int) (by omega)
      rw [← hh8] at tl8
      have S1' := S1 (some (.str n)) x6 x7
      have kS : Kp h2 (h8.set h2.length (.lst (refs.map D.ref ++ [.ref h7.length]))) := (k.trans (k7'.trans k8)).set (Nat.le_refl _)
      unfold b_moved_2
      apply turn_of
      · show gT [4, 5] _ (.tup [.str n, f.d]) = _
        (repeat' first | with_reducible exact g_v rfl | with_reducible exact g_c | with_reducible exact g_an | with_reducible exact g_add | with_reducible exact g_sub | with_reducible exact g_iadd | with_reducible exact g_lt | with_reducible exact g_le | with_reducible exact g_gt | with_reducible exact g_ge | with_reducible exact g_eq | with_reducible exact g_ne | with_reducible exact g_neg | with_reducible exact g_mul (by first | assumption | omega | decide) | with_reducible exact g_div (by first | assumption | omega | decide) (by first | assumption | omega | decide) | with_reducible exact g_mod (by first | assumption | omega | decide) | with_reducible exact g_pow (by decide) | with_reducible apply g_isint | with_reducible exact g_sk | with_reducible exact g_rn | with_reducible exact g_bk | with_reducible exact g_ct | with_reducible exact g_gn0 | with_reducible apply g_gns | with_reducible exact g_ap0 | with_reducible apply g_apS | with_reducible apply g_op | with_reducible apply g_un | with_reducible apply g_ac | with_reducible apply g_call | with_reducible apply g_calld | with_reducible apply g_bf | with_reducible apply g_sq | with_reducible apply g_kn | with_reducible exact g_kr | with_reducible exact g_kb | with_reducible exact g_kc | with_reducible apply g_as | with_reducible apply g_pr | with_reducible apply g_au rfl | with_reducible apply g_rt | with_reducible apply g_ex | with_reducible apply g_if | with_reducible apply g_tv | with_reducible apply g_tan | with_reducible apply g_tor | with_reducible apply g_tnt | with_reducible apply g_ean | with_reducible apply g_eor | with_reducible apply g_ent | with_reducible apply g_eif | with_reducible apply g_iftt | with_reducible apply g_iffn | with_reducible apply g_ifff | with_reducible apply g_iftn | with_reducible refine g_ift (by first | assumption | omega | decide) ?_ | with_reducible refine g_iff (by first | assumption | omega | decide) ?_ | with_reducible refine g_ifnt (by first | assumption | omega | decide) ?_ | with_reducible refine g_ifnf (by first | assumption | omega | decide) ?_ | with_reducible exact rfl | with_reducible exact g_eqs | with_reducible exact g_nes | with_reducible exact g_neni | with_reducible exact g_nein | with_reducible exact g_nenn | with_reducible exact g_isn | with_reducible exact g_isi | with_reducible exact g_nsn | with_reducible exact g_nsi | with_reducible exact g_max | with_reducible exact g_max3 | with_reducible exact g_min | with_reducible exact g_intb | with_reducible apply g_gt2 | with_reducible apply g_gt3 | with_reducible apply g_tup | with_reducible apply g_lst | with_reducible exact lenOk rfl | with_reducible exact g_on | with_reducible apply g_os | with_reducible apply g_sl | with_reducible apply g_bkm | with_reducible exact g_okS )
      apply body_nx
      · refine sq_of2 S1' _ ?_
        (repeat' first | with_reducible exact F1 | with_reducible exact okt7 | with_reducible exact g_un (g_v rfl) sr | with_reducible exact ap | with_reducible exact g_v rfl | with_reducible exact g_c | with_reducible exact g_an | with_reducible exact g_add | with_reducible exact g_sub | with_reducible exact g_iadd | with_reducible exact g_lt | with_reducible exact g_le | with_reducible exact g_gt | with_reducible exact g_ge | with_reducible exact g_eq | with_reducible exact g_ne | with_reducible exact g_neg | with_reducible exact g_mul (by first | assumption | omega | decide) | with_reducible exact g_div (by first | assumption | omega | decide) (by first | assumption | omega | decide) | with_reducible exact g_mod (by first | assumption | omega | decide) | with_reducible exact g_pow (by decide) | with_reducible apply g_isint | with_reducible exact g_sk | with_reducible exact g_rn | with_reducible exact g_bk | with_reducible exact g_ct | with_reducible exact g_gn0 | with_reducible apply g_gns | with_reducible exact g_ap0 | with_reducible apply g_apS | with_reducible apply g_op | with_reducible apply g_un | with_reducible apply g_ac | with_reducible apply g_call | with_reducible apply g_calld | with_reducible apply g_bf | with_reducible apply g_sq | with_reducible apply g_kn | with_reducible exact g_kr | with_reducible exact g_kb | with_reducible exact g_kc | with_reducible apply g_as | with_reducible apply g_pr | with_reducible apply g_au rfl | with_reducible apply g_rt | with_reducible apply g_ex | with_reducible apply g_if | with_reducible apply g_tv | with_reducible apply g_tan | with_reducible apply g_tor | with_reducible apply g_tnt | with_reducible apply g_ean | with_reducible apply g_eor | with_reducible apply g_ent | with_reducible apply g_eif | with_reducible apply g_iftt | with_reducible apply g_iffn | with_reducible apply g_ifff | with_reducible apply g_iftn | with_reducible refine g_ift (by first | assumption | omega | decide) ?_ | with_reducible refine g_iff (by first | assumption | omega | decide) ?_ | with_reducible refine g_ifnt (by first | assumption | omega | decide) ?_ | with_reducible refine g_ifnf (by first | assumption | omega | decide) ?_ | with_reducible exact rfl | with_reducible exact g_eqs | with_reducible exact g_nes | with_reducible exact g_neni | with_reducible exact g_nein | with_reducible exact g_nenn | with_reducible exact g_isn | with_reducible exact g_isi | with_reducible exact g_nsn | with_reducible exact g_nsi | with_reducible exact g_max | with_reducible exact g_max3 | with_reducible exact g_min | with_reducible exact g_intb | with_reducible apply g_gt2 | with_reducible apply g_gt3 | with_reducible apply g_tup | with_reducible apply g_lst | with_reducible exact lenOk rfl | with_reducible exact g_on | with_reducible apply g_os | with_reducible apply g_sl | with_reducible apply g_bkm | with_reducible exact g_okS )
      · refine ⟨_, _, _, _, refs ++ [h7.length], M ++ [mv1 L P M f], rfl, kS, ?_, ?_, mv.snoc o q⟩
        · rw [getset_same gt8, List.map_append]; rfl
        · rw [List.map_append]
          refine ⟨tl8.len, fun k' i' q' => ⟨getset ?_ (tl8.each k' i' q').1, (tl8.each k' i' q').2⟩, tl8.up⟩
          have := (tl8.each k' i' q').2
          omega)
    (e := [some (.tup [.ref a, .ref b]), some (.ref h.length), some (.ref h1.length), some (.ref h2.length), none, none, none, none]) (h := h2 ++ [.lst []]) ⟨_, _, _, _, [], [], rfl, Kp.app, get_new, TL.nil, ⟨rfl, fun k x hk => absurd hk (Nat.not_lt_zero _), fun k z hz => by simp at hz, fun k => by simp⟩⟩ (fuel := C.fuel) (by omega)
  have F := fo_of (g := gT [4, 5]) (mi := iA (eOp opIx (eV 0) (eC (.int 1)))) (e := [some (.tup [.ref a, .ref b]), some (.ref h.length), some (.ref h1.length), some (.ref h2.length), none, none, none, none]) (h := h2 ++ [.lst []]) (h1 := h2 ++ [.lst []]) (it := itL b) (by
    have q : (eOp opIx (eV 0) (eC (.int 1))) C [some (.tup [.ref a, .ref b]), some (.ref h.length), some (.ref h1.length), some (.ref h2.length), none, none, none, none] (h2 ++ [.lst []]) = .ok (.ref b) (h2 ++ [.lst []]) := by
      have ix : opIx (.tup [.ref a, .ref b]) (.int 1) (h2 ++ [.lst []]) = .ok (.ref b) (h2 ++ [.lst []]) := g_ixt (by decide) rfl
      (repeat' first | with_reducible exact ix | with_reducible exact g_v rfl | with_reducible exact g_c | with_reducible exact g_an | with_reducible exact g_add | with_reducible exact g_sub | with_reducible exact g_iadd | with_reducible exact g_lt | with_reducible exact g_le | with_reducible exact g_gt | with_reducible exact g_ge | with_reducible exact g_eq | with_reducible exact g_ne | with_reducible exact g_neg | with_reducible exact g_mul (by first | assumption | omega | decide) | with_reducible exact g_div (by first | assumption | omega | decide) (by first | assumption | omega | decide) | with_reducible exact g_mod (by first | assumption | omega | decide) | with_reducible exact g_pow (by decide) | with_reducible apply g_isint | with_reducible exact g_sk | with_reducible exact g_rn | with_reducible exact g_bk | with_reducible exact g_ct | with_reducible exact g_gn0 | with_reducible apply g_gns | with_reducible exact g_ap0 | with_reducible apply g_apS | with_reducible apply g_op | with_reducible apply g_un | with_reducible apply g_ac | with_reducible apply g_call | with_reducible apply g_calld | with_reducible apply g_bf | with_reducible apply g_sq | with_reducible apply g_kn | with_reducible exact g_kr | with_reducible exact g_kb | with_reducible exact g_kc | with_reducible apply g_as | with_reducible apply g_pr | with_reducible apply g_au rfl | with_reducible apply g_rt | with_reducible apply g_ex | with_reducible apply g_if | with_reducible apply g_tv | with_reducible apply g_tan | with_reducible apply g_tor | with_reducible apply g_tnt | with_reducible apply g_ean | with_reducible apply g_eor | with_reducible apply g_ent | with_reducible apply g_eif | with_reducible apply g_iftt | with_reducible apply g_iffn | with_reducible apply g_ifff | with_reducible apply g_iftn | with_reducible refine g_ift (by first | assumption | omega | decide) ?_ | with_reducible refine g_iff (by first | assumption | omega | decide) ?_ | with_reducible refine g_ifnt (by first | assumption | omega | decide) ?_ | with_reducible refine g_ifnf (by first | assumption | omega | decide) ?_ | with_reducible exact rfl | with_reducible exact g_eqs | with_reducible exact g_nes | with_reducible exact g_neni | with_reducible exact g_nein | with_reducible exact g_nenn | with_reducible exact g_isn | with_reducible exact g_isi | with_reducible exact g_nsn | with_reducible exact g_nsi | with_reducible exact g_max | with_reducible exact g_max3 | with_reducible exact g_min | with_reducible exact g_intb | with_reducible apply g_gt2 | with_reducible apply g_gt3 | with_reducible apply g_tup | with_reducible apply g_lst | with_reducible exact lenOk rfl | with_reducible exact g_on | with_reducible apply g_os | with_reducible apply g_sl | with_reducible apply g_bkm | with_reducible exact g_okS )
    unfold iA; rw [q]; simp only [Z.R.bind_ok, isL_of (get_app (t := [O.lst []]) (k2 _ _ (k1 _ _ gb)))]) F
  have ia : opIx (.tup [.ref a, .ref b]) (.int 0) h = .ok (.ref a) h := g_ixt (by decide) rfl
  have ib : opIx (.tup [.ref a, .ref b]) (.int 1) h1 = .ok (.ref b) h1 := g_ixt (by decide) rfl
  refine ⟨h4, h2.length, refs, M, ?_, k1.trans (k2.trans k4), by omega, gt, ⟨tl.len, fun k i q => ⟨(tl.each k i q).1, by have := (tl.each k i q).2; omega⟩, tl.up⟩, mv, fun hm => ?_⟩
  · refine run_rt rfl (by simp only [List.map_cons, List.map_nil, List.length_cons, List.length_nil, List.cons_append, List.nil_append, Nat.reduceAdd, Nat.reduceSub, List.replicate_succ, List.replicate_zero]; exact rfl) ?_
    (repeat' first | with_reducible exact ia | with_reducible exact cL | with_reducible exact ib | with_reducible exact cP | with_reducible exact F | with_reducible exact g_v rfl | with_reducible exact g_c | with_reducible exact g_an | with_reducible exact g_add | with_reducible exact g_sub | with_reducible exact g_iadd | with_reducible exact g_lt | with_reducible exact g_le | with_reducible exact g_gt | with_reducible exact g_ge | with_reducible exact g_eq | with_reducible exact g_ne | with_reducible exact g_neg | with_reducible exact g_mul (by first | assumption | omega | decide) | with_reducible exact g_div (by first | assumption | omega | decide) (by first | assumption | omega | decide) | with_reducible exact g_mod (by first | assumption | omega | decide) | with_reducible exact g_pow (by decide) | with_reducible apply g_isint | with_reducible exact g_sk | with_reducible exact g_rn | with_reducible exact g_bk | with_reducible exact g_ct | with_reducible exact g_gn0 | with_reducible apply g_gns | with_reducible exact g_ap0 | with_reducible apply g_apS | with_reducible apply g_op | with_reducible apply g_un | with_reducible apply g_ac | with_reducible apply g_call | with_reducible apply g_calld | with_reducible apply g_bf | with_reducible apply g_sq | with_reducible apply g_kn | with_reducible exact g_kr | with_reducible exact g_kb | with_reducible exact g_kc | with_reducible apply g_as | with_reducible apply g_pr | with_reducible apply g_au rfl | with_reducible apply g_rt | with_reducible apply g_ex | with_reducible apply g_if | with_reducible apply g_tv | with_reducible apply g_tan | with_reducible apply g_tor | with_reducible apply g_tnt | with_reducible apply g_ean | with_reducible apply g_eor | with_reducible apply g_ent | with_reducible apply g_eif | with_reducible apply g_iftt | with_reducible apply g_iffn | with_reducible apply g_ifff | with_reducible apply g_iftn | with_reducible refine g_ift (by first | assumption | omega | decide) ?_ | with_reducible refine g_iff (by first | assumption | omega | decide) ?_ | with_reducible refine g_ifnt (by first | assumption | omega | decide) ?_ | with_reducible refine g_ifnf (by first | assumption | omega | decide) ?_ | with_reducible exact rfl | with_reducible exact g_eqs | with_reducible exact g_nes | with_reducible exact g_neni | with_reducible exact g_nein | with_reducible exact g_nenn | with_reducible exact g_isn | with_reducible exact g_isi | with_reducible exact g_nsn | with_reducible exact g_nsi | with_reducible exact g_max | with_reducible exact g_max3 | with_reducible exact g_min | with_reducible exact g_intb | with_reducible apply g_gt2 | with_reducible apply g_gt3 | with_reducible apply g_tup | with_reducible apply g_lst | with_reducible exact lenOk rfl | with_reducible exact g_on | with_reducible apply g_os | with_reducible apply g_sl | with_reducible apply g_bkm | with_reducible exact g_okS )
  · obtain ⟨k, hk⟩ := List.mem_iff_getElem?.mp hm
    have := (tl.each k _ hk).2
    omega
/-! lengths of a sound book -/
def LgV (P : List (Str × Fm)) (lg : Nat → Int) (k : Nat) : Fm → Prop
  | .hold b => lg k = b
  | .ring _ b => lg k = b
  | .raise _ _ b => lg k = b
  | .row ns => lg k = ((namedIx P (.row ns)).map lg).sum
  | .side ns => maxL ((namedIx P (.side ns)).map lg) = some (lg k)
  | .again t n => ∃ j, namedIx P (.again t n) = [j] ∧ lg k = t * lg j
structure Snd (L : List (Str × Int)) (P : List (Str × Fm)) (lg : Nat → Int) : Prop where
  val : ∀ k x, P[k]? = some x → LgV P lg k x.2
  lgb : ∀ k, k < P.length → 1 ≤ lg k ∧ lg k ≤ 10 ^ 60
  side : ∀ (k : Nat) (x : Str × Fm) (ns : List Str), P[k]? = some x → x.2 = .side ns → ∀ M, MvOk L P P.length M → (∀ j ∈ namedIx P x.2, M.getD j [] ≠ []) ∧ (namedIx P x.2).Pairwise (fun i j => ∀ z ∈ M.getD i [], z ∉ M.getD j [])
def lgL (P : List (Str × Fm)) (lg : Nat → Int) : List Int := (List.range P.length).map lg
theorem lgL_len {P : List (Str × Fm)} {lg : Nat → Int} : (lgL P lg).length = P.length := by unfold lgL; rw [List.length_map, List.length_range]
theorem lgL_at {P : List (Str × Fm)} {lg : Nat → Int} {j : Nat} (hj : j < P.length) : (lgL P lg)[j]? = some (lg j) := by unfold lgL; rw [List.getElem?_map, List.getElem?_range hj]; rfl
theorem sum_intsG {h : HP} {t : Nat} {xs : List Int} (g : h[t]? = some (.lst (xs.map D.int))) : bSum [.ref t] h = .ok (.int xs.sum) h := g_sumL (isL_of g)
theorem lgmG {t l : Int} (t0 : 0 ≤ t) (t1 : t ≤ 10 ^ 18) (l0 : 0 ≤ l) (l1 : l ≤ 10 ^ 60) : mulOk t l = true := by
  have lb60 : ∀ x : Int, 0 ≤ x → x ≤ 10 ^ 60 → Lt2 x 300 := fun x x1 x2 => ⟨Nat.lt_of_le_of_lt (show x.natAbs ≤ 10 ^ 60 by omega) (by decide)⟩
  exact mulOk_of (lb60 t t0 (by omega)) (lb60 l l0 l1) (by decide)
/-- length_of -/
theorem length_ofG {h : HP} {C : Ctx} {L : List (Str × Int)} {P : List (Str × Fm)} {lg : Nat → Int} (o : BkOk L P) (sd : Snd L P lg) {k : Nat} {x : Str × Fm} (q : P[k]? = some x) {t : Nat} (g : h[t]? = some (.lst (((namedIx P x.2).map lg).map D.int))) : runFn C f_length_of [x.2.d, .ref t] h = .ok (.int (lg k)) h := by
  have lv := sd.val k x q
  have hk := (List.getElem?_eq_some_iff.mp q).1
  have fr := o.fm k x q
  have na := (named_ahead o q).2.1
  obtain ⟨m, f⟩ := x
  dsimp only at lv g fr na
  have it0 : opIx f.d (.int 0) h = .ok (.str f.tag) h := ix_tag
  have last : ∀ b : Int, f.tag ≠ "row" → f.tag ≠ "side" → f.tag ≠ "again" → opIx f.d (.int (-1)) h = .ok (.int b) h → lg k = b → runFn C f_length_of [f.d, .ref t] h = .ok (.int (lg k)) h := fun b n1 n2 n3 ix e => by
    have e1 := g_eqsn (h := h) n1
    have e2 := g_eqsn (h := h) n2
    have e3 := g_eqsn (h := h) n3
    rw [e]
    refine run_rt rfl (by simp only [List.map_cons, List.map_nil, List.length_cons, List.length_nil, List.cons_append, List.nil_append, Nat.reduceAdd, Nat.reduceSub, List.replicate_succ, List.replicate_zero]; exact rfl) ?_
    (repeat' first | with_reducible exact it0 | with_reducible exact e1 | with_reducible exact e2 | with_reducible exact e3 | with_reducible exact ix | with_reducible exact g_v rfl | with_reducible exact g_c | with_reducible exact g_an | with_reducible exact g_add | with_reducible exact g_sub | with_reducible exact g_iadd | with_reducible exact g_lt | with_reducible exact g_le | with_reducible exact g_gt | with_reducible exact g_ge | with_reducible exact g_eq | with_reducible exact g_ne | with_reducible exact g_neg | with_reducible exact g_mul (by first | assumption | omega | decide) | with_reducible exact g_div (by first | assumption | omega | decide) (by first | assumption | omega | decide) | with_reducible exact g_mod (by first | assumption | omega | decide) | with_reducible exact g_pow (by decide) | with_reducible apply g_isint | with_reducible exact g_sk | with_reducible exact g_rn | with_reducible exact g_bk | with_reducible exact g_ct | with_reducible exact g_gn0 | with_reducible apply g_gns | with_reducible exact g_ap0 | with_reducible apply g_apS | with_reducible apply g_op | with_reducible apply g_un | with_reducible apply g_ac | with_reducible apply g_call | with_reducible apply g_calld | with_reducible apply g_bf | with_reducible apply g_sq | with_reducible apply g_kn | with_reducible exact g_kr | with_reducible exact g_kb | with_reducible exact g_kc | with_reducible apply g_as | with_reducible apply g_pr | with_reducible apply g_au rfl | with_reducible apply g_rt | with_reducible apply g_ex | with_reducible apply g_if | with_reducible apply g_tv | with_reducible apply g_tan | with_reducible apply g_tor | with_reducible apply g_tnt | with_reducible apply g_ean | with_reducible apply g_eor | with_reducible apply g_ent | with_reducible apply g_eif | with_reducible apply g_iftt | with_reducible apply g_iffn | with_reducible apply g_ifff | with_reducible apply g_iftn | with_reducible refine g_ift (by first | assumption | omega | decide) ?_ | with_reducible refine g_iff (by first | assumption | omega | decide) ?_ | with_reducible refine g_ifnt (by first | assumption | omega | decide) ?_ | with_reducible refine g_ifnf (by first | assumption | omega | decide) ?_ | with_reducible exact rfl | with_reducible exact g_eqs | with_reducible exact g_nes | with_reducible exact g_neni | with_reducible exact g_nein | with_reducible exact g_nenn | with_reducible exact g_isn | with_reducible exact g_isi | with_reducible exact g_nsn | with_reducible exact g_nsi | with_reducible exact g_max | with_reducible exact g_max3 | with_reducible exact g_min | with_reducible exact g_intb | with_reducible apply g_gt2 | with_reducible apply g_gt3 | with_reducible apply g_tup | with_reducible apply g_lst | with_reducible exact lenOk rfl | with_reducible exact g_on | with_reducible apply g_os | with_reducible apply g_sl | with_reducible apply g_bkm | with_reducible exact g_okS )
  cases f with
  | hold b => exact last b (by simp only [Fm.tag]; decide) (by simp only [Fm.tag]; decide) (by simp only [Fm.tag]; decide) rfl lv
  | ring v b => exact last b (by simp only [Fm.tag]; decide) (by simp only [Fm.tag]; decide) (by simp only [Fm.tag]; decide) rfl lv
  | raise l t' b => exact last b (by simp only [Fm.tag]; decide) (by simp only [Fm.tag]; decide) (by simp only [Fm.tag]; decide) rfl lv
  | row ns =>
    have er := g_eqsr (p := ("row" : Str)) (h := h)
    have sm := sum_intsG g
    rw [show ((namedIx P (Fm.row ns)).map lg).sum = lg k from (show lg k = _ from lv).symm] at sm
    have it0 : opIx (Fm.row ns).d (.int 0) h = .ok (.str "row") h := it0
    refine run_rt rfl (by simp only [List.map_cons, List.map_nil, List.length_cons, List.length_nil, List.cons_append, List.nil_append, Nat.reduceAdd, Nat.reduceSub, List.replicate_succ, List.replicate_zero]; exact rfl) ?_
    (repeat' first | with_reducible exact it0 | with_reducible exact er | with_reducible exact sm | with_reducible exact g_v rfl | with_reducible exact g_c | with_reducible exact g_an | with_reducible exact g_add | with_reducible exact g_sub | with_reducible exact g_iadd | with_reducible exact g_lt | with_reducible exact g_le | with_reducible exact g_gt | with_reducible exact g_ge | with_reducible exact g_eq | with_reducible exact g_ne | with_reducible exact g_neg | with_reducible exact g_mul (by first | assumption | omega | decide) | with_reducible exact g_div (by first | assumption | omega | decide) (by first | assumption | omega | decide) | with_reducible exact g_mod (by first | assumption | omega | decide) | with_reducible exact g_pow (by decide) | with_reducible apply g_isint | with_reducible exact g_sk | with_reducible exact g_rn | with_reducible exact g_bk | with_reducible exact g_ct | with_reducible exact g_gn0 | with_reducible apply g_gns | with_reducible exact g_ap0 | with_reducible apply g_apS | with_reducible apply g_op | with_reducible apply g_un | with_reducible apply g_ac | with_reducible apply g_call | with_reducible apply g_calld | with_reducible apply g_bf | with_reducible apply g_sq | with_reducible apply g_kn | with_reducible exact g_kr | with_reducible exact g_kb | with_reducible exact g_kc | with_reducible apply g_as | with_reducible apply g_pr | with_reducible apply g_au rfl | with_reducible apply g_rt | with_reducible apply g_ex | with_reducible apply g_if | with_reducible apply g_tv | with_reducible apply g_tan | with_reducible apply g_tor | with_reducible apply g_tnt | with_reducible apply g_ean | with_reducible apply g_eor | with_reducible apply g_ent | with_reducible apply g_eif | with_reducible apply g_iftt | with_reducible apply g_iffn | with_reducible apply g_ifff | with_reducible apply g_iftn | with_reducible refine g_ift (by first | assumption | omega | decide) ?_ | with_reducible refine g_iff (by first | assumption | omega | decide) ?_ | with_reducible refine g_ifnt (by first | assumption | omega | decide) ?_ | with_reducible refine g_ifnf (by first | assumption | omega | decide) ?_ | with_reducible exact rfl | with_reducible exact g_eqs | with_reducible exact g_nes | with_reducible exact g_neni | with_reducible exact g_nein | with_reducible exact g_nenn | with_reducible exact g_isn | with_reducible exact g_isi | with_reducible exact g_nsn | with_reducible exact g_nsi | with_reducible exact g_max | with_reducible exact g_max3 | with_reducible exact g_min | with_reducible exact g_intb | with_reducible apply g_gt2 | with_reducible apply g_gt3 | with_reducible apply g_tup | with_reducible apply g_lst | with_reducible exact lenOk rfl | with_reducible exact g_on | with_reducible apply g_os | with_reducible apply g_sl | with_reducible apply g_bkm | with_reducible exact g_okS )
  | side ns =>
    have e1 := g_eqsn (p := ("side" : Str)) (q := "row") (h := h) (by decide)
    have er := g_eqsr (p := ("side" : Str)) (h := h)
    have sm := g_maxL g (show maxL ((namedIx P (Fm.side ns)).map lg) = some (lg k) from lv)
    have it0 : opIx (Fm.side ns).d (.int 0) h = .ok (.str "side") h := it0
    refine run_rt rfl (by simp only [List.map_cons, List.map_nil, List.length_cons, List.length_nil, List.cons_append, List.nil_append, Nat.reduceAdd, Nat.reduceSub, List.replicate_succ, List.replicate_zero]; exact rfl) ?_
    (repeat' first | with_reducible exact it0 | with_reducible exact e1 | with_reducible exact er | with_reducible exact sm | with_reducible exact g_v rfl | with_reducible exact g_c | with_reducible exact g_an | with_reducible exact g_add | with_reducible exact g_sub | with_reducible exact g_iadd | with_reducible exact g_lt | with_reducible exact g_le | with_reducible exact g_gt | with_reducible exact g_ge | with_reducible exact g_eq | with_reducible exact g_ne | with_reducible exact g_neg | with_reducible exact g_mul (by first | assumption | omega | decide) | with_reducible exact g_div (by first | assumption | omega | decide) (by first | assumption | omega | decide) | with_reducible exact g_mod (by first | assumption | omega | decide) | with_reducible exact g_pow (by decide) | with_reducible apply g_isint | with_reducible exact g_sk | with_reducible exact g_rn | with_reducible exact g_bk | with_reducible exact g_ct | with_reducible exact g_gn0 | with_reducible apply g_gns | with_reducible exact g_ap0 | with_reducible apply g_apS | with_reducible apply g_op | with_reducible apply g_un | with_reducible apply g_ac | with_reducible apply g_call | with_reducible apply g_calld | with_reducible apply g_bf | with_reducible apply g_sq | with_reducible apply g_kn | with_reducible exact g_kr | with_reducible exact g_kb | with_reducible exact g_kc | with_reducible apply g_as | with_reducible apply g_pr | with_reducible apply g_au rfl | with_reducible apply g_rt | with_reducible apply g_ex | with_reducible apply g_if | with_reducible apply g_tv | with_reducible apply g_tan | with_reducible apply g_tor | with_reducible apply g_tnt | with_reducible apply g_ean | with_reducible apply g_eor | with_reducible apply g_ent | with_reducible apply g_eif | with_reducible apply g_iftt | with_reducible apply g_iffn | with_reducible apply g_ifff | with_reducible apply g_iftn | with_reducible refine g_ift (by first | assumption | omega | decide) ?_ | with_reducible refine g_iff (by first | assumption | omega | decide) ?_ | with_reducible refine g_ifnt (by first | assumption | omega | decide) ?_ | with_reducible refine g_ifnf (by first | assumption | omega | decide) ?_ | with_reducible exact rfl | with_reducible exact g_eqs | with_reducible exact g_nes | with_reducible exact g_neni | with_reducible exact g_nein | with_reducible exact g_nenn | with_reducible exact g_isn | with_reducible exact g_isi | with_reducible exact g_nsn | with_reducible exact g_nsi | with_reducible exact g_max | with_reducible exact g_max3 | with_reducible exact g_min | with_reducible exact g_intb | with_reducible apply g_gt2 | with_reducible apply g_gt3 | with_reducible apply g_tup | with_reducible apply g_lst | with_reducible exact lenOk rfl | with_reducible exact g_on | with_reducible apply g_os | with_reducible apply g_sl | with_reducible apply g_bkm | with_reducible exact g_okS )
  | again t' n =>
    obtain ⟨j, e, lv⟩ := lv
    have e1 := g_eqsn (p := ("again" : Str)) (q := "row") (h := h) (by decide)
    have e2 := g_eqsn (p := ("again" : Str)) (q := "side") (h := h) (by decide)
    have er := g_eqsr (p := ("again" : Str)) (h := h)
    rw [e] at g
    have hj := (na j (by rw [e]; simp)).2
    have lj := sd.lgb j hj
    have ixl : opIx (.ref t) (.int 0) h = .ok (.int (lg j)) h := g_ixl g (by decide) rfl
    have ix1 : opIx (Fm.again t' n).d (.int 1) h = .ok (.int t') h := rfl
    have mk : mulOk t' (lg j) = true := lgmG (by have := fr.1; omega) fr.2.1 (by omega) lj.2
    have it0 : opIx (Fm.again t' n).d (.int 0) h = .ok (.str "again") h := it0
    rw [lv]
    refine run_rt rfl (by simp only [List.map_cons, List.map_nil, List.length_cons, List.length_nil, List.cons_append, List.nil_append, Nat.reduceAdd, Nat.reduceSub, List.replicate_succ, List.replicate_zero]; exact rfl) ?_
    (repeat' first | with_reducible exact it0 | with_reducible exact e1 | with_reducible exact e2 | with_reducible exact er | with_reducible exact ix1 | with_reducible exact ixl | with_reducible exact g_v rfl | with_reducible exact g_c | with_reducible exact g_an | with_reducible exact g_add | with_reducible exact g_sub | with_reducible exact g_iadd | with_reducible exact g_lt | with_reducible exact g_le | with_reducible exact g_gt | with_reducible exact g_ge | with_reducible exact g_eq | with_reducible exact g_ne | with_reducible exact g_neg | with_reducible exact g_mul (by first | assumption | omega | decide) | with_reducible exact g_div (by first | assumption | omega | decide) (by first | assumption | omega | decide) | with_reducible exact g_mod (by first | assumption | omega | decide) | with_reducible exact g_pow (by decide) | with_reducible apply g_isint | with_reducible exact g_sk | with_reducible exact g_rn | with_reducible exact g_bk | with_reducible exact g_ct | with_reducible exact g_gn0 | with_reducible apply g_gns | with_reducible exact g_ap0 | with_reducible apply g_apS | with_reducible apply g_op | with_reducible apply g_un | with_reducible apply g_ac | with_reducible apply g_call | with_reducible apply g_calld | with_reducible apply g_bf | with_reducible apply g_sq | with_reducible apply g_kn | with_reducible exact g_kr | with_reducible exact g_kb | with_reducible exact g_kc | with_reducible apply g_as | with_reducible apply g_pr | with_reducible apply g_au rfl | with_reducible apply g_rt | with_reducible apply g_ex | with_reducible apply g_if | with_reducible apply g_tv | with_reducible apply g_tan | with_reducible apply g_tor | with_reducible apply g_tnt | with_reducible apply g_ean | with_reducible apply g_eor | with_reducible apply g_ent | with_reducible apply g_eif | with_reducible apply g_iftt | with_reducible apply g_iffn | with_reducible apply g_ifff | with_reducible apply g_iftn | with_reducible refine g_ift (by first | assumption | omega | decide) ?_ | with_reducible refine g_iff (by first | assumption | omega | decide) ?_ | with_reducible refine g_ifnt (by first | assumption | omega | decide) ?_ | with_reducible refine g_ifnf (by first | assumption | omega | decide) ?_ | with_reducible exact rfl | with_reducible exact g_eqs | with_reducible exact g_nes | with_reducible exact g_neni | with_reducible exact g_nein | with_reducible exact g_nenn | with_reducible exact g_isn | with_reducible exact g_isi | with_reducible exact g_nsn | with_reducible exact g_nsi | with_reducible exact g_max | with_reducible exact g_max3 | with_reducible exact g_min | with_reducible exact g_intb | with_reducible apply g_gt2 | with_reducible apply g_gt3 | with_reducible apply g_tup | with_reducible apply g_lst | with_reducible exact lenOk rfl | with_reducible exact g_on | with_reducible apply g_os | with_reducible apply g_sl | with_reducible apply g_bkm | with_reducible exact g_okS )
/-- lengths -/
theorem lengthsG {h : HP} {C : Ctx} {L : List (Str × Int)} {P : List (Str × Fm)} {lg : Nat → Int} (o : BkOk L P) (sd : Snd L P lg) (fu : 1000 < C.fuel) {a b : Nat} (ga : h[a]? = some (.lst (L.map limbD))) (gb : h[b]? = some (.lst (P.map partD)))
    (c61P : ∀ h : HP, h[b]? = some (.lst (P.map partD)) → C.call 61 [.ref b] h = .ok (.ref h.length) (h ++ [.dic (numD 0 (pnm P))]))
    (c62 : ∀ (h : HP) (f : Fm) (d : Nat), (∀ n ∈ f.pns, n ∈ pnm P) → f.pns.length ≤ 8 → h[d]? = some (.dic (numD 0 (pnm P))) → C.call 62 [f.d, .ref d] h = .ok (.ref h.length) (h ++ [.lst (natD (namedIx P f))]))
    (c63 : ∀ h : HP, h[a]? = some (.lst (L.map limbD)) → h[b]? = some (.lst (P.map partD)) → ∃ h' t refs M, C.call 63 [.tup [.ref a, .ref b]] h = .ok (.ref t) h' ∧ Kp h h' ∧ h.length ≤ t ∧ h'[t]? = some (.lst (refs.map D.ref)) ∧ TL h.length h' refs (M.map (·.map D.int)) ∧ MvOk L P P.length M ∧ t ∉ refs)
    (c71 : ∀ (h : HP) (nb : D) (t : Nat) (refs : List Nat) (Ms : List (List Int)), h[a]? = some (.lst (L.map limbD)) → h[t]? = some (.lst (refs.map D.ref)) → refs.length = Ms.length → (1 ≤ refs.length ∧ refs.length ≤ 8) → (∀ (k i : Nat), refs[k]? = some i → h[i]? = some (.lst ((Ms.getD k []).map D.int))) → (∀ ns ∈ Ms, ns ≠ []) →
      Ms.Pairwise (fun x y => ∀ z ∈ x, z ∉ y) → ∃ h', C.call 71 [.tup [.ref a, .ref b], nb, .ref t] h = .ok .non h' ∧ Kp h h')
    (c70 : ∀ (h : HP) (k : Nat) (x : Str × Fm) (t : Nat), P[k]? = some x → h[t]? = some (.lst (((namedIx P x.2).map lg).map D.int)) → C.call 70 [x.2.d, .ref t] h = .ok (.int (lg k)) h) :
    ∃ h' t, runFn C f_lengths [.tup [.ref a, .ref b]] h = .ok (.ref t) h' ∧ Kp h h' ∧ h.length ≤ t ∧ h'[t]? = some (.lst ((lgL P lg).map D.int)) := by
  obtain ⟨h1, hh1⟩ : ∃ h1, h1 = h ++ [O.dic (numD 0 (pnm P))] := ⟨_, rfl⟩
  have k1 : Kp h h1 := by rw [hh1]; exact Kp.app
  have d1 : h1[h.length]? = some (.dic (numD 0 (pnm P))) := by rw [hh1]; exact get_new
  have cP := c61P h gb
  rw [← hh1] at cP
  obtain ⟨h2, tm, refs, M, cM, k2, _, gm, tlm, mv, _⟩ := c63 h1 (k1 _ _ ga) (k1 _ _ gb)
  have kh2 : Kp h h2 := k1.trans k2
  have wl : (lgL P lg).length = P.length := lgL_len
  have wm := o.p1.2
  have l2 := kh2.len
  obtain ⟨e2, h4, F, x4, x5, x6, x7, rfl, k4, g4⟩ := for_enum (i := b) (g := gT [4, 5]) (b := b_lengths_1) (C := C) partD P
    (fun j e h' => ∃ x4 x5 x6 x7, e = [some (.tup [.ref a, .ref b]), some (.ref h.length), some (.ref tm), some (.ref h2.length), x4, x5, x6, x7] ∧ Kp h2 h' ∧ h'[h2.length]? = some (.lst (((lgL P lg).take j).map D.int)))
    (fun j e h' ⟨x4, x5, x6, x7, e1, k, g⟩ => k _ _ (kh2 _ _ gb))
    (fun j x e h' q ⟨x4, x5, x6, x7, e1, k, g⟩ => by
      subst e1
      have jl := (List.getElem?_eq_some_iff.mp q).1
      obtain ⟨na1, na2, na3⟩ := named_ahead o q
      have lv := sd.val j x q
      have sdj := sd.side j x
      have fr := o.fm j x q
      obtain ⟨n, f⟩ := x
      dsimp only at na1 na2 na3 lv fr sdj
      have pl : f.pns.length ≤ 8 := by unfold namedIx at na3; rw [List.length_map] at na3; exact na3
      have tl : ((lgL P lg).take j).length = j := by rw [List.length_take, wl]; omega
      have b3 : ∀ hh, opIx (partD (n, f)) (.int 1) hh = .ok f.d hh := fun hh => rfl
      have cn := c62 h' f h.length na1 pl (k _ _ (k2 _ _ d1))
      obtain ⟨h5, hh5⟩ : ∃ h5, h5 = h' ++ [O.lst (natD (namedIx P f))] := ⟨_, rfl⟩
      rw [← hh5] at cn
      have k5 : Kp h' h5 := by rw [hh5]; exact Kp.app
      have g5 : h5[h'.length]? = some (.lst (natD (namedIx P f))) := by rw [hh5]; exact get_new
      have it0 : ∀ hh, opIx f.d (.int 0) hh = .ok (.str f.tag) hh := fun hh => ix_tag
      -- the look at a side
      obtain ⟨h6, S1, k6⟩ : ∃ h6, (sIf (tV (eOp opEq (eOp opIx (eOp opIx (eV 5) (eC (.int 1))) (eC (.int 0))) (eC (.str "side")))) (sEx (eCall 71 (aC (eV 0) (aC (eV 4) (aC (eLc [7] (gN 7) (iA (eV 6)) tY (eOp opIx (eV 2) (eV 7))) aN))) [])) sSk) C [some (.tup [.ref a, .ref b]), some (.ref h.length), some (.ref tm), some (.ref h2.length), some (.int (j : Int)), some (partD (n, f)), some (.ref h'.length), x7] h5 =
          .ok (.nx [some (.tup [.ref a, .ref b]), some (.ref h.length), some (.ref tm), some (.ref h2.length), some (.int (j : Int)), some (partD (n, f)), some (.ref h'.length), x7]) h6 ∧ Kp h5 h6 := by
        by_cases ht : f.tag = "side"
        · obtain ⟨ns, rfl⟩ : ∃ ns, f = .side ns := by
            cases f with
            | side ns => exact ⟨ns, rfl⟩
            | hold b => exact absurd ht (by simp only [Fm.tag]; decide)
            | ring w b => exact absurd ht (by simp only [Fm.tag]; decide)
            | raise l t bt => exact absurd ht (by simp only [Fm.tag]; decide)
            | row ns => exact absurd ht (by simp only [Fm.tag]; decide)
            | again t n => exact absurd ht (by simp only [Fm.tag]; decide)
          obtain ⟨lne, lap⟩ := sdj ns q rfl M mv
          have kk5 : Kp h2 h5 := k.trans k5
          have tl5 := tlm.kp kk5
          have PK := pick_run (C := C) (e := [some (.tup [.ref a, .ref b]), some (.ref h.length), some (.ref tm), some (.ref h2.length), some (.int (j : Int)), some (partD (n, Fm.side ns)), some (.ref h'.length), x7]) (mi := iA (eV 6)) (s := 2) (v := 7) (h := h5) (h1 := h5) (js := namedIx P (Fm.side ns)) (fun j => .ref (refs.getD j 0))
            (by unfold iA; rw [g_v (d := .ref h'.length) rfl]; simp only [Z.R.bind_ok, isL_of g5]) g5 rfl (by show 7 < 8; decide) (by decide) (fun j' hj' => by
              have := (na2 j' hj').2
              obtain ⟨i, i1, i2, i3⟩ := tl5.get (kk5 _ _ gm) (j := j') (by rw [List.length_map, mv.len]; exact this)
              rw [i1, List.getD_eq_getElem?_getD, i3]; rfl) (by omega) fu
          have e1 : (namedIx P (Fm.side ns)).map (fun j => D.ref (refs.getD j 0)) = ((namedIx P (Fm.side ns)).map fun j => refs.getD j 0).map D.ref := by rw [List.map_map]; rfl
          rw [e1] at PK
          have ll : 2 ≤ (namedIx P (Fm.side ns)).length := by show 2 ≤ (ns.map _).length; rw [List.length_map]; exact fr.1
          obtain ⟨h6, c, k6⟩ := c71 (h5 ++ [.lst (((namedIx P (Fm.side ns)).map fun j => refs.getD j 0).map D.ref)]) (.int (j : Int)) h5.length ((namedIx P (Fm.side ns)).map fun j => refs.getD j 0) ((namedIx P (Fm.side ns)).map fun j => M.getD j [])
            (get_app (k5 _ _ (k _ _ (kh2 _ _ ga)))) get_new (by rw [List.length_map, List.length_map]) (by rw [List.length_map]; omega) (fun k' i q' => by
              rw [List.getElem?_map] at q'
              obtain ⟨j', q1, rfl⟩ := Option.map_eq_some_iff.mp q'
              have hj' := (na2 j' (List.mem_of_getElem? q1)).2
              obtain ⟨i, i1, i2, i3⟩ := tl5.get (kk5 _ _ gm) (j := j') (by rw [List.length_map, mv.len]; exact hj')
              rw [List.getD_eq_getElem?_getD (l := List.map _ _), List.getElem?_map, q1]
              rw [map_getD] at i2
              rw [List.getD_eq_getElem?_getD, i3]
              exact get_app i2)
            (fun xs hx => by obtain ⟨j', hj', rfl⟩ := List.mem_map.mp hx; exact lne j' hj') (List.pairwise_map.mpr lap)
          refine ⟨h6, ?_, Kp.app.trans k6⟩
          have it0 : ∀ hh, opIx (Fm.side ns).d (.int 0) hh = .ok (.str "side") hh := it0
          have er := g_eqsr (p := ("side" : Str)) (h := h5)
          (repeat' first | with_reducible exact b3 _ | with_reducible exact it0 _ | with_reducible exact er | with_reducible exact PK | with_reducible exact c | with_reducible exact g_v rfl | with_reducible exact g_c | with_reducible exact g_an | with_reducible exact g_add | with_reducible exact g_sub | with_reducible exact g_iadd | with_reducible exact g_lt | with_reducible exact g_le | with_reducible exact g_gt | with_reducible exact g_ge | with_reducible exact g_eq | with_reducible exact g_ne | with_reducible exact g_neg | with_reducible exact g_mul (by first | assumption | omega | decide) | with_reducible exact g_div (by first | assumption | omega | decide) (by first | assumption | omega | decide) | with_reducible exact g_mod (by first | assumption | omega | decide) | with_reducible exact g_pow (by decide) | with_reducible apply g_isint | with_reducible exact g_sk | with_reducible exact g_rn | with_reducible exact g_bk | with_reducible exact g_ct | with_reducible exact g_gn0 | with_reducible apply g_gns | with_reducible exact g_ap0 | with_reducible apply g_apS | with_reducible apply g_op | with_reducible apply g_un | with_reducible apply g_ac | with_reducible apply g_call | with_reducible apply g_calld | with_reducible apply g_bf | with_reducible apply g_sq | with_reducible apply g_kn | with_reducible exact g_kr | with_reducible exact g_kb | with_reducible exact g_kc | with_reducible apply g_as | with_reducible apply g_pr | with_reducible apply g_au rfl | with_reducible apply g_rt | with_reducible apply g_ex | with_reducible apply g_if | with_reducible apply g_tv | with_reducible apply g_tan | with_reducible apply g_tor | with_reducible apply g_tnt | with_reducible apply g_ean | with_reducible apply g_eor | with_reducible apply g_ent | with_reducible apply g_eif | with_reducible apply g_iftt | with_reducible apply g_iffn | with_reducible apply g_ifff | with_reducible apply g_iftn | with_reducible refine g_ift (by first | assumption | omega | decide) ?_ | with_reducible refine g_iff (by first | assumption | omega | decide) ?_ | with_reducible refine g_ifnt (by first | assumption | omega | decide) ?_ | with_reducible refine g_ifnf (by first | assumption | omega | decide) ?_ | with_reducible exact rfl | with_reducible exact g_eqs | with_reducible exact g_nes | with_reducible exact g_neni | with_reducible exact g_nein | with_reducible exact g_nenn | with_reducible exact g_isn | with_reducible exact g_isi | with_reducible exact g_nsn | with_reducible exact g_nsi | with_reducible exact g_max | with_reducible exact g_max3 | with_reducible exact g_min | with_reducible exact g_intb | with_reducible apply g_gt2 | with_reducible apply g_gt3 | with_reducible apply g_tup | with_reducible apply g_lst | with_reducible exact lenOk rfl | with_reducible exact g_on | with_reducible apply g_os | with_reducible apply g_sl | with_reducible apply g_bkm | with_reducible exact g_okS )
        · have en := g_eqsn (h := h5) ht
          exact ⟨h5, by (repeat' first | with_reducible exact b3 _ | with_reducible exact it0 _ | with_reducible exact en | with_reducible exact g_v rfl | with_reducible exact g_c | with_reducible exact g_an | with_reducible exact g_add | with_reducible exact g_sub | with_reducible exact g_iadd | with_reducible exact g_lt | with_reducible exact g_le | with_reducible exact g_gt | with_reducible exact g_ge | with_reducible exact g_eq | with_reducible exact g_ne | with_reducible exact g_neg | with_reducible exact g_mul (by first | assumption | omega | decide) | with_reducible exact g_div (by first | assumption | omega | decide) (by first | assumption | omega | decide) | with_reducible exact g_mod (by first | assumption | omega | decide) | with_reducible exact g_pow (by decide) | with_reducible apply g_isint | with_reducible exact g_sk | with_reducible exact g_rn | with_reducible exact g_bk | with_reducible exact g_ct | with_reducible exact g_gn0 | with_reducible apply g_gns | with_reducible exact g_ap0 | with_reducible apply g_apS | with_reducible apply g_op | with_reducible apply g_un | with_reducible apply g_ac | with_reducible apply g_call | with_reducible apply g_calld | with_reducible apply g_bf | with_reducible apply g_sq | with_reducible apply g_kn | with_reducible exact g_kr | with_reducible exact g_kb | with_reducible exact g_kc | with_reducible apply g_as | with_reducible apply g_pr | with_reducible apply g_au rfl | with_reducible apply g_rt | with_reducible apply g_ex | with_reducible apply g_if | with_reducible apply g_tv | with_reducible apply g_tan | with_reducible apply g_tor | with_reducible apply g_tnt | with_reducible apply g_ean | with_reducible apply g_eor | with_reducible apply g_ent | with_reducible apply g_eif | with_reducible apply g_iftt | with_reducible apply g_iffn | with_reducible apply g_ifff | with_reducible apply g_iftn | with_reducible refine g_ift (by first | assumption | omega | decide) ?_ | with_reducible refine g_iff (by first | assumption | omega | decide) ?_ | with_reducible refine g_ifnt (by first | assumption | omega | decide) ?_ | with_reducible refine g_ifnf (by first | assumption | omega | decide) ?_ | with_reducible exact rfl | with_reducible exact g_eqs | with_reducible exact g_nes | with_reducible exact g_neni | with_reducible exact g_nein | with_reducible exact g_nenn | with_reducible exact g_isn | with_reducible exact g_isi | with_reducible exact g_nsn | with_reducible exact g_nsi | with_reducible exact g_max | with_reducible exact g_max3 | with_reducible exact g_min | with_reducible exact g_intb | with_reducible apply g_gt2 | with_reducible apply g_gt3 | with_reducible apply g_tup | with_reducible apply g_lst | with_reducible exact lenOk rfl | with_reducible exact g_on | with_reducible apply g_os | with_reducible apply g_sl | with_reducible apply g_bkm | with_reducible exact g_okS ), Kp.refl⟩
      have k56 := k5.trans k6
      have g6 := k56 _ _ g
      have PK := pick_run (C := C) (e := [some (.tup [.ref a, .ref b]), some (.ref h.length), some (.ref tm), some (.ref h2.length), some (.int (j : Int)), some (partD (n, f)), some (.ref h'.length), x7]) (mi := iA (eV 6)) (s := 3) (v := 7) (h := h6) (h1 := h6) (js := namedIx P f) (fun j => .int (lg j))
        (by unfold iA; rw [g_v (d := .ref h'.length) rfl]; simp only [Z.R.bind_ok, isL_of (k6 _ _ g5)]) (k6 _ _ g5) rfl (by show 7 < 8; decide) (by decide) (fun j' hj' => by
          have hj := na2 j' hj'
          exact g_ixl g6 (by omega) (by rw [Int.toNat_natCast, List.getElem?_map, List.getElem?_take, if_pos hj.1, lgL_at hj.2]; rfl)) (by omega) fu
      have e1 : (namedIx P f).map (fun j => D.int (lg j)) = ((namedIx P f).map lg).map D.int := by rw [List.map_map]; rfl
      rw [e1] at PK
      obtain ⟨h7, hh7⟩ : ∃ h7, h7 = h6 ++ [O.lst (((namedIx P f).map lg).map D.int)] := ⟨_, rfl⟩
      rw [← hh7] at PK
      have k7 : Kp h6 h7 := by rw [hh7]; exact Kp.app
      have cl := c70 h7 j (n, f) h6.length q (by rw [hh7]; exact get_new)
      have g7 := k7 _ _ g6
      have ap := g_app (y := .int (lg j)) g7 (by rw [List.length_map, tl, sizeLine_eq]; omega)
      have e2 : ((lgL P lg).take j).map D.int ++ [D.int (lg j)] = ((lgL P lg).take (j + 1)).map D.int := by rw [take_snoc (lgL_at jl), List.map_append]; rfl
      rw [e2] at ap
      have g8 : (h7.set h2.length (.lst (((lgL P lg).take (j + 1)).map D.int)))[h2.length]? = some (.lst (((lgL P lg).take (j + 1)).map D.int)) := getset_same g7
      have tl1 : ((lgL P lg).take (j + 1)).length = j + 1 := by rw [List.length_take, wl]; omega
      have ixm : opIx (.ref h2.length) (.int (-1)) (h7.set h2.length (.lst (((lgL P lg).take (j + 1)).map D.int))) = .ok (.int (lg j)) (h7.set h2.length (.lst (((lgL P lg).take (j + 1)).map D.int))) := g_ixm1 g8 (by
        rw [List.length_map, tl1, List.getElem?_map, List.getElem?_take, if_pos (by omega), Nat.add_sub_cancel, lgL_at jl]; rfl)
      have ub := (sd.lgb j jl).2
      have nb : ¬ (1000000000000000000000000000000000000000000000000000000000000 : Int) < lg j := by omega
      have ok6 := g_okL_of g6
      unfold b_lengths_1
      apply turn_of
      · (repeat' first | with_reducible exact g_v rfl | with_reducible exact g_c | with_reducible exact g_an | with_reducible exact g_add | with_reducible exact g_sub | with_reducible exact g_iadd | with_reducible exact g_lt | with_reducible exact g_le | with_reducible exact g_gt | with_reducible exact g_ge | with_reducible exact g_eq | with_reducible exact g_ne | with_reducible exact g_neg | with_reducible exact g_mul (by first | assumption | omega | decide) | with_reducible exact g_div (by first | assumption | omega | decide) (by first | assumption | omega | decide) | with_reducible exact g_mod (by first | assumption | omega | decide) | with_reducible exact g_pow (by decide) | with_reducible apply g_isint | with_reducible exact g_sk | with_reducible exact g_rn | with_reducible exact g_bk | with_reducible exact g_ct | with_reducible exact g_gn0 | with_reducible apply g_gns | with_reducible exact g_ap0 | with_reducible apply g_apS | with_reducible apply g_op | with_reducible apply g_un | with_reducible apply g_ac | with_reducible apply g_call | with_reducible apply g_calld | with_reducible apply g_bf | with_reducible apply g_sq | with_reducible apply g_kn | with_reducible exact g_kr | with_reducible exact g_kb | with_reducible exact g_kc | with_reducible apply g_as | with_reducible apply g_pr | with_reducible apply g_au rfl | with_reducible apply g_rt | with_reducible apply g_ex | with_reducible apply g_if | with_reducible apply g_tv | with_reducible apply g_tan | with_reducible apply g_tor | with_reducible apply g_tnt | with_reducible apply g_ean | with_reducible apply g_eor | with_reducible apply g_ent | with_reducible apply g_eif | with_reducible apply g_iftt | with_reducible apply g_iffn | with_reducible apply g_ifff | with_reducible apply g_iftn | with_reducible refine g_ift (by first | assumption | omega | decide) ?_ | with_reducible refine g_iff (by first | assumption | omega | decide) ?_ | with_reducible refine g_ifnt (by first | assumption | omega | decide) ?_ | with_reducible refine g_ifnf (by first | assumption | omega | decide) ?_ | with_reducible exact rfl | with_reducible exact g_eqs | with_reducible exact g_nes | with_reducible exact g_neni | with_reducible exact g_nein | with_reducible exact g_nenn | with_reducible exact g_isn | with_reducible exact g_isi | with_reducible exact g_nsn | with_reducible exact g_nsi | with_reducible exact g_max | with_reducible exact g_max3 | with_reducible exact g_min | with_reducible exact g_intb | with_reducible apply g_gt2 | with_reducible apply g_gt3 | with_reducible apply g_tup | with_reducible apply g_lst | with_reducible exact lenOk rfl | with_reducible exact g_on | with_reducible apply g_os | with_reducible apply g_sl | with_reducible apply g_bkm | with_reducible exact g_okS )
      apply body_nx
      · (repeat' first | with_reducible exact b3 _ | with_reducible exact cn | with_reducible exact S1 | with_reducible exact ok6 | with_reducible exact PK | with_reducible exact cl | with_reducible exact ap | with_reducible exact ixm | with_reducible exact g_v rfl | with_reducible exact g_c | with_reducible exact g_an | with_reducible exact g_add | with_reducible exact g_sub | with_reducible exact g_iadd | with_reducible exact g_lt | with_reducible exact g_le | with_reducible exact g_gt | with_reducible exact g_ge | with_reducible exact g_eq | with_reducible exact g_ne | with_reducible exact g_neg | with_reducible exact g_mul (by first | assumption | omega | decide) | with_reducible exact g_div (by first | assumption | omega | decide) (by first | assumption | omega | decide) | with_reducible exact g_mod (by first | assumption | omega | decide) | with_reducible exact g_pow (by decide) | with_reducible apply g_isint | with_reducible exact g_sk | with_reducible exact g_rn | with_reducible exact g_bk | with_reducible exact g_ct | with_reducible exact g_gn0 | with_reducible apply g_gns | with_reducible exact g_ap0 | with_reducible apply g_apS | with_reducible apply g_op | with_reducible apply g_un | with_reducible apply g_ac | with_reducible apply g_call | with_reducible apply g_calld | with_reducible apply g_bf | with_reducible apply g_sq | with_reducible apply g_kn | with_reducible exact g_kr | with_reducible exact g_kb | with_reducible exact g_kc | with_reducible apply g_as | with_reducible apply g_pr | with_reducible apply g_au rfl | with_reducible apply g_rt | with_reducible apply g_ex | with_reducible apply g_if | with_reducible apply g_tv | with_reducible apply g_tan | with_reducible apply g_tor | with_reducible apply g_tnt | with_reducible apply g_ean | with_reducible apply g_eor | with_reducible apply g_ent | with_reducible apply g_eif | with_reducible apply g_iftt | with_reducible apply g_iffn | with_reducible apply g_ifff | with_reducible apply g_iftn | with_reducible refine g_ift (by first | assumption | omega | decide) ?_ | with_reducible refine g_iff (by first | assumption | omega | decide) ?_ | with_reducible refine g_ifnt (by first | assumption | omega | decide) ?_ | with_reducible refine g_ifnf (by first | assumption | omega | decide) ?_ | with_reducible exact rfl | with_reducible exact g_eqs | with_reducible exact g_nes | with_reducible exact g_neni | with_reducible exact g_nein | with_reducible exact g_nenn | with_reducible exact g_isn | with_reducible exact g_isi | with_reducible exact g_nsn | with_reducible exact g_nsi | with_reducible exact g_max | with_reducible exact g_max3 | with_reducible exact g_min | with_reducible exact g_intb | with_reducible apply g_gt2 | with_reducible apply g_gt3 | with_reducible apply g_tup | with_reducible apply g_lst | with_reducible exact lenOk rfl | with_reducible exact g_on | with_reducible apply g_os | with_reducible apply g_sl | with_reducible apply g_bkm | with_reducible exact g_okS )
      · exact ⟨_, _, _, _, rfl, (k.trans (k56.trans k7)).set (Nat.le_refl _), g8⟩)
    (e := [some (.tup [.ref a, .ref b]), some (.ref h.length), some (.ref tm), some (.ref h2.length), none, none, none, none]) (h := h2 ++ [.lst []]) ⟨_, _, _, _, rfl, Kp.app, get_new⟩ (fuel := C.fuel) (by omega)
  have F := fo_of (g := gT [4, 5]) (mi := iEn (eOp opIx (eV 0) (eC (.int 1)))) (e := [some (.tup [.ref a, .ref b]), some (.ref h.length), some (.ref tm), some (.ref h2.length), none, none, none, none]) (h := h2 ++ [.lst []]) (h1 := h2 ++ [.lst []]) (it := itE b) (by
    have q : (eOp opIx (eV 0) (eC (.int 1))) C [some (.tup [.ref a, .ref b]), some (.ref h.length), some (.ref tm), some (.ref h2.length), none, none, none, none] (h2 ++ [.lst []]) = .ok (.ref b) (h2 ++ [.lst []]) := by
      have ix : opIx (.tup [.ref a, .ref b]) (.int 1) (h2 ++ [.lst []]) = .ok (.ref b) (h2 ++ [.lst []]) := g_ixt (by decide) rfl
      (repeat' first | with_reducible exact ix | with_reducible exact g_v rfl | with_reducible exact g_c | with_reducible exact g_an | with_reducible exact g_add | with_reducible exact g_sub | with_reducible exact g_iadd | with_reducible exact g_lt | with_reducible exact g_le | with_reducible exact g_gt | with_reducible exact g_ge | with_reducible exact g_eq | with_reducible exact g_ne | with_reducible exact g_neg | with_reducible exact g_mul (by first | assumption | omega | decide) | with_reducible exact g_div (by first | assumption | omega | decide) (by first | assumption | omega | decide) | with_reducible exact g_mod (by first | assumption | omega | decide) | with_reducible exact g_pow (by decide) | with_reducible apply g_isint | with_reducible exact g_sk | with_reducible exact g_rn | with_reducible exact g_bk | with_reducible exact g_ct | with_reducible exact g_gn0 | with_reducible apply g_gns | with_reducible exact g_ap0 | with_reducible apply g_apS | with_reducible apply g_op | with_reducible apply g_un | with_reducible apply g_ac | with_reducible apply g_call | with_reducible apply g_calld | with_reducible apply g_bf | with_reducible apply g_sq | with_reducible apply g_kn | with_reducible exact g_kr | with_reducible exact g_kb | with_reducible exact g_kc | with_reducible apply g_as | with_reducible apply g_pr | with_reducible apply g_au rfl | with_reducible apply g_rt | with_reducible apply g_ex | with_reducible apply g_if | with_reducible apply g_tv | with_reducible apply g_tan | with_reducible apply g_tor | with_reducible apply g_tnt | with_reducible apply g_ean | with_reducible apply g_eor | with_reducible apply g_ent | with_reducible apply g_eif | with_reducible apply g_iftt | with_reducible apply g_iffn | with_reducible apply g_ifff | with_reducible apply g_iftn | with_reducible refine g_ift (by first | assumption | omega | decide) ?_ | with_reducible refine g_iff (by first | assumption | omega | decide) ?_ | with_reducible refine g_ifnt (by first | assumption | omega | decide) ?_ | with_reducible refine g_ifnf (by first | assumption | omega | decide) ?_ | with_reducible exact rfl | with_reducible exact g_eqs | with_reducible exact g_nes | with_reducible exact g_neni | with_reducible exact g_nein | with_reducible exact g_nenn | with_reducible exact g_isn | with_reducible exact g_isi | with_reducible exact g_nsn | with_reducible exact g_nsi | with_reducible exact g_max | with_reducible exact g_max3 | with_reducible exact g_min | with_reducible exact g_intb | with_reducible apply g_gt2 | with_reducible apply g_gt3 | with_reducible apply g_tup | with_reducible apply g_lst | with_reducible exact lenOk rfl | with_reducible exact g_on | with_reducible apply g_os | with_reducible apply g_sl | with_reducible apply g_bkm | with_reducible exact g_okS )
    unfold iEn; rw [q]; simp only [Z.R.bind_ok, isL_of (get_app (t := [O.lst []]) (kh2 _ _ gb))]) F
  rw [List.take_of_length_le (by omega)] at g4
  have ib : opIx (.tup [.ref a, .ref b]) (.int 1) h = .ok (.ref b) h := g_ixt (by decide) rfl
  refine ⟨h4, h2.length, ?_, kh2.trans k4, l2, g4⟩
  refine run_rt rfl (by simp only [List.map_cons, List.map_nil, List.length_cons, List.length_nil, List.cons_append, List.nil_append, Nat.reduceAdd, Nat.reduceSub, List.replicate_succ, List.replicate_zero]; exact rfl) ?_
  (repeat' first | with_reducible exact ib | with_reducible exact cP | with_reducible exact cM | with_reducible exact F | with_reducible exact g_v rfl | with_reducible exact g_c | with_reducible exact g_an | with_reducible exact g_add | with_reducible exact g_sub | with_reducible exact g_iadd | with_reducible exact g_lt | with_reducible exact g_le | with_reducible exact g_gt | with_reducible exact g_ge | with_reducible exact g_eq | with_reducible exact g_ne | with_reducible exact g_neg | with_reducible exact g_mul (by first | assumption | omega | decide) | with_reducible exact g_div (by first | assumption | omega | decide) (by first | assumption | omega | decide) | with_reducible exact g_mod (by first | assumption | omega | decide) | with_reducible exact g_pow (by decide) | with_reducible apply g_isint | with_reducible exact g_sk | with_reducible exact g_rn | with_reducible exact g_bk | with_reducible exact g_ct | with_reducible exact g_gn0 | with_reducible apply g_gns | with_reducible exact g_ap0 | with_reducible apply g_apS | with_reducible apply g_op | with_reducible apply g_un | with_reducible apply g_ac | with_reducible apply g_call | with_reducible apply g_calld | with_reducible apply g_bf | with_reducible apply g_sq | with_reducible apply g_kn | with_reducible exact g_kr | with_reducible exact g_kb | with_reducible exact g_kc | with_reducible apply g_as | with_reducible apply g_pr | with_reducible apply g_au rfl | with_reducible apply g_rt | with_reducible apply g_ex | with_reducible apply g_if | with_reducible apply g_tv | with_reducible apply g_tan | with_reducible apply g_tor | with_reducible apply g_tnt | with_reducible apply g_ean | with_reducible apply g_eor | with_reducible apply g_ent | with_reducible apply g_eif | with_reducible apply g_iftt | with_reducible apply g_iffn | with_reducible apply g_ifff | with_reducible apply g_iftn | with_reducible refine g_ift (by first | assumption | omega | decide) ?_ | with_reducible refine g_iff (by first | assumption | omega | decide) ?_ | with_reducible refine g_ifnt (by first | assumption | omega | decide) ?_ | with_reducible refine g_ifnf (by first | assumption | omega | decide) ?_ | with_reducible exact rfl | with_reducible exact g_eqs | with_reducible exact g_nes | with_reducible exact g_neni | with_reducible exact g_nein | with_reducible exact g_nenn | with_reducible exact g_isn | with_reducible exact g_isi | with_reducible exact g_nsn | with_reducible exact g_nsi | with_reducible exact g_max | with_reducible exact g_max3 | with_reducible exact g_min | with_reducible exact g_intb | with_reducible apply g_gt2 | with_reducible apply g_gt3 | with_reducible apply g_tup | with_reducible apply g_lst | with_reducible exact lenOk rfl | with_reducible exact g_on | with_reducible apply g_os | with_reducible apply g_sl | with_reducible apply g_bkm | with_reducible exact g_okS )
/-! heights at which parts leave the limbs -/
def pairD (p : Int × Int) : D := .tup [.int p.1, .int p.2]
def upto (n : Nat) : List Int := (List.range n).map fun i : Nat => (i : Int)
/-- the list of pairs, rising by limbs -/
def mkE (n : Nat) (g : Int → Option Int) : List (Int × Int) := (upto n).filterMap fun l => (g l).map fun h => (l, h)
def ownE (L : List (Str × Int)) : Fm → Int → Option Int
  | .raise l t _ => fun z => if z = ((ixN_ (lnm L) l : Nat) : Int) then some t else none
  | _ => fun _ => none
abbrev EF := Int → Option Int
def eAt (E : List EF) (k : Nat) : EF := E.getD k (fun _ => none)
/-- what a part leaves: the last part named that moves the limb, else its own -/
def en1 (L : List (Str × Int)) (P : List (Str × Fm)) (E : List EF) (f : Fm) : EF := fun z => ((namedIx P f).reverse.findSome? fun j => eAt E j z).or (ownE L f z)
structure EnOk (L : List (Str × Int)) (P : List (Str × Fm)) (n : Nat) (E : List EF) : Prop where
  len : E.length = n
  all : ∀ k x, k < n → P[k]? = some x → eAt E k = en1 L P E x.2
  bd : ∀ k z, eAt E k z ≠ none → 0 ≤ z ∧ z < L.length
theorem mem_upto {n : Nat} {z : Int} : z ∈ upto n ↔ 0 ≤ z ∧ z < n := by
  unfold upto
  rw [List.mem_map]
  constructor
  · rintro ⟨i, hi, rfl⟩
    have := List.mem_range.mp hi
    omega
  · rintro ⟨h0, h1⟩
    exact ⟨z.toNat, List.mem_range.mpr (by omega), by omega⟩
theorem upto_up (n : Nat) : (upto n).Pairwise (· < ·) := by
  unfold upto
  rw [List.pairwise_map]
  exact (List.pairwise_lt_range (n := n)).imp fun h => by omega
theorem find_mkE {g : EF} {l : Int} : ∀ xs : List Int, (xs.filterMap fun l => (g l).map fun h => (l, h)).find? (fun p => decide (p.1 = l)) = if l ∈ xs then (g l).map fun h => (l, h) else none
  | [] => rfl
  | x :: xs => by
    have ih := find_mkE (g := g) (l := l) xs
    rw [List.filterMap_cons]
    by_cases e : x = l
    · subst e
      rw [if_pos (List.mem_cons_self ..)]
      cases c : g x with
      | none =>
        simp only [Option.map_none]
        rw [ih]
        split
        · rw [c]; rfl
        · rfl
      | some h =>
        simp only [Option.map_some, List.find?_cons, decide_true]
    · have em : l ∈ x :: xs ↔ l ∈ xs := ⟨fun h => (List.mem_cons.mp h).resolve_left fun z => e z.symm, List.mem_cons_of_mem _⟩
      cases c : g x with
      | none =>
        simp only [Option.map_none]
        rw [ih]
        by_cases m : l ∈ xs
        · rw [if_pos m, if_pos (em.mpr m)]
        · rw [if_neg m, if_neg fun h => m (em.mp h)]
      | some h =>
        simp only [Option.map_some, List.find?_cons, decide_eq_false e]
        rw [ih]
        by_cases m : l ∈ xs
        · rw [if_pos m, if_pos (em.mpr m)]
        · rw [if_neg m, if_neg fun h => m (em.mp h)]
theorem EnOk.snoc {L : List (Str × Int)} {P : List (Str × Fm)} {n : Nat} {E : List EF} (o : BkOk L P) (m : EnOk L P n E) {x : Str × Fm} (q : P[n]? = some x) : EnOk L P (n + 1) (E ++ [en1 L P E x.2]) := by
  have na := fun (k : Nat) (x : Str × Fm) (q : P[k]? = some x) => (named_ahead o q).2.1
  have get : ∀ k, eAt (E ++ [en1 L P E x.2]) k = eAt E k ∨ eAt (E ++ [en1 L P E x.2]) k = en1 L P E x.2 := fun k => by
    unfold eAt
    by_cases hk : k < E.length
    · exact .inl (getD_app hk)
    · by_cases e : k = E.length
      · subst e; exact .inr getD_new
      · left
        rw [List.getD_eq_getElem?_getD, List.getD_eq_getElem?_getD, List.getElem?_eq_none (by simp; omega), List.getElem?_eq_none (by omega)]
  have lt : ∀ k, k < n → eAt (E ++ [en1 L P E x.2]) k = eAt E k := fun k hk => getD_app (by rw [m.len]; exact hk)
  have same : ∀ (f : Fm), (∀ j ∈ namedIx P f, j < n) → en1 L P (E ++ [en1 L P E x.2]) f = en1 L P E f := fun f hj => by
    funext z
    unfold en1
    congr 1
    have : ∀ js : List Nat, (∀ j ∈ js, j < n) → (js.findSome? fun j => eAt (E ++ [en1 L P E x.2]) j z) = js.findSome? fun j => eAt E j z := by
      intro js
      induction js with
      | nil => exact fun _ => rfl
      | cons j js ih => intro h; rw [List.findSome?_cons, List.findSome?_cons, lt j (h j (List.mem_cons_self ..)), ih fun i hi => h i (List.mem_cons_of_mem _ hi)]
    exact this _ fun j hm => hj j (List.mem_reverse.mp hm)
  refine ⟨by rw [List.length_append, m.len]; rfl, fun k y hk hq => ?_, fun k z hz => ?_⟩
  · rw [same _ fun j hj => by have := (na k y hq j hj).1; omega]
    by_cases e : k < n
    · rw [lt k e]; exact m.all k y e hq
    · have : k = n := by omega
      subst this
      rw [q] at hq
      cases hq
      have := m.len
      unfold eAt
      rw [show k = E.length by omega]
      exact getD_new
  · rcases get k with e | e <;> rw [e] at hz
    · exact m.bd k z hz
    · unfold en1 at hz
      by_cases c : (((namedIx P x.2).reverse.findSome? fun j => eAt E j z)) = none
      · rw [c] at hz
        have fr := o.fm n x q
        have hz : ownE L x.2 z ≠ none := hz
        obtain ⟨nm, f⟩ := x
        cases f with
        | raise l t b =>
          have hz : (if z = ((ixN_ (lnm L) l : Nat) : Int) then some t else none) ≠ none := hz
          have hl := ixN_lt fr.1
          unfold lnm at hl
          rw [List.length_map] at hl
          split at hz
          · rename_i e
            unfold lnm at e
            omega
          · exact absurd rfl hz
        | hold b => exact absurd rfl hz
        | ring w b => exact absurd rfl hz
        | row ns => exact absurd rfl hz
        | side ns => exact absurd rfl hz
        | again t n => exact absurd rfl hz
      · obtain ⟨v, hv⟩ := Option.ne_none_iff_exists'.mp c
        obtain ⟨j, _, hj⟩ := List.exists_of_findSome?_eq_some hv
        exact m.bd j z (by rw [hj]; simp)
/-! the dict of a part: whole numbers as keys -/
def dicI (ps : List (Int × Int)) : List (Key × D) := ps.map fun p => (.inl p.1, .int p.2)
def putP (ps : List (Int × Int)) (k v : Int) : List (Int × Int) := if (ps.any fun p => decide (p.1 = k)) = true then ps.map (fun p => if p.1 = k then (p.1, v) else p) else ps ++ [(k, v)]
def getP (ps : List (Int × Int)) (k : Int) : Option Int := (ps.find? fun p => decide (p.1 = k)).map (·.2)
theorem inl_iff {a b : Int} : ((.inl a : Key) = .inl b) ↔ a = b := ⟨fun e => by cases e; rfl, fun e => by rw [e]⟩
theorem dicI_put (ps : List (Int × Int)) (k v : Int) : putKD (dicI ps) (.inl k) (.int v) = dicI (putP ps k v) := by
  have ea : ((dicI ps).any fun kv => decide (kv.1 = (.inl k : Key))) = ps.any fun p => decide (p.1 = k) := by
    unfold dicI
    rw [List.any_map]
    congr 1
    funext p
    simp only [Function.comp, inl_iff]
  unfold putKD putP
  rw [ea]
  split
  · unfold dicI
    rw [List.map_map, List.map_map]
    refine List.map_congr_left fun p _ => ?_
    simp only [Function.comp, inl_iff]
    split <;> rfl
  · unfold dicI
    rw [List.map_append]; rfl
theorem dicI_val (ps : List (Int × Int)) (k : Int) : valD (dicI ps) (.inl k) = (getP ps k).map D.int := by
  unfold valD getP dicI
  rw [List.find?_map, Option.map_map, Option.map_map]
  have e : ((fun kv : Key × D => decide (kv.1 = (.inl k : Key))) ∘ fun p : Int × Int => ((.inl p.1 : Key), D.int p.2)) = fun p => decide (p.1 = k) := by
    funext p
    simp only [Function.comp, inl_iff]
  rw [e]
  rfl
theorem getP_put (ps : List (Int × Int)) (k v z : Int) : getP (putP ps k v) z = if z = k then some v else getP ps z := by
  unfold putP
  split
  · rename_i h
    have key : ∀ ps : List (Int × Int), (ps.any fun p => decide (p.1 = k)) = true ∨ z ≠ k → getP (ps.map fun p => if p.1 = k then (p.1, v) else p) z = if z = k then some v else getP ps z := by
      intro ps
      induction ps with
      | nil =>
        intro h
        rcases h with h | h
        · simp at h
        · rw [if_neg h]; rfl
      | cons p ps ih =>
        intro h
        by_cases e : p.1 = k
        · by_cases ez : z = k
          · rw [if_pos ez]
            unfold getP
            simp only [List.map_cons, if_pos e, List.find?_cons, decide_eq_true (e.trans ez.symm), Option.map_some]
          · have ne : ¬ p.1 = z := fun q => ez (q.symm.trans e)
            have ih := ih (.inr ez)
            unfold getP at ih ⊢
            simp only [List.map_cons, if_pos e, List.find?_cons, decide_eq_false ne]
            exact ih
        · have ih := ih (by
            rcases h with h | h
            · rw [List.any_cons, decide_eq_false e, Bool.false_or] at h; exact .inl h
            · exact .inr h)
          by_cases ez : p.1 = z
          · have nz : ¬ z = k := fun q => e (ez.trans q)
            unfold getP
            simp only [List.map_cons, if_neg e, List.find?_cons, decide_eq_true ez, Option.map_some, if_neg nz]
          · unfold getP at ih ⊢
            simp only [List.map_cons, if_neg e, List.find?_cons, decide_eq_false ez]
            exact ih
    exact key ps (.inl h)
  · rename_i h
    unfold getP
    rw [List.find?_append]
    by_cases ez : z = k
    · subst ez
      have : ps.find? (fun p => decide (p.1 = z)) = none := by
        rw [List.find?_eq_none]
        intro p hp e
        exact h (List.any_eq_true.mpr ⟨p, hp, e⟩)
      rw [this, if_pos rfl]
      simp
    · rw [if_neg ez]
      have : [(k, v)].find? (fun p => decide (p.1 = z)) = none := by
        rw [List.find?_eq_none]
        intro p hp e
        rw [List.mem_singleton.mp hp] at e
        exact ez (by simpa using e : k = z).symm
      rw [this]
      cases ps.find? (fun p => decide (p.1 = z)) <;> rfl
theorem putP_keys {ps : List (Int × Int)} {k v z : Int} : z ∈ (putP ps k v).map (·.1) ↔ z ∈ ps.map (·.1) ∨ z = k := by
  unfold putP
  split
  · rename_i h
    rw [List.map_map]
    have e : (fun p : Int × Int => p.1) ∘ (fun p => if p.1 = k then (p.1, v) else p) = fun p => p.1 := by
      funext p
      simp only [Function.comp]
      split <;> rfl
    rw [e]
    constructor
    · exact .inl
    · rintro (q | q)
      · exact q
      · obtain ⟨p, hp, e⟩ := List.any_eq_true.mp h
        exact List.mem_map.mpr ⟨p, hp, by rw [q]; exact of_decide_eq_true e⟩
  · rw [List.map_append, List.mem_append]
    simp
theorem putP_nd {ps : List (Int × Int)} {k v : Int} (nd : (ps.map (·.1)).Nodup) : ((putP ps k v).map (·.1)).Nodup := by
  unfold putP
  split
  · rw [List.map_map]
    have e : (fun p : Int × Int => p.1) ∘ (fun p => if p.1 = k then (p.1, v) else p) = fun p => p.1 := by
      funext p
      simp only [Function.comp]
      split <;> rfl
    rw [e]; exact nd
  · rename_i h
    rw [List.map_append, List.nodup_append]
    refine ⟨nd, by simp, fun a ha b hb e => ?_⟩
    obtain ⟨p, hp, rfl⟩ := List.mem_map.mp ha
    rw [List.mem_singleton.mp hb] at e
    exact h (List.any_eq_true.mpr ⟨p, hp, decide_eq_true e⟩)
/-- a dict that stands for g -/
structure DicG (n : Nat) (ps : List (Int × Int)) (g : EF) : Prop where
  nd : (ps.map (·.1)).Nodup
  val : ∀ z, getP ps z = g z
  key : ∀ z, z ∈ ps.map (·.1) ↔ g z ≠ none
  bd : ∀ z, g z ≠ none → 0 ≤ z ∧ z < n
theorem DicG.nil {n : Nat} : DicG n [] (fun _ => none) := ⟨List.nodup_nil, fun z => rfl, fun z => by simp, fun z h => absurd rfl h⟩
theorem DicG.put {n : Nat} {ps : List (Int × Int)} {g : EF} (d : DicG n ps g) {k v : Int} (hk : 0 ≤ k ∧ k < n) : DicG n (putP ps k v) (fun z => if z = k then some v else g z) := by
  refine ⟨putP_nd d.nd, fun z => by rw [getP_put, d.val], fun z => ?_, fun z h => ?_⟩
  · rw [putP_keys, d.key]
    by_cases e : z = k
    · simp [e]
    · simp [e]
  · by_cases e : z = k
    · rw [e]; exact hk
    · simp only [if_neg e] at h; exact d.bd z h
theorem DicG.len {n : Nat} {ps : List (Int × Int)} {g : EF} (d : DicG n ps g) : ps.length ≤ n := by
  have := rise_len (srtI (ps.map (·.1))) 0 n (srt_lt d.nd) fun z hz => d.bd z ((d.key z).mp (srt_mem.mp hz))
  have e : (srtI (ps.map (·.1))).length = (ps.map (·.1)).length := (List.mergeSort_perm _ _).length_eq
  rw [List.length_map] at e
  omega
/-- the keys in order -/
theorem DicG.keys {n : Nat} {ps : List (Int × Int)} {g : EF} (d : DicG n ps g) : srtI (ps.map (·.1)) = (upto n).filter fun l => (g l).isSome := by
  have up : ((upto n).filter fun l => (g l).isSome).Pairwise (· < ·) := (upto_up n).filter _
  refine (srt_eq d.nd (rise_nd up) fun z => ?_).trans (srt_id up)
  rw [d.key, List.mem_filter, mem_upto, Option.isSome_iff_ne_none]
  exact ⟨fun h => ⟨d.bd z h, h⟩, fun h => h.2⟩
theorem mkE_eq {n : Nat} {g : EF} : mkE n g = ((upto n).filter fun l => (g l).isSome).map fun l => (l, (g l).getD 0) := by
  unfold mkE
  induction upto n with
  | nil => rfl
  | cons x xs ih =>
    rw [List.filterMap_cons, List.filter_cons]
    cases c : g x with
    | none => simpa using ih
    | some h => simp [ih, c]
theorem g_stI {h : HP} {i : Nat} {ps : List (Int × Int)} {k v : Int} (l : h[i]? = some (.dic (dicI ps))) (m : ps.length < 1000) : stD (.ref i) (.int k) (.int v) h = .ok () (h.set i (.dic (dicI (putP ps k v)))) := by
  have m2 : (dicI ps).length < sizeLine := by unfold dicI; rw [List.length_map, sizeLine_eq]; omega
  simp only [stD, l, keyD, if_pos m2, dicI_put]
theorem g_ixI {h : HP} {i : Nat} {ps : List (Int × Int)} {k v : Int} (l : h[i]? = some (.dic (dicI ps))) (m : getP ps k = some v) : opIx (.ref i) (.int k) h = .ok (.int v) h := by
  have e := dicI_val ps k
  rw [m] at e
  have e : valD (dicI ps) (.inl k) = some (.int v) := e
  simp only [opIx, l, keyD, e]
theorem g_srtD {h : HP} {i : Nat} {ps : List (Int × Int)} (l : h[i]? = some (.dic (dicI ps))) (m : ps.length < 64) : bSr2 [.ref i] h = .ok (.ref h.length) (h ++ [.lst ((srtI (ps.map (·.1))).map D.int)]) := by
  have e : seqO ((dicI ps).map fun kv => intK kv.1) = some (ps.map (·.1)) := by
    unfold dicI
    rw [List.map_map]
    exact seqO_map ps _ (fun p => p.1) fun p _ => rfl
  have m2 : (ps.map (·.1)).length < 64 := by rw [List.length_map]; exact m
  simp only [bSr2, l, e, if_pos m2]
/-- all pairs put into the dict -/
theorem DicG.puts {n : Nat} {g g2 : EF} (hb : ∀ z, g2 z ≠ none → 0 ≤ z ∧ z < n) {xs : List Int} {ps : List (Int × Int)} (d : DicG n ps (fun z => if z ∈ xs then (g2 z).or (g z) else g z)) {x : Int} {v : Int} (hx : g2 x = some v) :
    DicG n (putP ps x v) (fun z => if z ∈ xs ++ [x] then (g2 z).or (g z) else g z) := by
  have := d.put (k := x) (v := v) (hb x (by rw [hx]; simp))
  have e : (fun z => if z = x then some v else if z ∈ xs then (g2 z).or (g z) else g z) = fun z => if z ∈ xs ++ [x] then (g2 z).or (g z) else g z := by
    funext z
    by_cases c : z = x
    · subst c
      rw [if_pos rfl, if_pos (by simp), hx]; rfl
    · rw [if_neg c]
      have : z ∈ xs ++ [x] ↔ z ∈ xs := by simp [c]
      by_cases m : z ∈ xs
      · rw [if_pos m, if_pos (this.mpr m)]
      · rw [if_neg m, if_neg fun h => m (this.mp h)]
  rw [← e]; exact this
/-! ends -/
def eL (n : Nat) (g : EF) : List D := (mkE n g).map pairD
theorem eL_getD {n : Nat} {E : List EF} {j : Nat} (hj : j < E.length) : (E.map (eL n)).getD j [] = eL n (eAt E j) := by
  unfold eAt
  rw [List.getD_eq_getElem?_getD, List.getD_eq_getElem?_getD, List.getElem?_map, List.getElem?_eq_getElem hj]; rfl
theorem mkE_len {n : Nat} {g : EF} : (mkE n g).length ≤ n := by
  have h := List.length_filterMap_le (fun l => (g l).map fun h => (l, h)) (upto n)
  have e : (upto n).length = n := by unfold upto; rw [List.length_map, List.length_range]
  unfold mkE
  omega
theorem mkE_at {n : Nat} {g : EF} {i : Nat} {p : Int × Int} (q : (mkE n g)[i]? = some p) : g p.1 = some p.2 := by
  have := List.mem_of_getElem? q
  unfold mkE at this
  obtain ⟨l, _, e⟩ := List.mem_filterMap.mp this
  obtain ⟨h, e1, e2⟩ := Option.map_eq_some_iff.mp e
  subst e2
  exact e1
theorem mkE_keys {n : Nat} {g : EF} (hb : ∀ z, g z ≠ none → 0 ≤ z ∧ z < n) (z : Int) : z ∈ (mkE n g).map (·.1) ↔ g z ≠ none := by
  unfold mkE
  rw [List.mem_map]
  constructor
  · rintro ⟨p, hp, rfl⟩
    obtain ⟨l, _, e⟩ := List.mem_filterMap.mp hp
    obtain ⟨h, e1, e2⟩ := Option.map_eq_some_iff.mp e
    subst e2
    show g l ≠ none
    rw [e1]; simp
  · intro h
    obtain ⟨v, hv⟩ := Option.ne_none_iff_exists'.mp h
    exact ⟨(z, v), List.mem_filterMap.mpr ⟨z, mem_upto.mpr (hb z h), by rw [hv]; rfl⟩, rfl⟩
theorem ends_run {h : HP} {C : Ctx} {L : List (Str × Int)} {P : List (Str × Fm)} (o : BkOk L P) (fu : 1000 < C.fuel) {a b : Nat} (ga : h[a]? = some (.lst (L.map limbD))) (gb : h[b]? = some (.lst (P.map partD)))
    (c61L : ∀ h : HP, h[a]? = some (.lst (L.map limbD)) → C.call 61 [.ref a] h = .ok (.ref h.length) (h ++ [.dic (numD 0 (lnm L))]))
    (c61P : ∀ h : HP, h[b]? = some (.lst (P.map partD)) → C.call 61 [.ref b] h = .ok (.ref h.length) (h ++ [.dic (numD 0 (pnm P))]))
    (c62 : ∀ (h : HP) (f : Fm) (d : Nat), (∀ n ∈ f.pns, n ∈ pnm P) → f.pns.length ≤ 8 → h[d]? = some (.dic (numD 0 (pnm P))) → C.call 62 [f.d, .ref d] h = .ok (.ref h.length) (h ++ [.lst (natD (namedIx P f))])) :
    ∃ h' t refs E, runFn C f_ends [.tup [.ref a, .ref b]] h = .ok (.ref t) h' ∧ Kp h h' ∧ h.length ≤ t ∧ h'[t]? = some (.lst (refs.map D.ref)) ∧ TL h.length h' refs (E.map (eL L.length)) ∧ EnOk L P P.length E ∧ t ∉ refs := by
  obtain ⟨h1, hh1⟩ : ∃ h1, h1 = h ++ [O.dic (numD 0 (lnm L))] := ⟨_, rfl⟩
  have k1 : Kp h h1 := by rw [hh1]; exact Kp.app
  have n1 : h1.length = h.length + 1 := by rw [hh1]; simp
  have d1 : h1[h.length]? = some (.dic (numD 0 (lnm L))) := by rw [hh1]; exact get_new
  obtain ⟨h2, hh2⟩ : ∃ h2, h2 = h1 ++ [O.dic (numD 0 (pnm P))] := ⟨_, rfl⟩
  have k2 : Kp h1 h2 := by rw [hh2]; exact Kp.app
  have n2 : h2.length = h1.length + 1 := by rw [hh2]; simp
  have d2 : h2[h1.length]? = some (.dic (numD 0 (pnm P))) := by rw [hh2]; exact get_new
  have cL := c61L h ga
  have cP := c61P h1 (k1 _ _ gb)
  rw [← hh1] at cL
  rw [← hh2] at cP
  have op := o.p1
  have ol := o.l1
  obtain ⟨e2, h4, F, x4, x5, x6, x7, x8, x9, refs, E, rfl, k4, gt, tl, en⟩ := for_all (it := itL b) (g := gT [4, 5]) (b := b_ends_3) (C := C) partD P
    (fun j e h' => ∃ x4 x5 x6 x7 x8 x9 refs E, e = [some (.tup [.ref a, .ref b]), some (.ref h.length), some (.ref h1.length), some (.ref h2.length), x4, x5, x6, x7, x8, x9] ∧ Kp h2 h' ∧ h'[h2.length]? = some (.lst (refs.map D.ref)) ∧ TL (h2.length + 1) h' refs (E.map (eL L.length)) ∧ EnOk L P j E)
    (fun j x e h' q ⟨x4, x5, x6, x7, x8, x9, refs, E, e1, k, _⟩ => itL_at (k _ _ (k2 _ _ (k1 _ _ gb))) q) (fun e h' ⟨x4, x5, x6, x7, x8, x9, refs, E, e1, k, _⟩ => itL_end (k _ _ (k2 _ _ (k1 _ _ gb))))
    (fun j x e h' q ⟨x4, x5, x6, x7, x8, x9, refs, E, e1, k, gt, tl, en⟩ => by
      subst e1
      have jl := (List.getElem?_eq_some_iff.mp q).1
      obtain ⟨na1, na2, na3⟩ := named_ahead o q
      have fr := o.fm j x q
      obtain ⟨n, f⟩ := x
      dsimp only at na1 na2 na3 fr
      have pl : f.pns.length ≤ 8 := by unfold namedIx at na3; rw [List.length_map] at na3; exact na3
      obtain ⟨m, hm⟩ : ∃ m, m = h'.length := ⟨_, rfl⟩
      have kl := (List.getElem?_eq_some_iff.mp gt).1
      -- left = {}; left[..] = ..
      obtain ⟨ps0, h5, hh5, dg0, S1⟩ : ∃ ps0 h5, h5 = h' ++ [O.dic (dicI ps0)] ∧ DicG L.length ps0 (ownE L f) ∧ ∀ y4 y6 y7 y8 y9, (sSq (sAs (gN 6) eDiK) (sIf (tV (eOp opEq (eOp opIx (eV 5) (eC (.int 0))) (eC (.str "raise")))) (sSt stD (eV 6) (eOp opIx (eV 1) (eOp opIx (eV 5) (eC (.int 1)))) (eOp opIx (eV 5) (eC (.int 2)))) sSk)) C [some (.tup [.ref a, .ref b]), some (.ref h.length), some (.ref h1.length), some (.ref h2.length), y4, some f.d, y6, y7, y8, y9] h' =
          .ok (.nx [some (.tup [.ref a, .ref b]), some (.ref h.length), some (.ref h1.length), some (.ref h2.length), y4, some f.d, some (.ref m), y7, y8, y9]) h5 := by
        have it0 : ∀ h : HP, opIx f.d (.int 0) h = .ok (.str f.tag) h := fun h => ix_tag
        have dk : ∀ (e : Ev) (h : HP), eDiK C e h = .ok (.ref h.length) (h ++ [.dic []]) := fun e h => rfl
        by_cases ht : f.tag = "raise"
        · obtain ⟨l, t, bt, rfl⟩ : ∃ l t bt, f = .raise l t bt := by
            cases f with
            | raise l t bt => exact ⟨l, t, bt, rfl⟩
            | hold b => exact absurd ht (by simp only [Fm.tag]; decide)
            | ring w b => exact absurd ht (by simp only [Fm.tag]; decide)
            | row ns => exact absurd ht (by simp only [Fm.tag]; decide)
            | side ns => exact absurd ht (by simp only [Fm.tag]; decide)
            | again t n => exact absurd ht (by simp only [Fm.tag]; decide)
          have hl := ixN_lt fr.1
          unfold lnm at hl
          rw [List.length_map] at hl
          have hl : ixN_ (lnm L) l < L.length := hl
          refine ⟨putP [] ((ixN_ (lnm L) l : Nat) : Int) t, _, rfl, DicG.nil.put (by omega), fun y4 y6 y7 y8 y9 => ?_⟩
          have ix1 : ∀ h : HP, opIx (Fm.raise l t bt).d (.int 1) h = .ok (.str l) h := fun h => rfl
          have ix2 : ∀ h : HP, opIx (Fm.raise l t bt).d (.int 2) h = .ok (.int t) h := fun h => rfl
          have it0 : ∀ h : HP, opIx (Fm.raise l t bt).d (.int 0) h = .ok (.str "raise") h := it0
          have dl := g_ixNum (h := h' ++ [.dic []]) (get_app (k _ _ (k2 _ _ d1))) fr.1
          have st := g_stI (h := h' ++ [.dic []]) (i := h'.length) (ps := []) (k := ((ixN_ (lnm L) l : Nat) : Int)) (v := t) get_new (by decide)
          rw [set_new] at st
          have er := fun h => g_eqsr (p := ("raise" : Str)) (h := h)
          have ST : ∀ e : Ev, e[1]? = some (some (.ref h.length)) → e[5]? = some (some (Fm.raise l t bt).d) → e[6]? = some (some (.ref h'.length)) → sSt stD (eV 6) (eOp opIx (eV 1) (eOp opIx (eV 5) (eC (.int 1)))) (eOp opIx (eV 5) (eC (.int 2))) C e (h' ++ [.dic []]) = .ok (.nx e) (h' ++ [.dic (dicI (putP [] ((ixN_ (lnm L) l : Nat) : Int) t))]) := fun e q1 q2 q3 =>
            g_st (g_op (g_v q2) g_c (ix2 _)) (g_v q3) (g_op (g_v q1) (g_op (g_v q2) g_c (ix1 _)) dl) st
          rw [hm]
          (repeat' first | with_reducible exact dk _ _ | with_reducible exact it0 _ | with_reducible exact er _ | with_reducible exact ST _ rfl rfl rfl | with_reducible exact g_v rfl | with_reducible exact g_c | with_reducible exact g_an | with_reducible exact g_add | with_reducible exact g_sub | with_reducible exact g_iadd | with_reducible exact g_lt | with_reducible exact g_le | with_reducible exact g_gt | with_reducible exact g_ge | with_reducible exact g_eq | with_reducible exact g_ne | with_reducible exact g_neg | with_reducible exact g_mul (by first | assumption | omega | decide) | with_reducible exact g_div (by first | assumption | omega | decide) (by first | assumption | omega | decide) | with_reducible exact g_mod (by first | assumption | omega | decide) | with_reducible exact g_pow (by decide) | with_reducible apply g_isint | with_reducible exact g_sk | with_reducible exact g_rn | with_reducible exact g_bk | with_reducible exact g_ct | with_reducible exact g_gn0 | with_reducible apply g_gns | with_reducible exact g_ap0 | with_reducible apply g_apS | with_reducible apply g_op | with_reducible apply g_un | with_reducible apply g_ac | with_reducible apply g_call | with_reducible apply g_calld | with_reducible apply g_bf | with_reducible apply g_sq | with_reducible apply g_kn | with_reducible exact g_kr | with_reducible exact g_kb | with_reducible exact g_kc | with_reducible apply g_as | with_reducible apply g_pr | with_reducible apply g_au rfl | with_reducible apply g_rt | with_reducible apply g_ex | with_reducible apply g_if | with_reducible apply g_tv | with_reducible apply g_tan | with_reducible apply g_tor | with_reducible apply g_tnt | with_reducible apply g_ean | with_reducible apply g_eor | with_reducible apply g_ent | with_reducible apply g_eif | with_reducible apply g_iftt | with_reducible apply g_iffn | with_reducible apply g_ifff | with_reducible apply g_iftn | with_reducible refine g_ift (by first | assumption | omega | decide) ?_ | with_reducible refine g_iff (by first | assumption | omega | decide) ?_ | with_reducible refine g_ifnt (by first | assumption | omega | decide) ?_ | with_reducible refine g_ifnf (by first | assumption | omega | decide) ?_ | with_reducible exact rfl | with_reducible exact g_eqs | with_reducible exact g_nes | with_reducible exact g_neni | with_reducible exact g_nein | with_reducible exact g_nenn | with_reducible exact g_isn | with_reducible exact g_isi | with_reducible exact g_nsn | with_reducible exact g_nsi | with_reducible exact g_max | with_reducible exact g_max3 | with_reducible exact g_min | with_reducible exact g_intb | with_reducible apply g_gt2 | with_reducible apply g_gt3 | with_reducible apply g_tup | with_reducible apply g_lst | with_reducible exact lenOk rfl | with_reducible exact g_on | with_reducible apply g_os | with_reducible apply g_sl | with_reducible apply g_bkm | with_reducible exact g_okS )
        · have en := fun h => g_eqsn (h := h) ht
          have eo : ownE L f = fun _ => none := by
            cases f with
            | raise l t bt => exact absurd rfl ht
            | _ => rfl
          refine ⟨[], _, rfl, by rw [eo]; exact DicG.nil, fun y4 y6 y7 y8 y9 => ?_⟩
          rw [hm]
          show _ = R.ok (FL.nx _) (h' ++ [O.dic []])
          (repeat' first | with_reducible exact dk _ _ | with_reducible exact it0 _ | with_reducible exact en _ | with_reducible exact g_v rfl | with_reducible exact g_c | with_reducible exact g_an | with_reducible exact g_add | with_reducible exact g_sub | with_reducible exact g_iadd | with_reducible exact g_lt | with_reducible exact g_le | with_reducible exact g_gt | with_reducible exact g_ge | with_reducible exact g_eq | with_reducible exact g_ne | with_reducible exact g_neg | with_reducible exact g_mul (by first | assumption | omega | decide) | with_reducible exact g_div (by first | assumption | omega | decide) (by first | assumption | omega | decide) | with_reducible exact g_mod (by first | assumption | omega | decide) | with_reducible exact g_pow (by decide) | with_reducible apply g_isint | with_reducible exact g_sk | with_reducible exact g_rn | with_reducible exact g_bk | with_reducible exact g_ct | with_reducible exact g_gn0 | with_reducible apply g_gns | with_reducible exact g_ap0 | with_reducible apply g_apS | with_reducible apply g_op | with_reducible apply g_un | with_reducible apply g_ac | with_reducible apply g_call | with_reducible apply g_calld | with_reducible apply g_bf | with_reducible apply g_sq | with_reducible apply g_kn | with_reducible exact g_kr | with_reducible exact g_kb | with_reducible exact g_kc | with_reducible apply g_as | with_reducible apply g_pr | with_reducible apply g_au rfl | with_reducible apply g_rt | with_reducible apply g_ex | with_reducible apply g_if | with_reducible apply g_tv | with_reducible apply g_tan | with_reducible apply g_tor | with_reducible apply g_tnt | with_reducible apply g_ean | with_reducible apply g_eor | with_reducible apply g_ent | with_reducible apply g_eif | with_reducible apply g_iftt | with_reducible apply g_iffn | with_reducible apply g_ifff | with_reducible apply g_iftn | with_reducible refine g_ift (by first | assumption | omega | decide) ?_ | with_reducible refine g_iff (by first | assumption | omega | decide) ?_ | with_reducible refine g_ifnt (by first | assumption | omega | decide) ?_ | with_reducible refine g_ifnf (by first | assumption | omega | decide) ?_ | with_reducible exact rfl | with_reducible exact g_eqs | with_reducible exact g_nes | with_reducible exact g_neni | with_reducible exact g_nein | with_reducible exact g_nenn | with_reducible exact g_isn | with_reducible exact g_isi | with_reducible exact g_nsn | with_reducible exact g_nsi | with_reducible exact g_max | with_reducible exact g_max3 | with_reducible exact g_min | with_reducible exact g_intb | with_reducible apply g_gt2 | with_reducible apply g_gt3 | with_reducible apply g_tup | with_reducible apply g_lst | with_reducible exact lenOk rfl | with_reducible exact g_on | with_reducible apply g_os | with_reducible apply g_sl | with_reducible apply g_bkm | with_reducible exact g_okS )
      have k5 : Kp h' h5 := by rw [hh5]; exact Kp.app
      have g5 : h5[m]? = some (.dic (dicI ps0)) := by rw [hh5, hm]; exact get_new
      have n5 : h5.length = m + 1 := by rw [hh5, hm]; simp
      have cn := c62 h5 f h1.length na1 pl (k5 _ _ (k _ _ d2))
      obtain ⟨h6, hh6⟩ : ∃ h6, h6 = h5 ++ [O.lst (natD (namedIx P f))] := ⟨_, rfl⟩
      rw [← hh6] at cn
      have k6 : Kp h5 h6 := by rw [hh6]; exact Kp.app
      have g6 : h6[h5.length]? = some (.lst (natD (namedIx P f))) := by rw [hh6]; exact get_new
      obtain ⟨e3, h7, F1, y7, y8, y9, ps, rfl, k7, g7, dg7⟩ := for_all (it := itL h5.length) (g := gN 7) (b := b_ends_2) (C := C) (fun j : Nat => D.int (j : Int)) (namedIx P f)
        (fun i e h'' => ∃ y7 y8 y9 ps, e = [some (.tup [.ref a, .ref b]), some (.ref h.length), some (.ref h1.length), some (.ref h2.length), some (.str n), some f.d, some (.ref m), y7, y8, y9] ∧ (∀ (i : Nat) (o : O), i ≠ m → h6[i]? = some o → h''[i]? = some o) ∧ h''[m]? = some (.dic (dicI ps)) ∧ DicG L.length ps (fun z => (((namedIx P f).take i).reverse.findSome? fun j => eAt E j z).or (ownE L f z)))
        (fun i j' e h'' q' ⟨y7, y8, y9, ps, e1, k', _⟩ => natD_at (k' _ _ (by omega) g6) q')
        (fun e h'' ⟨y7, y8, y9, ps, e1, k', _⟩ => natD_end (k' _ _ (by omega) g6))
        (fun i j' e h'' q' ⟨y7, y8, y9, ps, e1, k', g', dg⟩ => by
          subst e1
          have hj' := (na2 j' (List.mem_of_getElem? q')).1
          have hE : j' < E.length := by rw [en.len]; exact hj'
          have tl' : TL (h2.length + 1) h6 refs (E.map (eL L.length)) := (tl.kp k5).kp k6
          obtain ⟨r, i1, i2, i3⟩ := tl'.get (k6 _ _ (k5 _ _ gt)) (j := j') (by rw [List.length_map]; exact hE)
          have rlt : r < m := by rw [hm]; exact (List.getElem?_eq_some_iff.mp (tl.each j' r i3).1).1
          have gt' := k' _ _ (show h2.length ≠ m by omega) (k6 _ _ (k5 _ _ gt))
          have i1' : opIx (.ref h2.length) (.int (j' : Int)) h'' = .ok (.ref r) h'' := g_ixl gt' (by omega) (by rw [Int.toNat_natCast, List.getElem?_map, i3]; rfl)
          have i2' := k' _ _ (show r ≠ m by omega) i2
          rw [eL_getD hE] at i2'
          have i2' : h''[r]? = some (.lst ((mkE L.length (eAt E j')).map pairD)) := i2'
          have bdj := en.bd j'
          obtain ⟨e4, h8, F2, z8, z9, qs, rfl, k8, g8, dg8⟩ := for_all (it := itL r) (g := gT [8, 9]) (b := b_ends_1) (C := C) pairD (mkE L.length (eAt E j'))
            (fun i2 e h3 => ∃ z8 z9 qs, e = [some (.tup [.ref a, .ref b]), some (.ref h.length), some (.ref h1.length), some (.ref h2.length), some (.str n), some f.d, some (.ref m), some (.int (j' : Int)), z8, z9] ∧ (∀ (i : Nat) (o : O), i ≠ m → h''[i]? = some o → h3[i]? = some o) ∧ h3[m]? = some (.dic (dicI qs)) ∧
              DicG L.length qs (fun z => if z ∈ ((mkE L.length (eAt E j')).take i2).map (·.1) then (eAt E j' z).or ((((namedIx P f).take i).reverse.findSome? fun j => eAt E j z).or (ownE L f z)) else (((namedIx P f).take i).reverse.findSome? fun j => eAt E j z).or (ownE L f z)))
            (fun i2 p e h3 q2 ⟨z8, z9, qs, e1, kk, _⟩ => itL_at (kk _ _ (by omega) i2') q2)
            (fun e h3 ⟨z8, z9, qs, e1, kk, _⟩ => itL_end (kk _ _ (by omega) i2'))
            (fun i2 p e h3 q2 ⟨z8, z9, qs, e1, kk, gq, dq⟩ => by
              subst e1
              have hp := mkE_at q2
              have ql := dq.len
              have st := g_stI (k := p.1) (v := p.2) gq (by omega)
              have dq2 := dq.puts (n := L.length) (g2 := eAt E j') bdj hp
              unfold b_ends_1
              apply turn_of
              · show gT [8, 9] _ (.tup [.int p.1, .int p.2]) = _
                (repeat' first | with_reducible exact g_v rfl | with_reducible exact g_c | with_reducible exact g_an | with_reducible exact g_add | with_reducible exact g_sub | with_reducible exact g_iadd | with_reducible exact g_lt | with_reducible exact g_le | with_reducible exact g_gt | with_reducible exact g_ge | with_reducible exact g_eq | with_reducible exact g_ne | with_reducible exact g_neg | with_reducible exact g_mul (by first | assumption | omega | decide) | with_reducible exact g_div (by first | assumption | omega | decide) (by first | assumption | omega | decide) | with_reducible exact g_mod (by first | assumption | omega | decide) | with_reducible exact g_pow (by decide) | with_reducible apply g_isint | with_reducible exact g_sk | with_reducible exact g_rn | with_reducible exact g_bk | with_reducible exact g_ct | with_reducible exact g_gn0 | with_reducible apply g_gns | with_reducible exact g_ap0 | with_reducible apply g_apS | with_reducible apply g_op | with_reducible apply g_un | with_reducible apply g_ac | with_reducible apply g_call | with_reducible apply g_calld | with_reducible apply g_bf | with_reducible apply g_sq | with_reducible apply g_kn | with_reducible exact g_kr | with_reducible exact g_kb | with_reducible exact g_kc | with_reducible apply g_as | with_reducible apply g_pr | with_reducible apply g_au rfl | with_reducible apply g_rt | with_reducible apply g_ex | with_reducible apply g_if | with_reducible apply g_tv | with_reducible apply g_tan | with_reducible apply g_tor | with_reducible apply g_tnt | with_reducible apply g_ean | with_reducible apply g_eor | with_reducible apply g_ent | with_reducible apply g_eif | with_reducible apply g_iftt | with_reducible apply g_iffn | with_reducible apply g_ifff | with_reducible apply g_iftn | with_reducible refine g_ift (by first | assumption | omega | decide) ?_ | with_reducible refine g_iff (by first | assumption | omega | decide) ?_ | with_reducible refine g_ifnt (by first | assumption | omega | decide) ?_ | with_reducible refine g_ifnf (by first | assumption | omega | decide) ?_ | with_reducible exact rfl | with_reducible exact g_eqs | with_reducible exact g_nes | with_reducible exact g_neni | with_reducible exact g_nein | with_reducible exact g_nenn | with_reducible exact g_isn | with_reducible exact g_isi | with_reducible exact g_nsn | with_reducible exact g_nsi | with_reducible exact g_max | with_reducible exact g_max3 | with_reducible exact g_min | with_reducible exact g_intb | with_reducible apply g_gt2 | with_reducible apply g_gt3 | with_reducible apply g_tup | with_reducible apply g_lst | with_reducible exact lenOk rfl | with_reducible exact g_on | with_reducible apply g_os | with_reducible apply g_sl | with_reducible apply g_bkm | with_reducible exact g_okS )
              apply body_nx
              · exact g_st (g_v rfl) (g_v rfl) (g_v rfl) st
              · refine ⟨_, _, putP qs p.1 p.2, rfl, fun i o hi q => getset hi (kk i o hi q), getset_same gq, ?_⟩
                rw [take_snoc q2, List.map_append]
                exact dq2)
            (e := [some (.tup [.ref a, .ref b]), some (.ref h.length), some (.ref h1.length), some (.ref h2.length), some (.str n), some f.d, some (.ref m), some (.int (j' : Int)), y8, y9]) (h := h'') ⟨y8, y9, ps, rfl, fun i o _ q => q, g', by simpa using dg⟩ (fuel := C.fuel) (by have := mkE_len (n := L.length) (g := eAt E j'); omega)
          rw [List.take_length] at dg8
          have F2 := fo_of (g := gT [8, 9]) (mi := iA (eOp opIx (eV 3) (eV 7))) (e := [some (.tup [.ref a, .ref b]), some (.ref h.length), some (.ref h1.length), some (.ref h2.length), some (.str n), some f.d, some (.ref m), some (.int (j' : Int)), y8, y9]) (h := h'') (h1 := h'') (it := itL r) (by
            have q : (eOp opIx (eV 3) (eV 7)) C [some (.tup [.ref a, .ref b]), some (.ref h.length), some (.ref h1.length), some (.ref h2.length), some (.str n), some f.d, some (.ref m), some (.int (j' : Int)), y8, y9] h'' = .ok (.ref r) h'' := by (repeat' first | with_reducible exact i1' | with_reducible exact g_v rfl | with_reducible exact g_c | with_reducible exact g_an | with_reducible exact g_add | with_reducible exact g_sub | with_reducible exact g_iadd | with_reducible exact g_lt | with_reducible exact g_le | with_reducible exact g_gt | with_reducible exact g_ge | with_reducible exact g_eq | with_reducible exact g_ne | with_reducible exact g_neg | with_reducible exact g_mul (by first | assumption | omega | decide) | with_reducible exact g_div (by first | assumption | omega | decide) (by first | assumption | omega | decide) | with_reducible exact g_mod (by first | assumption | omega | decide) | with_reducible exact g_pow (by decide) | with_reducible apply g_isint | with_reducible exact g_sk | with_reducible exact g_rn | with_reducible exact g_bk | with_reducible exact g_ct | with_reducible exact g_gn0 | with_reducible apply g_gns | with_reducible exact g_ap0 | with_reducible apply g_apS | with_reducible apply g_op | with_reducible apply g_un | with_reducible apply g_ac | with_reducible apply g_call | with_reducible apply g_calld | with_reducible apply g_bf | with_reducible apply g_sq | with_reducible apply g_kn | with_reducible exact g_kr | with_reducible exact g_kb | with_reducible exact g_kc | with_reducible apply g_as | with_reducible apply g_pr | with_reducible apply g_au rfl | with_reducible apply g_rt | with_reducible apply g_ex | with_reducible apply g_if | with_reducible apply g_tv | with_reducible apply g_tan | with_reducible apply g_tor | with_reducible apply g_tnt | with_reducible apply g_ean | with_reducible apply g_eor | with_reducible apply g_ent | with_reducible apply g_eif | with_reducible apply g_iftt | with_reducible apply g_iffn | with_reducible apply g_ifff | with_reducible apply g_iftn | with_reducible refine g_ift (by first | assumption | omega | decide) ?_ | with_reducible refine g_iff (by first | assumption | omega | decide) ?_ | with_reducible refine g_ifnt (by first | assumption | omega | decide) ?_ | with_reducible refine g_ifnf (by first | assumption | omega | decide) ?_ | with_reducible exact rfl | with_reducible exact g_eqs | with_reducible exact g_nes | with_reducible exact g_neni | with_reducible exact g_nein | with_reducible exact g_nenn | with_reducible exact g_isn | with_reducible exact g_isi | with_reducible exact g_nsn | with_reducible exact g_nsi | with_reducible exact g_max | with_reducible exact g_max3 | with_reducible exact g_min | with_reducible exact g_intb | with_reducible apply g_gt2 | with_reducible apply g_gt3 | with_reducible apply g_tup | with_reducible apply g_lst | with_reducible exact lenOk rfl | with_reducible exact g_on | with_reducible apply g_os | with_reducible apply g_sl | with_reducible apply g_bkm | with_reducible exact g_okS )
            unfold iA; rw [q]; simp only [Z.R.bind_ok, isL_of i2']) F2
          unfold b_ends_2
          apply turn_of
          · (repeat' first | with_reducible exact g_v rfl | with_reducible exact g_c | with_reducible exact g_an | with_reducible exact g_add | with_reducible exact g_sub | with_reducible exact g_iadd | with_reducible exact g_lt | with_reducible exact g_le | with_reducible exact g_gt | with_reducible exact g_ge | with_reducible exact g_eq | with_reducible exact g_ne | with_reducible exact g_neg | with_reducible exact g_mul (by first | assumption | omega | decide) | with_reducible exact g_div (by first | assumption | omega | decide) (by first | assumption | omega | decide) | with_reducible exact g_mod (by first | assumption | omega | decide) | with_reducible exact g_pow (by decide) | with_reducible apply g_isint | with_reducible exact g_sk | with_reducible exact g_rn | with_reducible exact g_bk | with_reducible exact g_ct | with_reducible exact g_gn0 | with_reducible apply g_gns | with_reducible exact g_ap0 | with_reducible apply g_apS | with_reducible apply g_op | with_reducible apply g_un | with_reducible apply g_ac | with_reducible apply g_call | with_reducible apply g_calld | with_reducible apply g_bf | with_reducible apply g_sq | with_reducible apply g_kn | with_reducible exact g_kr | with_reducible exact g_kb | with_reducible exact g_kc | with_reducible apply g_as | with_reducible apply g_pr | with_reducible apply g_au rfl | with_reducible apply g_rt | with_reducible apply g_ex | with_reducible apply g_if | with_reducible apply g_tv | with_reducible apply g_tan | with_reducible apply g_tor | with_reducible apply g_tnt | with_reducible apply g_ean | with_reducible apply g_eor | with_reducible apply g_ent | with_reducible apply g_eif | with_reducible apply g_iftt | with_reducible apply g_iffn | with_reducible apply g_ifff | with_reducible apply g_iftn | with_reducible refine g_ift (by first | assumption | omega | decide) ?_ | with_reducible refine g_iff (by first | assumption | omega | decide) ?_ | with_reducible refine g_ifnt (by first | assumption | omega | decide) ?_ | with_reducible refine g_ifnf (by first | assumption | omega | decide) ?_ | with_reducible exact rfl | with_reducible exact g_eqs | with_reducible exact g_nes | with_reducible exact g_neni | with_reducible exact g_nein | with_reducible exact g_nenn | with_reducible exact g_isn | with_reducible exact g_isi | with_reducible exact g_nsn | with_reducible exact g_nsi | with_reducible exact g_max | with_reducible exact g_max3 | with_reducible exact g_min | with_reducible exact g_intb | with_reducible apply g_gt2 | with_reducible apply g_gt3 | with_reducible apply g_tup | with_reducible apply g_lst | with_reducible exact lenOk rfl | with_reducible exact g_on | with_reducible apply g_os | with_reducible apply g_sl | with_reducible apply g_bkm | with_reducible exact g_okS )
          apply body_nx
          · (repeat' first | with_reducible exact F2 | with_reducible exact g_v rfl | with_reducible exact g_c | with_reducible exact g_an | with_reducible exact g_add | with_reducible exact g_sub | with_reducible exact g_iadd | with_reducible exact g_lt | with_reducible exact g_le | with_reducible exact g_gt | with_reducible exact g_ge | with_reducible exact g_eq | with_reducible exact g_ne | with_reducible exact g_neg | with_reducible exact g_mul (by first | assumption | omega | decide) | with_reducible exact g_div (by first | assumption | omega | decide) (by first | assumption | omega | decide) | with_reducible exact g_mod (by first | assumption | omega | decide) | with_reducible exact g_pow (by decide) | with_reducible apply g_isint | with_reducible exact g_sk | with_reducible exact g_rn | with_reducible exact g_bk | with_reducible exact g_ct | with_reducible exact g_gn0 | with_reducible apply g_gns | with_reducible exact g_ap0 | with_reducible apply g_apS | with_reducible apply g_op | with_reducible apply g_un | with_reducible apply g_ac | with_reducible apply g_call | with_reducible apply g_calld | with_reducible apply g_bf | with_reducible apply g_sq | with_reducible apply g_kn | with_reducible exact g_kr | with_reducible exact g_kb | with_reducible exact g_kc | with_reducible apply g_as | with_reducible apply g_pr | with_reducible apply g_au rfl | with_reducible apply g_rt | with_reducible apply g_ex | with_reducible apply g_if | with_reducible apply g_tv | with_reducible apply g_tan | with_reducible apply g_tor | with_reducible apply g_tnt | with_reducible apply g_ean | with_reducible apply g_eor | with_reducible apply g_ent | with_reducible apply g_eif | with_reducible apply g_iftt | with_reducible apply g_iffn | with_reducible apply g_ifff | with_reducible apply g_iftn | with_reducible refine g_ift (by first | assumption | omega | decide) ?_ | with_reducible refine g_iff (by first | assumption | omega | decide) ?_ | with_reducible refine g_ifnt (by first | assumption | omega | decide) ?_ | with_reducible refine g_ifnf (by first | assumption | omega | decide) ?_ | with_reducible exact rfl | with_reducible exact g_eqs | with_reducible exact g_nes | with_reducible exact g_neni | with_reducible exact g_nein | with_reducible exact g_nenn | with_reducible exact g_isn | with_reducible exact g_isi | with_reducible exact g_nsn | with_reducible exact g_nsi | with_reducible exact g_max | with_reducible exact g_max3 | with_reducible exact g_min | with_reducible exact g_intb | with_reducible apply g_gt2 | with_reducible apply g_gt3 | with_reducible apply g_tup | with_reducible apply g_lst | with_reducible exact lenOk rfl | with_reducible exact g_on | with_reducible apply g_os | with_reducible apply g_sl | with_reducible apply g_bkm | with_reducible exact g_okS )
          · refine ⟨_, _, _, qs, rfl, fun i o hi q => k8 i o hi (k' i o hi q), g8, ?_⟩
            have e : (fun z => (((namedIx P f).take (i + 1)).reverse.findSome? fun j => eAt E j z).or (ownE L f z)) = fun z => if z ∈ (mkE L.length (eAt E j')).map (·.1) then (eAt E j' z).or ((((namedIx P f).take i).reverse.findSome? fun j => eAt E j z).or (ownE L f z)) else (((namedIx P f).take i).reverse.findSome? fun j => eAt E j z).or (ownE L f z) := by
              funext z
              rw [take_snoc q', List.reverse_append]
              show ((List.findSome? _ (j' :: ((namedIx P f).take i).reverse)).or _) = _
              rw [List.findSome?_cons]
              by_cases c : z ∈ (mkE L.length (eAt E j')).map (·.1)
              · rw [if_pos c]
                cases eAt E j' z with
                | none => rfl
                | some v => rfl
              · rw [if_neg c]
                have : eAt E j' z = none := Classical.byContradiction fun h => c ((mkE_keys bdj z).mpr h)
                rw [this]
            rw [e]; exact dg8)
        (e := [some (.tup [.ref a, .ref b]), some (.ref h.length), some (.ref h1.length), some (.ref h2.length), some (.str n), some f.d, some (.ref m), x7, x8, x9]) (h := h6) ⟨x7, x8, x9, ps0, rfl, fun i o _ q => q, k6 _ _ g5, by simpa using dg0⟩ (fuel := C.fuel) (by omega)
      rw [List.take_length] at dg7
      have dg7 : DicG L.length ps (en1 L P E f) := dg7
      have k7' : Kp h' h7 := fun i o q => k7 i o (by have := (List.getElem?_eq_some_iff.mp q).1; omega) (k6 _ _ (k5 _ _ q))
      have F1 := fo_of (g := gN 7) (mi := iA (eCall 62 (aC (eV 5) (aC (eV 2) aN)) [])) (e := [some (.tup [.ref a, .ref b]), some (.ref h.length), some (.ref h1.length), some (.ref h2.length), some (.str n), some f.d, some (.ref m), x7, x8, x9]) (h := h5) (h1 := h6) (it := itL h5.length) (by
        have q : (eCall 62 (aC (eV 5) (aC (eV 2) aN)) []) C [some (.tup [.ref a, .ref b]), some (.ref h.length), some (.ref h1.length), some (.ref h2.length), some (.str n), some f.d, some (.ref m), x7, x8, x9] h5 = .ok (.ref h5.length) h6 := by (repeat' first | with_reducible exact cn | with_reducible exact g_v rfl | with_reducible exact g_c | with_reducible exact g_an | with_reducible exact g_add | with_reducible exact g_sub | with_reducible exact g_iadd | with_reducible exact g_lt | with_reducible exact g_le | with_reducible exact g_gt | with_reducible exact g_ge | with_reducible exact g_eq | with_reducible exact g_ne | with_reducible exact g_neg | with_reducible exact g_mul (by first | assumption | omega | decide) | with_reducible exact g_div (by first | assumption | omega | decide) (by first | assumption | omega | decide) | with_reducible exact g_mod (by first | assumption | omega | decide) | with_reducible exact g_pow (by decide) | with_reducible apply g_isint | with_reducible exact g_sk | with_reducible exact g_rn | with_reducible exact g_bk | with_reducible exact g_ct | with_reducible exact g_gn0 | with_reducible apply g_gns | with_reducible exact g_ap0 | with_reducible apply g_apS | with_reducible apply g_op | with_reducible apply g_un | with_reducible apply g_ac | with_reducible apply g_call | with_reducible apply g_calld | with_reducible apply g_bf | with_reducible apply g_sq | with_reducible apply g_kn | with_reducible exact g_kr | with_reducible exact g_kb | with_reducible exact g_kc | with_reducible apply g_as | with_reducible apply g_pr | with_reducible apply g_au rfl | with_reducible apply g_rt | with_reducible apply g_ex | with_reducible apply g_if | with_reducible apply g_tv | with_reducible apply g_tan | with_reducible apply g_tor | with_reducible apply g_tnt | with_reducible apply g_ean | with_reducible apply g_eor | with_reducible apply g_ent | with_reducible apply g_eif | with_reducible apply g_iftt | with_reducible apply g_iffn | with_reducible apply g_ifff | with_reducible apply g_iftn | with_reducible refine g_ift (by first | assumption | omega | decide) ?_ | with_reducible refine g_iff (by first | assumption | omega | decide) ?_ | with_reducible refine g_ifnt (by first | assumption | omega | decide) ?_ | with_reducible refine g_ifnf (by first | assumption | omega | decide) ?_ | with_reducible exact rfl | with_reducible exact g_eqs | with_reducible exact g_nes | with_reducible exact g_neni | with_reducible exact g_nein | with_reducible exact g_nenn | with_reducible exact g_isn | with_reducible exact g_isi | with_reducible exact g_nsn | with_reducible exact g_nsi | with_reducible exact g_max | with_reducible exact g_max3 | with_reducible exact g_min | with_reducible exact g_intb | with_reducible apply g_gt2 | with_reducible apply g_gt3 | with_reducible apply g_tup | with_reducible apply g_lst | with_reducible exact lenOk rfl | with_reducible exact g_on | with_reducible apply g_os | with_reducible apply g_sl | with_reducible apply g_bkm | with_reducible exact g_okS )
        unfold iA; rw [q]; simp only [Z.R.bind_ok, isL_of g6]) F1
      have pl7 := dg7.len
      have sr := g_srtD g7 (by omega)
      rw [dg7.keys] at sr
      obtain ⟨ks, hks⟩ : ∃ ks, ks = (upto L.length).filter fun l => (en1 L P E f l).isSome := ⟨_, rfl⟩
      rw [← hks] at sr
      obtain ⟨h8, hh8⟩ : ∃ h8, h8 = h7 ++ [O.lst (ks.map D.int)] := ⟨_, rfl⟩
      rw [← hh8] at sr
      have k8 : Kp h7 h8 := by rw [hh8]; exact Kp.app
      have g8k : h8[h7.length]? = some (.lst (ks.map D.int)) := by rw [hh8]; exact get_new
      have g8 := k8 _ _ g7
      have ksl : ks.length ≤ 8 := by
        have h := List.length_filter_le (fun l => (en1 L P E f l).isSome) (upto L.length)
        have e : (upto L.length).length = L.length := by unfold upto; rw [List.length_map, List.length_range]
        rw [hks]; omega
      have LC : eLc [8] (gN 8) (iA (eBf bSr2 (aC (eV 6) aN))) tY (eTup (aC (eV 8) (aC (eOp opIx (eV 6) (eV 8)) aN))) C [some (.tup [.ref a, .ref b]), some (.ref h.length), some (.ref h1.length), some (.ref h2.length), some (.str n), some f.d, some (.ref m), y7, y8, y9] h7 = .ok (.ref h8.length) (h8 ++ [.lst (eL L.length (en1 L P E f))]) := by
        refine lc_of (it := itL h7.length) (h1 := h8) (by
          have q : (eBf bSr2 (aC (eV 6) aN)) C [some (.tup [.ref a, .ref b]), some (.ref h.length), some (.ref h1.length), some (.ref h2.length), some (.str n), some f.d, some (.ref m), y7, y8, y9] h7 = .ok (.ref h7.length) h8 := by (repeat' first | with_reducible exact sr | with_reducible exact g_v rfl | with_reducible exact g_c | with_reducible exact g_an | with_reducible exact g_add | with_reducible exact g_sub | with_reducible exact g_iadd | with_reducible exact g_lt | with_reducible exact g_le | with_reducible exact g_gt | with_reducible exact g_ge | with_reducible exact g_eq | with_reducible exact g_ne | with_reducible exact g_neg | with_reducible exact g_mul (by first | assumption | omega | decide) | with_reducible exact g_div (by first | assumption | omega | decide) (by first | assumption | omega | decide) | with_reducible exact g_mod (by first | assumption | omega | decide) | with_reducible exact g_pow (by decide) | with_reducible apply g_isint | with_reducible exact g_sk | with_reducible exact g_rn | with_reducible exact g_bk | with_reducible exact g_ct | with_reducible exact g_gn0 | with_reducible apply g_gns | with_reducible exact g_ap0 | with_reducible apply g_apS | with_reducible apply g_op | with_reducible apply g_un | with_reducible apply g_ac | with_reducible apply g_call | with_reducible apply g_calld | with_reducible apply g_bf | with_reducible apply g_sq | with_reducible apply g_kn | with_reducible exact g_kr | with_reducible exact g_kb | with_reducible exact g_kc | with_reducible apply g_as | with_reducible apply g_pr | with_reducible apply g_au rfl | with_reducible apply g_rt | with_reducible apply g_ex | with_reducible apply g_if | with_reducible apply g_tv | with_reducible apply g_tan | with_reducible apply g_tor | with_reducible apply g_tnt | with_reducible apply g_ean | with_reducible apply g_eor | with_reducible apply g_ent | with_reducible apply g_eif | with_reducible apply g_iftt | with_reducible apply g_iffn | with_reducible apply g_ifff | with_reducible apply g_iftn | with_reducible refine g_ift (by first | assumption | omega | decide) ?_ | with_reducible refine g_iff (by first | assumption | omega | decide) ?_ | with_reducible refine g_ifnt (by first | assumption | omega | decide) ?_ | with_reducible refine g_ifnf (by first | assumption | omega | decide) ?_ | with_reducible exact rfl | with_reducible exact g_eqs | with_reducible exact g_nes | with_reducible exact g_neni | with_reducible exact g_nein | with_reducible exact g_nenn | with_reducible exact g_isn | with_reducible exact g_isi | with_reducible exact g_nsn | with_reducible exact g_nsi | with_reducible exact g_max | with_reducible exact g_max3 | with_reducible exact g_min | with_reducible exact g_intb | with_reducible apply g_gt2 | with_reducible apply g_gt3 | with_reducible apply g_tup | with_reducible apply g_lst | with_reducible exact lenOk rfl | with_reducible exact g_on | with_reducible apply g_os | with_reducible apply g_sl | with_reducible apply g_bkm | with_reducible exact g_okS )
          unfold iA; rw [q]; simp only [Z.R.bind_ok, isL_of g8k]) ?_
        have e : eL L.length (en1 L P E f) = ks.map fun l => pairD (l, (en1 L P E f l).getD 0) := by unfold eL; rw [mkE_eq, List.map_map, hks]; rfl
        rw [e]
        refine cmp_map D.int _ (fun i z qz => itL_at g8k qz) (itL_end g8k) (fun z hz => ⟨_, rfl, ?_⟩) (by omega) fu
        have sm : (en1 L P E f z).isSome := by rw [hks, List.mem_filter] at hz; exact hz.2
        obtain ⟨v, hv⟩ := Option.isSome_iff_exists.mp sm
        have gp : getP ps z = some v := by rw [dg7.val]; exact hv
        have ix := g_ixI g8 gp
        show (eTup (aC (eV 8) (aC (eOp opIx (eV 6) (eV 8)) aN))) C [some (.tup [.ref a, .ref b]), some (.ref h.length), some (.ref h1.length), some (.ref h2.length), some (.str n), some f.d, some (.ref m), y7, some (.int z), y9] h8 = .ok (pairD (z, (en1 L P E f z).getD 0)) h8
        rw [hv]
        show _ = R.ok (D.tup [.int z, .int v]) h8
        (repeat' first | with_reducible exact ix | with_reducible exact g_v rfl | with_reducible exact g_c | with_reducible exact g_an | with_reducible exact g_add | with_reducible exact g_sub | with_reducible exact g_iadd | with_reducible exact g_lt | with_reducible exact g_le | with_reducible exact g_gt | with_reducible exact g_ge | with_reducible exact g_eq | with_reducible exact g_ne | with_reducible exact g_neg | with_reducible exact g_mul (by first | assumption | omega | decide) | with_reducible exact g_div (by first | assumption | omega | decide) (by first | assumption | omega | decide) | with_reducible exact g_mod (by first | assumption | omega | decide) | with_reducible exact g_pow (by decide) | with_reducible apply g_isint | with_reducible exact g_sk | with_reducible exact g_rn | with_reducible exact g_bk | with_reducible exact g_ct | with_reducible exact g_gn0 | with_reducible apply g_gns | with_reducible exact g_ap0 | with_reducible apply g_apS | with_reducible apply g_op | with_reducible apply g_un | with_reducible apply g_ac | with_reducible apply g_call | with_reducible apply g_calld | with_reducible apply g_bf | with_reducible apply g_sq | with_reducible apply g_kn | with_reducible exact g_kr | with_reducible exact g_kb | with_reducible exact g_kc | with_reducible apply g_as | with_reducible apply g_pr | with_reducible apply g_au rfl | with_reducible apply g_rt | with_reducible apply g_ex | with_reducible apply g_if | with_reducible apply g_tv | with_reducible apply g_tan | with_reducible apply g_tor | with_reducible apply g_tnt | with_reducible apply g_ean | with_reducible apply g_eor | with_reducible apply g_ent | with_reducible apply g_eif | with_reducible apply g_iftt | with_reducible apply g_iffn | with_reducible apply g_ifff | with_reducible apply g_iftn | with_reducible refine g_ift (by first | assumption | omega | decide) ?_ | with_reducible refine g_iff (by first | assumption | omega | decide) ?_ | with_reducible refine g_ifnt (by first | assumption | omega | decide) ?_ | with_reducible refine g_ifnf (by first | assumption | omega | decide) ?_ | with_reducible exact rfl | with_reducible exact g_eqs | with_reducible exact g_nes | with_reducible exact g_neni | with_reducible exact g_nein | with_reducible exact g_nenn | with_reducible exact g_isn | with_reducible exact g_isi | with_reducible exact g_nsn | with_reducible exact g_nsi | with_reducible exact g_max | with_reducible exact g_max3 | with_reducible exact g_min | with_reducible exact g_intb | with_reducible apply g_gt2 | with_reducible apply g_gt3 | with_reducible apply g_tup | with_reducible apply g_lst | with_reducible exact lenOk rfl | with_reducible exact g_on | with_reducible apply g_os | with_reducible apply g_sl | with_reducible apply g_bkm | with_reducible exact g_okS )
      obtain ⟨h9, hh9⟩ : ∃ h9, h9 = h8 ++ [O.lst (eL L.length (en1 L P E f))] := ⟨_, rfl⟩
      rw [← hh9] at LC
      have k9 : Kp h7 h9 := by rw [hh9]; exact k8.trans Kp.app
      have gt9 := k9 _ _ (k7' _ _ gt)
      have okt7 := g_okL_of (k7' _ _ gt)
      have ap := g_app (y := .ref h8.length) gt9 (by rw [List.length_map, tl.len, List.length_map, en.len, sizeLine_eq]; omega)
      have tl8 := (tl.kp k7').kp k8
      have k78 := k7'.trans k8
      have k78l := k78.len
      have tl9 := tl8.snoc (xs := eL L.length (en1 L P E f)) (by omega)
      rw [← hh9] at tl9
      have S1' := S1 (some (.str n)) x6 x7 x8 x9
      have kS : Kp h2 (h9.set h2.length (.lst (refs.map D.ref ++ [.ref h8.length]))) := (k.trans (k7'.trans k9)).set (Nat.le_refl _)
      unfold b_ends_3
      apply turn_of
      · show gT [4, 5] _ (.tup [.str n, f.d]) = _
        (repeat' first | with_reducible exact g_v rfl | with_reducible exact g_c | with_reducible exact g_an | with_reducible exact g_add | with_reducible exact g_sub | with_reducible exact g_iadd | with_reducible exact g_lt | with_reducible exact g_le | with_reducible exact g_gt | with_reducible exact g_ge | with_reducible exact g_eq | with_reducible exact g_ne | with_reducible exact g_neg | with_reducible exact g_mul (by first | assumption | omega | decide) | with_reducible exact g_div (by first | assumption | omega | decide) (by first | assumption | omega | decide) | with_reducible exact g_mod (by first | assumption | omega | decide) | with_reducible exact g_pow (by decide) | with_reducible apply g_isint | with_reducible exact g_sk | with_reducible exact g_rn | with_reducible exact g_bk | with_reducible exact g_ct | with_reducible exact g_gn0 | with_reducible apply g_gns | with_reducible exact g_ap0 | with_reducible apply g_apS | with_reducible apply g_op | with_reducible apply g_un | with_reducible apply g_ac | with_reducible apply g_call | with_reducible apply g_calld | with_reducible apply g_bf | with_reducible apply g_sq | with_reducible apply g_kn | with_reducible exact g_kr | with_reducible exact g_kb | with_reducible exact g_kc | with_reducible apply g_as | with_reducible apply g_pr | with_reducible apply g_au rfl | with_reducible apply g_rt | with_reducible apply g_ex | with_reducible apply g_if | with_reducible apply g_tv | with_reducible apply g_tan | with_reducible apply g_tor | with_reducible apply g_tnt | with_reducible apply g_ean | with_reducible apply g_eor | with_reducible apply g_ent | with_reducible apply g_eif | with_reducible apply g_iftt | with_reducible apply g_iffn | with_reducible apply g_ifff | with_reducible apply g_iftn | with_reducible refine g_ift (by first | assumption | omega | decide) ?_ | with_reducible refine g_iff (by first | assumption | omega | decide) ?_ | with_reducible refine g_ifnt (by first | assumption | omega | decide) ?_ | with_reducible refine g_ifnf (by first | assumption | omega | decide) ?_ | with_reducible exact rfl | with_reducible exact g_eqs | with_reducible exact g_nes | with_reducible exact g_neni | with_reducible exact g_nein | with_reducible exact g_nenn | with_reducible exact g_isn | with_reducible exact g_isi | with_reducible exact g_nsn | with_reducible exact g_nsi | with_reducible exact g_max | with_reducible exact g_max3 | with_reducible exact g_min | with_reducible exact g_intb | with_reducible apply g_gt2 | with_reducible apply g_gt3 | with_reducible apply g_tup | with_reducible apply g_lst | with_reducible exact lenOk rfl | with_reducible exact g_on | with_reducible apply g_os | with_reducible apply g_sl | with_reducible apply g_bkm | with_reducible exact g_okS )
      apply body_nx
      · refine sq_of2 S1' _ ?_
        (repeat' first | with_reducible exact F1 | with_reducible exact okt7 | with_reducible exact LC | with_reducible exact ap | with_reducible exact g_v rfl | with_reducible exact g_c | with_reducible exact g_an | with_reducible exact g_add | with_reducible exact g_sub | with_reducible exact g_iadd | with_reducible exact g_lt | with_reducible exact g_le | with_reducible exact g_gt | with_reducible exact g_ge | with_reducible exact g_eq | with_reducible exact g_ne | with_reducible exact g_neg | with_reducible exact g_mul (by first | assumption | omega | decide) | with_reducible exact g_div (by first | assumption | omega | decide) (by first | assumption | omega | decide) | with_reducible exact g_mod (by first | assumption | omega | decide) | with_reducible exact g_pow (by decide) | with_reducible apply g_isint | with_reducible exact g_sk | with_reducible exact g_rn | with_reducible exact g_bk | with_reducible exact g_ct | with_reducible exact g_gn0 | with_reducible apply g_gns | with_reducible exact g_ap0 | with_reducible apply g_apS | with_reducible apply g_op | with_reducible apply g_un | with_reducible apply g_ac | with_reducible apply g_call | with_reducible apply g_calld | with_reducible apply g_bf | with_reducible apply g_sq | with_reducible apply g_kn | with_reducible exact g_kr | with_reducible exact g_kb | with_reducible exact g_kc | with_reducible apply g_as | with_reducible apply g_pr | with_reducible apply g_au rfl | with_reducible apply g_rt | with_reducible apply g_ex | with_reducible apply g_if | with_reducible apply g_tv | with_reducible apply g_tan | with_reducible apply g_tor | with_reducible apply g_tnt | with_reducible apply g_ean | with_reducible apply g_eor | with_reducible apply g_ent | with_reducible apply g_eif | with_reducible apply g_iftt | with_reducible apply g_iffn | with_reducible apply g_ifff | with_reducible apply g_iftn | with_reducible refine g_ift (by first | assumption | omega | decide) ?_ | with_reducible refine g_iff (by first | assumption | omega | decide) ?_ | with_reducible refine g_ifnt (by first | assumption | omega | decide) ?_ | with_reducible refine g_ifnf (by first | assumption | omega | decide) ?_ | with_reducible exact rfl | with_reducible exact g_eqs | with_reducible exact g_nes | with_reducible exact g_neni | with_reducible exact g_nein | with_reducible exact g_nenn | with_reducible exact g_isn | with_reducible exact g_isi | with_reducible exact g_nsn | with_reducible exact g_nsi | with_reducible exact g_max | with_reducible exact g_max3 | with_reducible exact g_min | with_reducible exact g_intb | with_reducible apply g_gt2 | with_reducible apply g_gt3 | with_reducible apply g_tup | with_reducible apply g_lst | with_reducible exact lenOk rfl | with_reducible exact g_on | with_reducible apply g_os | with_reducible apply g_sl | with_reducible apply g_bkm | with_reducible exact g_okS )
      · refine ⟨_, _, _, _, _, _, refs ++ [h8.length], E ++ [en1 L P E f], rfl, kS, ?_, ?_, en.snoc o q⟩
        · rw [getset_same gt9, List.map_append]; rfl
        · rw [List.map_append]
          refine ⟨tl9.len, fun k' i' q' => ⟨getset ?_ (tl9.each k' i' q').1, (tl9.each k' i' q').2⟩, tl9.up⟩
          have := (tl9.each k' i' q').2
          omega)
    (e := [some (.tup [.ref a, .ref b]), some (.ref h.length), some (.ref h1.length), some (.ref h2.length), none, none, none, none, none, none]) (h := h2 ++ [.lst []]) ⟨_, _, _, _, _, _, [], [], rfl, Kp.app, get_new, TL.nil, ⟨rfl, fun k x hk => absurd hk (Nat.not_lt_zero _), fun k z hz => absurd (by unfold eAt; simp) hz⟩⟩ (fuel := C.fuel) (by omega)
  have F := fo_of (g := gT [4, 5]) (mi := iA (eOp opIx (eV 0) (eC (.int 1)))) (e := [some (.tup [.ref a, .ref b]), some (.ref h.length), some (.ref h1.length), some (.ref h2.length), none, none, none, none, none, none]) (h := h2 ++ [.lst []]) (h1 := h2 ++ [.lst []]) (it := itL b) (by
    have q : (eOp opIx (eV 0) (eC (.int 1))) C [some (.tup [.ref a, .ref b]), some (.ref h.length), some (.ref h1.length), some (.ref h2.length), none, none, none, none, none, none] (h2 ++ [.lst []]) = .ok (.ref b) (h2 ++ [.lst []]) := by
      have ix : opIx (.tup [.ref a, .ref b]) (.int 1) (h2 ++ [.lst []]) = .ok (.ref b) (h2 ++ [.lst []]) := g_ixt (by decide) rfl
      (repeat' first | with_reducible exact ix | with_reducible exact g_v rfl | with_reducible exact g_c | with_reducible exact g_an | with_reducible exact g_add | with_reducible exact g_sub | with_reducible exact g_iadd | with_reducible exact g_lt | with_reducible exact g_le | with_reducible exact g_gt | with_reducible exact g_ge | with_reducible exact g_eq | with_reducible exact g_ne | with_reducible exact g_neg | with_reducible exact g_mul (by first | assumption | omega | decide) | with_reducible exact g_div (by first | assumption | omega | decide) (by first | assumption | omega | decide) | with_reducible exact g_mod (by first | assumption | omega | decide) | with_reducible exact g_pow (by decide) | with_reducible apply g_isint | with_reducible exact g_sk | with_reducible exact g_rn | with_reducible exact g_bk | with_reducible exact g_ct | with_reducible exact g_gn0 | with_reducible apply g_gns | with_reducible exact g_ap0 | with_reducible apply g_apS | with_reducible apply g_op | with_reducible apply g_un | with_reducible apply g_ac | with_reducible apply g_call | with_reducible apply g_calld | with_reducible apply g_bf | with_reducible apply g_sq | with_reducible apply g_kn | with_reducible exact g_kr | with_reducible exact g_kb | with_reducible exact g_kc | with_reducible apply g_as | with_reducible apply g_pr | with_reducible apply g_au rfl | with_reducible apply g_rt | with_reducible apply g_ex | with_reducible apply g_if | with_reducible apply g_tv | with_reducible apply g_tan | with_reducible apply g_tor | with_reducible apply g_tnt | with_reducible apply g_ean | with_reducible apply g_eor | with_reducible apply g_ent | with_reducible apply g_eif | with_reducible apply g_iftt | with_reducible apply g_iffn | with_reducible apply g_ifff | with_reducible apply g_iftn | with_reducible refine g_ift (by first | assumption | omega | decide) ?_ | with_reducible refine g_iff (by first | assumption | omega | decide) ?_ | with_reducible refine g_ifnt (by first | assumption | omega | decide) ?_ | with_reducible refine g_ifnf (by first | assumption | omega | decide) ?_ | with_reducible exact rfl | with_reducible exact g_eqs | with_reducible exact g_nes | with_reducible exact g_neni | with_reducible exact g_nein | with_reducible exact g_nenn | with_reducible exact g_isn | with_reducible exact g_isi | with_reducible exact g_nsn | with_reducible exact g_nsi | with_reducible exact g_max | with_reducible exact g_max3 | with_reducible exact g_min | with_reducible exact g_intb | with_reducible apply g_gt2 | with_reducible apply g_gt3 | with_reducible apply g_tup | with_reducible apply g_lst | with_reducible exact lenOk rfl | with_reducible exact g_on | with_reducible apply g_os | with_reducible apply g_sl | with_reducible apply g_bkm | with_reducible exact g_okS )
    unfold iA; rw [q]; simp only [Z.R.bind_ok, isL_of (get_app (t := [O.lst []]) (k2 _ _ (k1 _ _ gb)))]) F
  have ia : opIx (.tup [.ref a, .ref b]) (.int 0) h = .ok (.ref a) h := g_ixt (by decide) rfl
  have ib : opIx (.tup [.ref a, .ref b]) (.int 1) h1 = .ok (.ref b) h1 := g_ixt (by decide) rfl
  refine ⟨h4, h2.length, refs, E, ?_, k1.trans (k2.trans k4), by omega, gt, ⟨tl.len, fun k i q => ⟨(tl.each k i q).1, by have := (tl.each k i q).2; omega⟩, tl.up⟩, en, fun hm => ?_⟩
  · refine run_rt rfl (by simp only [List.map_cons, List.map_nil, List.length_cons, List.length_nil, List.cons_append, List.nil_append, Nat.reduceAdd, Nat.reduceSub, List.replicate_succ, List.replicate_zero]; exact rfl) ?_
    (repeat' first | with_reducible exact ia | with_reducible exact cL | with_reducible exact ib | with_reducible exact cP | with_reducible exact F | with_reducible exact g_v rfl | with_reducible exact g_c | with_reducible exact g_an | with_reducible exact g_add | with_reducible exact g_sub | with_reducible exact g_iadd | with_reducible exact g_lt | with_reducible exact g_le | with_reducible exact g_gt | with_reducible exact g_ge | with_reducible exact g_eq | with_reducible exact g_ne | with_reducible exact g_neg | with_reducible exact g_mul (by first | assumption | omega | decide) | with_reducible exact g_div (by first | assumption | omega | decide) (by first | assumption | omega | decide) | with_reducible exact g_mod (by first | assumption | omega | decide) | with_reducible exact g_pow (by decide) | with_reducible apply g_isint | with_reducible exact g_sk | with_reducible exact g_rn | with_reducible exact g_bk | with_reducible exact g_ct | with_reducible exact g_gn0 | with_reducible apply g_gns | with_reducible exact g_ap0 | with_reducible apply g_apS | with_reducible apply g_op | with_reducible apply g_un | with_reducible apply g_ac | with_reducible apply g_call | with_reducible apply g_calld | with_reducible apply g_bf | with_reducible apply g_sq | with_reducible apply g_kn | with_reducible exact g_kr | with_reducible exact g_kb | with_reducible exact g_kc | with_reducible apply g_as | with_reducible apply g_pr | with_reducible apply g_au rfl | with_reducible apply g_rt | with_reducible apply g_ex | with_reducible apply g_if | with_reducible apply g_tv | with_reducible apply g_tan | with_reducible apply g_tor | with_reducible apply g_tnt | with_reducible apply g_ean | with_reducible apply g_eor | with_reducible apply g_ent | with_reducible apply g_eif | with_reducible apply g_iftt | with_reducible apply g_iffn | with_reducible apply g_ifff | with_reducible apply g_iftn | with_reducible refine g_ift (by first | assumption | omega | decide) ?_ | with_reducible refine g_iff (by first | assumption | omega | decide) ?_ | with_reducible refine g_ifnt (by first | assumption | omega | decide) ?_ | with_reducible refine g_ifnf (by first | assumption | omega | decide) ?_ | with_reducible exact rfl | with_reducible exact g_eqs | with_reducible exact g_nes | with_reducible exact g_neni | with_reducible exact g_nein | with_reducible exact g_nenn | with_reducible exact g_isn | with_reducible exact g_isi | with_reducible exact g_nsn | with_reducible exact g_nsi | with_reducible exact g_max | with_reducible exact g_max3 | with_reducible exact g_min | with_reducible exact g_intb | with_reducible apply g_gt2 | with_reducible apply g_gt3 | with_reducible apply g_tup | with_reducible apply g_lst | with_reducible exact lenOk rfl | with_reducible exact g_on | with_reducible apply g_os | with_reducible apply g_sl | with_reducible apply g_bkm | with_reducible exact g_okS )
  · obtain ⟨k, hk⟩ := List.mem_iff_getElem?.mp hm
    have := (tl.each k _ hk).2
    omega
/-! objects of own classes -/
theorem g_fld {C : Ctx} {e : Ev} {h h1 : HP} {cs : List Nat} {a : ME} {f : Str} {i c : Nat} {fs : List (Str × D)} {d : D} (ha : a C e h = .ok (.ref i) h1) (hi : h1[i]? = some (.ins c fs)) (hc : c ∈ cs) (hf : fs.lookup f = some d) : eFld cs a f C e h = .ok d h1 := by
  unfold eFld; rw [ha]; simp only [Z.R.bind_ok, hi, if_pos hc, hf]
theorem g_fls {C : Ctx} {e : Ev} {h h1 h2 : HP} {cs : List Nat} {o a : ME} {f : Str} {i c : Nat} {fs : List (Str × D)} {v : D} (ha : a C e h = .ok v h1) (ho : o C e h1 = .ok (.ref i) h2) (hi : h2[i]? = some (.ins c fs)) (hc : c ∈ cs) (hl : fs.length < 1000) :
    sFl cs o f a C e h = .ok (.nx e) (h2.set i (.ins c (putD f v fs))) := by
  unfold sFl; rw [ha]; simp only [Z.R.bind_ok]; rw [ho]; simp only [Z.R.bind_ok, hi, if_pos (And.intro hc hl)]
theorem g_meth {C : Ctx} {e : Ev} {h h1 h2 : HP} {cs : List Nat} {o : ME} {m : Nat} {nm : Str} {as : MA} {i c : Nat} {fs : List (Str × D)} {xs : List D} {r : Z.R D} (ho : o C e h = .ok (.ref i) h1) (hi : h1[i]? = some (.ins c fs)) (hc : c ∈ cs) (hn : (fs.lookup nm).isNone = true) (ha : as C e h1 = .ok xs h2) (hm : C.meth c m (.ref i :: xs) h2 = r) : eMeth cs o m nm as C e h = r := by
  unfold eMeth; rw [ho]; simp only [Z.R.bind_ok, hi, if_pos (And.intro hc hn)]; rw [ha]; exact hm
theorem g_make {C : Ctx} {e : Ev} {h h1 : HP} {c : Nat} {as : MA} {xs : List D} {r : Z.R D} (ha : as C e h = .ok xs h1) (hm : C.make c xs h1 = r) : eMake c as C e h = r := by
  unfold eMake; rw [ha]; exact hm
theorem mk_run {n c : Nat} {xs : List D} {h h' : HP} (hm : (ctx T n).meth c 0 (.ref h.length :: xs) (h ++ [.ins c []]) = .ok .non h') : (ctx T (n + 1)).make c xs h = .ok (.ref h.length) h' := by
  show mkBy (ctx T n).meth c xs h = _
  unfold mkBy; rw [hm]; rfl
/-- all that stood stands, but the one at a -/
def Kx (a : Nat) (h h' : HP) : Prop := ∀ (i : Nat) (o : O), i ≠ a → h[i]? = some o → h'[i]? = some o
theorem Kx.refl {a : Nat} {h : HP} : Kx a h h := fun _ _ _ q => q
theorem Kp.kx {a : Nat} {h h' : HP} (k : Kp h h') : Kx a h h' := fun i o _ q => k i o q
theorem Kx.trans {a : Nat} {h h1 h2 : HP} (x : Kx a h h1) (y : Kx a h1 h2) : Kx a h h2 := fun i o n q => y i o n (x i o n q)
theorem Kx.set {a : Nat} {h h' : HP} {o : O} (x : Kx a h h') : Kx a h (h'.set a o) := fun i o' n q => getset n (x i o' n q)
theorem Kx.set2 {a b : Nat} {h h' : HP} {o : O} (x : Kx a h h') (hb : h.length ≤ b) : Kx a h (h'.set b o) := fun i o' n q => by
  have := (List.getElem?_eq_some_iff.mp q).1
  exact getset (by omega) (x i o' n q)
/-! the guide -/
structure Gd where
  a1 : Nat
  a2 : Nat
  a3 : Nat
  a4 : Nat
  a5 : Nat
  refs : List Nat
def Gd.fs (G : Gd) : List (Str × D) := [("forms", .ref G.a1), ("numbers", .ref G.a2), ("limbs", .ref G.a3), ("lengths", .ref G.a4), ("ends", .ref G.a5)]
structure GuideAt (h : HP) (g : Nat) (G : Gd) (L : List (Str × Int)) (P : List (Str × Fm)) (lg : Nat → Int) (E : List EF) : Prop where
  ob : h[g]? = some (.ins 1 G.fs)
  forms : h[G.a1]? = some (.lst (P.map fun x => x.2.d))
  nums : h[G.a2]? = some (.dic (numD 0 (pnm P)))
  lims : h[G.a3]? = some (.dic (numD 0 (lnm L)))
  lens : h[G.a4]? = some (.lst ((lgL P lg).map D.int))
  ends : h[G.a5]? = some (.lst (G.refs.map D.ref))
  each : TL 0 h G.refs (E.map (eL L.length))
theorem GuideAt.kp {h h' : HP} {g : Nat} {G : Gd} {L : List (Str × Int)} {P : List (Str × Fm)} {lg : Nat → Int} {E : List EF} (a : GuideAt h g G L P lg E) (k : Kp h h') : GuideAt h' g G L P lg E :=
  ⟨k _ _ a.ob, k _ _ a.forms, k _ _ a.nums, k _ _ a.lims, k _ _ a.lens, k _ _ a.ends, a.each.kp k⟩
/-- an object that the guide does not know -/
theorem GuideAt.set {h : HP} {g t : Nat} {G : Gd} {L : List (Str × Int)} {P : List (Str × Fm)} {lg : Nat → Int} {E : List EF} {o : O} (a : GuideAt h g G L P lg E) (ht : t ≠ g ∧ t ≠ G.a1 ∧ t ≠ G.a2 ∧ t ≠ G.a3 ∧ t ≠ G.a4 ∧ t ≠ G.a5 ∧ t ∉ G.refs) : GuideAt (h.set t o) g G L P lg E :=
  ⟨getset (Ne.symm ht.1) a.ob, getset (Ne.symm ht.2.1) a.forms, getset (Ne.symm ht.2.2.1) a.nums, getset (Ne.symm ht.2.2.2.1) a.lims, getset (Ne.symm ht.2.2.2.2.1) a.lens, getset (Ne.symm ht.2.2.2.2.2.1) a.ends,
    ⟨a.each.len, fun k i q => ⟨getset (fun e => ht.2.2.2.2.2.2 (e ▸ List.mem_of_getElem? q)) (a.each.each k i q).1, (a.each.each k i q).2⟩, a.each.up⟩⟩
theorem GuideAt.lt {h : HP} {g : Nat} {G : Gd} {L : List (Str × Int)} {P : List (Str × Fm)} {lg : Nat → Int} {E : List EF} (a : GuideAt h g G L P lg E) {t : Nat} (ht : h.length ≤ t) : t ≠ g ∧ t ≠ G.a1 ∧ t ≠ G.a2 ∧ t ≠ G.a3 ∧ t ≠ G.a4 ∧ t ≠ G.a5 ∧ t ∉ G.refs := by
  have h1 := (List.getElem?_eq_some_iff.mp a.ob).1
  have h2 := (List.getElem?_eq_some_iff.mp a.forms).1
  have h3 := (List.getElem?_eq_some_iff.mp a.nums).1
  have h4 := (List.getElem?_eq_some_iff.mp a.lims).1
  have h5 := (List.getElem?_eq_some_iff.mp a.lens).1
  have h6 := (List.getElem?_eq_some_iff.mp a.ends).1
  refine ⟨by omega, by omega, by omega, by omega, by omega, by omega, fun hm => ?_⟩
  obtain ⟨k, hk⟩ := List.mem_iff_getElem?.mp hm
  have := (List.getElem?_eq_some_iff.mp (a.each.each k t hk).1).1
  omega
/-- numbers of names, put into a dict that stands somewhere -/
theorem put_nums {α : Type} {h : HP} {C : Ctx} {g2 : Tg} {b : MS} {r d : Nat} (f : α → D) (nm : α → Str) {xs : List α} (nd : (xs.map nm).Nodup) (l : xs.length ≤ 500) (Ev_ : Option D → Option D → Ev) (g : h[r]? = some (.lst (xs.map f))) (rd : r ≠ d) (gd : h[d]? = some (.dic [])) (fu : 1000 < C.fuel)
    (hg : ∀ x2 x3 (j : Nat) x, ∃ y2 y3, g2 (Ev_ x2 x3) (.tup [.int (j : Int), f x]) = some (Ev_ y2 y3) ∧ ∀ h' : HP, Kx d h h' → ∀ kvs, h'[d]? = some (.dic kvs) → kvs.length < 1000 → b C (Ev_ y2 y3) h' = .ok (.nx (Ev_ y2 y3)) (h'.set d (.dic (putKD kvs (.inr (nm x)) (.int (j : Int)))))) {x2 x3 : Option D} :
    ∃ h' y2 y3, forN (itE r) g2 b C.fuel 0 C (Ev_ x2 x3) h = .ok (.nx (Ev_ y2 y3)) h' ∧ Kx d h h' ∧ h'[d]? = some (.dic (numD 0 (xs.map nm))) := by
  obtain ⟨e2, h2, F, y2, y3, rfl, k, gd2⟩ := for_enum (i := r) (g := g2) (b := b) (C := C) f xs
    (fun j e h' => ∃ x2 x3, e = Ev_ x2 x3 ∧ Kx d h h' ∧ h'[d]? = some (.dic (numD 0 ((xs.map nm).take j))))
    (fun j e h' ⟨x2, x3, e1, k, _⟩ => k _ _ rd g)
    (fun j x e h' q ⟨x2, x3, e1, k, gd⟩ => by
      subst e1
      have jl := (List.getElem?_eq_some_iff.mp q).1
      have q2 : (xs.map nm)[j]? = some (nm x) := by rw [List.getElem?_map, q]; rfl
      have hn := nodup_take_snoc nd q2
      have tl : ((xs.map nm).take j).length = j := by rw [List.length_take, List.length_map]; omega
      obtain ⟨y2, y3, e2, bb⟩ := hg x2 x3 j x
      have pu := numD_put hn
      rw [tl] at pu
      have bb := bb h' k _ gd (by rw [numD_len, tl]; omega)
      rw [pu] at bb
      exact ⟨_, e2, _, _, .inl bb, _, _, rfl, k.set, by rw [take_snoc q2]; exact getset_same gd⟩)
    (e := Ev_ x2 x3) (h := h) ⟨_, _, rfl, Kx.refl, by rw [gd]; simp [numD]⟩ (fuel := C.fuel) (by omega)
  rw [List.take_of_length_le (by simp)] at gd2
  exact ⟨h2, y2, y3, F, k, gd2⟩
theorem init_run {h : HP} {C : Ctx} {L : List (Str × Int)} {P : List (Str × Fm)} {lg : Nat → Int} (o : BkOk L P) (fu : 1000 < C.fuel) {a b g : Nat} (ga : h[a]? = some (.lst (L.map limbD))) (gb : h[b]? = some (.lst (P.map partD))) (gg : h[g]? = some (.ins 1 []))
    (c72 : ∀ h : HP, h[a]? = some (.lst (L.map limbD)) → h[b]? = some (.lst (P.map partD)) → ∃ h' t, C.call 72 [.tup [.ref a, .ref b]] h = .ok (.ref t) h' ∧ Kp h h' ∧ h.length ≤ t ∧ h'[t]? = some (.lst ((lgL P lg).map D.int)))
    (c76 : ∀ h : HP, h[a]? = some (.lst (L.map limbD)) → h[b]? = some (.lst (P.map partD)) → ∃ h' t refs E, C.call 76 [.tup [.ref a, .ref b]] h = .ok (.ref t) h' ∧ Kp h h' ∧ h.length ≤ t ∧ h'[t]? = some (.lst (refs.map D.ref)) ∧ TL h.length h' refs (E.map (eL L.length)) ∧ EnOk L P P.length E ∧ t ∉ refs) :
    ∃ h' G E, runFn C f_m_Guide_init [.ref g, .tup [.ref a, .ref b]] h = .ok .non h' ∧ Kx g h h' ∧ GuideAt h' g G L P lg E ∧ EnOk L P P.length E := by
  have op := o.p1
  have ol := o.l1
  have gl := (List.getElem?_eq_some_iff.mp gg).1
  have ag : a ≠ g := fun e => by rw [e, gg] at ga; cases ga
  have bg : b ≠ g := fun e => by rw [e, gg] at gb; cases gb
  have ia : ∀ h, opIx (.tup [.ref a, .ref b]) (.int 0) h = .ok (.ref a) h := fun h => g_ixt (by decide) rfl
  have ib : ∀ h, opIx (.tup [.ref a, .ref b]) (.int 1) h = .ok (.ref b) h := fun h => g_ixt (by decide) rfl
  -- forms
  have LC : eLc [5, 6] (gT [5, 6]) (iA (eOp opIx (eV 1) (eC (.int 1)))) tY (eV 6) C [some (.ref g), some (.tup [.ref a, .ref b]), none, none, none, none, none] h = .ok (.ref h.length) (h ++ [.lst (P.map fun x => x.2.d)]) := by
    refine lc_of (it := itL b) (h1 := h) (by
      have q : (eOp opIx (eV 1) (eC (.int 1))) C [some (.ref g), some (.tup [.ref a, .ref b]), none, none, none, none, none] h = .ok (.ref b) h := by (repeat' first | with_reducible exact ib _ | with_reducible exact g_v rfl | with_reducible exact g_c | with_reducible exact g_an | with_reducible exact g_add | with_reducible exact g_sub | with_reducible exact g_iadd | with_reducible exact g_lt | with_reducible exact g_le | with_reducible exact g_gt | with_reducible exact g_ge | with_reducible exact g_eq | with_reducible exact g_ne | with_reducible exact g_neg | with_reducible exact g_mul (by first | assumption | omega | decide) | with_reducible exact g_div (by first | assumption | omega | decide) (by first | assumption | omega | decide) | with_reducible exact g_mod (by first | assumption | omega | decide) | with_reducible exact g_pow (by decide) | with_reducible apply g_isint | with_reducible exact g_sk | with_reducible exact g_rn | with_reducible exact g_bk | with_reducible exact g_ct | with_reducible exact g_gn0 | with_reducible apply g_gns | with_reducible exact g_ap0 | with_reducible apply g_apS | with_reducible apply g_op | with_reducible apply g_un | with_reducible apply g_ac | with_reducible apply g_call | with_reducible apply g_calld | with_reducible apply g_bf | with_reducible apply g_sq | with_reducible apply g_kn | with_reducible exact g_kr | with_reducible exact g_kb | with_reducible exact g_kc | with_reducible apply g_as | with_reducible apply g_pr | with_reducible apply g_au rfl | with_reducible apply g_rt | with_reducible apply g_ex | with_reducible apply g_if | with_reducible apply g_tv | with_reducible apply g_tan | with_reducible apply g_tor | with_reducible apply g_tnt | with_reducible apply g_ean | with_reducible apply g_eor | with_reducible apply g_ent | with_reducible apply g_eif | with_reducible apply g_iftt | with_reducible apply g_iffn | with_reducible apply g_ifff | with_reducible apply g_iftn | with_reducible refine g_ift (by first | assumption | omega | decide) ?_ | with_reducible refine g_iff (by first | assumption | omega | decide) ?_ | with_reducible refine g_ifnt (by first | assumption | omega | decide) ?_ | with_reducible refine g_ifnf (by first | assumption | omega | decide) ?_ | with_reducible exact rfl | with_reducible exact g_eqs | with_reducible exact g_nes | with_reducible exact g_neni | with_reducible exact g_nein | with_reducible exact g_nenn | with_reducible exact g_isn | with_reducible exact g_isi | with_reducible exact g_nsn | with_reducible exact g_nsi | with_reducible exact g_max | with_reducible exact g_max3 | with_reducible exact g_min | with_reducible exact g_intb | with_reducible apply g_gt2 | with_reducible apply g_gt3 | with_reducible apply g_tup | with_reducible apply g_lst | with_reducible exact lenOk rfl | with_reducible exact g_on | with_reducible apply g_os | with_reducible apply g_sl | with_reducible apply g_bkm | with_reducible exact g_okS )
      unfold iA; rw [q]; simp only [Z.R.bind_ok, isL_of gb]) ?_
    exact cmp_map partD _ (fun i x q => itL_at gb q) (itL_end gb) (fun x _ => ⟨_, rfl, rfl⟩) (by omega) fu
  obtain ⟨h1, hh1⟩ : ∃ h1, h1 = h ++ [O.lst (P.map fun x => x.2.d)] := ⟨_, rfl⟩
  rw [← hh1] at LC
  have k1 : Kp h h1 := by rw [hh1]; exact Kp.app
  have S1 := g_fls (C := C) (f := "forms") (cs := [1]) (o := eV 0) LC (g_v (d := .ref g) rfl) (k1 _ _ gg) (by decide) (by decide)
  obtain ⟨h2, hh2⟩ : ∃ h2, h2 = h1.set g (.ins 1 (putD "forms" (.ref h.length) [])) := ⟨_, rfl⟩
  rw [← hh2] at S1
  have x2 : Kx g h h2 := by rw [hh2]; exact k1.kx.set
  have g2 : h2[g]? = some (.ins 1 [("forms", .ref h.length)]) := by rw [hh2]; exact getset_same (k1 _ _ gg)
  have l2 : h2.length = h.length + 1 := by rw [hh2, List.length_set, hh1]; simp
  have f2 : h2[h.length]? = some (.lst (P.map fun x => x.2.d)) := by rw [hh2]; exact getset (by omega) (by rw [hh1]; exact get_new)
  -- numbers
  have dk : ∀ (e : Ev) (h : HP), eDiK C e h = .ok (.ref h.length) (h ++ [.dic []]) := fun e h => rfl
  have S2 := g_fls (C := C) (f := "numbers") (cs := [1]) (o := eV 0) (e := [some (.ref g), some (.tup [.ref a, .ref b]), none, none, none, none, none]) (dk _ h2) (g_v (d := .ref g) rfl) (get_app (t := [.dic []]) g2) (by decide) (by simp)
  obtain ⟨h3, hh3⟩ : ∃ h3, h3 = (h2 ++ [O.dic []]).set g (.ins 1 (putD "numbers" (.ref h2.length) [("forms", .ref h.length)])) := ⟨_, rfl⟩
  rw [← hh3] at S2
  have x3 : Kx g h2 h3 := by rw [hh3]; exact Kp.app.kx.set
  have g3 : h3[g]? = some (.ins 1 [("forms", .ref h.length), ("numbers", .ref h2.length)]) := by rw [hh3]; exact getset_same (get_app g2)
  have l3 : h3.length = h2.length + 1 := by rw [hh3, List.length_set]; simp
  have d3 : h3[h2.length]? = some (.dic []) := by rw [hh3]; exact getset (by omega) get_new
  have gb3 := x3 _ _ bg (x2 _ _ bg gb)
  have bl := (List.getElem?_eq_some_iff.mp gb).1
  have al := (List.getElem?_eq_some_iff.mp ga).1
  obtain ⟨h4, y2, y3, F1, x4, d4⟩ := put_nums (C := C) (g2 := gT [2, 3]) (b := b_m_Guide_init_1) (r := b) (d := h2.length) partD (fun x => x.1) o.pn (by omega) (fun y2 y3 => [some (.ref g), some (.tup [.ref a, .ref b]), y2, y3, none, none, none]) gb3 (by omega) d3 fu
    (fun z2 z3 j x => ⟨some (.int (j : Int)), some (partD x), by (repeat' first | with_reducible exact g_v rfl | with_reducible exact g_c | with_reducible exact g_an | with_reducible exact g_add | with_reducible exact g_sub | with_reducible exact g_iadd | with_reducible exact g_lt | with_reducible exact g_le | with_reducible exact g_gt | with_reducible exact g_ge | with_reducible exact g_eq | with_reducible exact g_ne | with_reducible exact g_neg | with_reducible exact g_mul (by first | assumption | omega | decide) | with_reducible exact g_div (by first | assumption | omega | decide) (by first | assumption | omega | decide) | with_reducible exact g_mod (by first | assumption | omega | decide) | with_reducible exact g_pow (by decide) | with_reducible apply g_isint | with_reducible exact g_sk | with_reducible exact g_rn | with_reducible exact g_bk | with_reducible exact g_ct | with_reducible exact g_gn0 | with_reducible apply g_gns | with_reducible exact g_ap0 | with_reducible apply g_apS | with_reducible apply g_op | with_reducible apply g_un | with_reducible apply g_ac | with_reducible apply g_call | with_reducible apply g_calld | with_reducible apply g_bf | with_reducible apply g_sq | with_reducible apply g_kn | with_reducible exact g_kr | with_reducible exact g_kb | with_reducible exact g_kc | with_reducible apply g_as | with_reducible apply g_pr | with_reducible apply g_au rfl | with_reducible apply g_rt | with_reducible apply g_ex | with_reducible apply g_if | with_reducible apply g_tv | with_reducible apply g_tan | with_reducible apply g_tor | with_reducible apply g_tnt | with_reducible apply g_ean | with_reducible apply g_eor | with_reducible apply g_ent | with_reducible apply g_eif | with_reducible apply g_iftt | with_reducible apply g_iffn | with_reducible apply g_ifff | with_reducible apply g_iftn | with_reducible refine g_ift (by first | assumption | omega | decide) ?_ | with_reducible refine g_iff (by first | assumption | omega | decide) ?_ | with_reducible refine g_ifnt (by first | assumption | omega | decide) ?_ | with_reducible refine g_ifnf (by first | assumption | omega | decide) ?_ | with_reducible exact rfl | with_reducible exact g_eqs | with_reducible exact g_nes | with_reducible exact g_neni | with_reducible exact g_nein | with_reducible exact g_nenn | with_reducible exact g_isn | with_reducible exact g_isi | with_reducible exact g_nsn | with_reducible exact g_nsi | with_reducible exact g_max | with_reducible exact g_max3 | with_reducible exact g_min | with_reducible exact g_intb | with_reducible apply g_gt2 | with_reducible apply g_gt3 | with_reducible apply g_tup | with_reducible apply g_lst | with_reducible exact lenOk rfl | with_reducible exact g_on | with_reducible apply g_os | with_reducible apply g_sl | with_reducible apply g_bkm | with_reducible exact g_okS ), fun h' kx kvs gd hl => by
      have ob := kx g _ (by omega) g3
      have st := g_stD (y := x.1) (v := .int (j : Int)) gd hl
      unfold b_m_Guide_init_1
      exact g_st (g_v rfl) (g_fld (g_v (d := .ref g) rfl) ob (by decide) rfl) (g_op (g_v rfl) g_c ix_part) st⟩) (x2 := none) (x3 := none)
  have F1 := fo_of (g := gT [2, 3]) (mi := iEn (eOp opIx (eV 1) (eC (.int 1)))) (e := [some (.ref g), some (.tup [.ref a, .ref b]), none, none, none, none, none]) (h := h3) (h1 := h3) (it := itE b) (by
    have q : (eOp opIx (eV 1) (eC (.int 1))) C [some (.ref g), some (.tup [.ref a, .ref b]), none, none, none, none, none] h3 = .ok (.ref b) h3 := by (repeat' first | with_reducible exact ib _ | with_reducible exact g_v rfl | with_reducible exact g_c | with_reducible exact g_an | with_reducible exact g_add | with_reducible exact g_sub | with_reducible exact g_iadd | with_reducible exact g_lt | with_reducible exact g_le | with_reducible exact g_gt | with_reducible exact g_ge | with_reducible exact g_eq | with_reducible exact g_ne | with_reducible exact g_neg | with_reducible exact g_mul (by first | assumption | omega | decide) | with_reducible exact g_div (by first | assumption | omega | decide) (by first | assumption | omega | decide) | with_reducible exact g_mod (by first | assumption | omega | decide) | with_reducible exact g_pow (by decide) | with_reducible apply g_isint | with_reducible exact g_sk | with_reducible exact g_rn | with_reducible exact g_bk | with_reducible exact g_ct | with_reducible exact g_gn0 | with_reducible apply g_gns | with_reducible exact g_ap0 | with_reducible apply g_apS | with_reducible apply g_op | with_reducible apply g_un | with_reducible apply g_ac | with_reducible apply g_call | with_reducible apply g_calld | with_reducible apply g_bf | with_reducible apply g_sq | with_reducible apply g_kn | with_reducible exact g_kr | with_reducible exact g_kb | with_reducible exact g_kc | with_reducible apply g_as | with_reducible apply g_pr | with_reducible apply g_au rfl | with_reducible apply g_rt | with_reducible apply g_ex | with_reducible apply g_if | with_reducible apply g_tv | with_reducible apply g_tan | with_reducible apply g_tor | with_reducible apply g_tnt | with_reducible apply g_ean | with_reducible apply g_eor | with_reducible apply g_ent | with_reducible apply g_eif | with_reducible apply g_iftt | with_reducible apply g_iffn | with_reducible apply g_ifff | with_reducible apply g_iftn | with_reducible refine g_ift (by first | assumption | omega | decide) ?_ | with_reducible refine g_iff (by first | assumption | omega | decide) ?_ | with_reducible refine g_ifnt (by first | assumption | omega | decide) ?_ | with_reducible refine g_ifnf (by first | assumption | omega | decide) ?_ | with_reducible exact rfl | with_reducible exact g_eqs | with_reducible exact g_nes | with_reducible exact g_neni | with_reducible exact g_nein | with_reducible exact g_nenn | with_reducible exact g_isn | with_reducible exact g_isi | with_reducible exact g_nsn | with_reducible exact g_nsi | with_reducible exact g_max | with_reducible exact g_max3 | with_reducible exact g_min | with_reducible exact g_intb | with_reducible apply g_gt2 | with_reducible apply g_gt3 | with_reducible apply g_tup | with_reducible apply g_lst | with_reducible exact lenOk rfl | with_reducible exact g_on | with_reducible apply g_os | with_reducible apply g_sl | with_reducible apply g_bkm | with_reducible exact g_okS )
    unfold iEn; rw [q]; simp only [Z.R.bind_ok, isL_of gb3]) F1
  have g4 := x4 g _ (by omega) g3
  have l34 : h3.length ≤ h4.length := by
    have := (List.getElem?_eq_some_iff.mp d4).1
    have := (List.getElem?_eq_some_iff.mp g4).1
    omega
  -- limbs
  have S3 := g_fls (C := C) (f := "limbs") (cs := [1]) (o := eV 0) (e := [some (.ref g), some (.tup [.ref a, .ref b]), y2, y3, none, none, none]) (dk _ h4) (g_v (d := .ref g) rfl) (get_app (t := [.dic []]) g4) (by decide) (by simp)
  obtain ⟨h5, hh5⟩ : ∃ h5, h5 = (h4 ++ [O.dic []]).set g (.ins 1 (putD "limbs" (.ref h4.length) [("forms", .ref h.length), ("numbers", .ref h2.length)])) := ⟨_, rfl⟩
  rw [← hh5] at S3
  have x5 : Kx g h4 h5 := by rw [hh5]; exact Kp.app.kx.set
  have g5 : h5[g]? = some (.ins 1 [("forms", .ref h.length), ("numbers", .ref h2.length), ("limbs", .ref h4.length)]) := by rw [hh5]; exact getset_same (get_app g4)
  have l5 : h5.length = h4.length + 1 := by rw [hh5, List.length_set]; simp
  have d5 : h5[h4.length]? = some (.dic []) := by rw [hh5]; exact getset (by omega) get_new
  have ga5 := x5 _ _ ag (x4 _ _ (by omega) (x3 _ _ ag (x2 _ _ ag ga)))
  obtain ⟨h6, z2, z4, F2, x6, d6⟩ := put_nums (C := C) (g2 := gT [2, 4]) (b := b_m_Guide_init_2) (r := a) (d := h4.length) limbD (fun x => x.1) o.ln (by omega) (fun w2 w4 => [some (.ref g), some (.tup [.ref a, .ref b]), w2, y3, w4, none, none]) ga5 (by omega) d5 fu
    (fun w2 w4 j x => ⟨some (.int (j : Int)), some (limbD x), by (repeat' first | with_reducible exact g_v rfl | with_reducible exact g_c | with_reducible exact g_an | with_reducible exact g_add | with_reducible exact g_sub | with_reducible exact g_iadd | with_reducible exact g_lt | with_reducible exact g_le | with_reducible exact g_gt | with_reducible exact g_ge | with_reducible exact g_eq | with_reducible exact g_ne | with_reducible exact g_neg | with_reducible exact g_mul (by first | assumption | omega | decide) | with_reducible exact g_div (by first | assumption | omega | decide) (by first | assumption | omega | decide) | with_reducible exact g_mod (by first | assumption | omega | decide) | with_reducible exact g_pow (by decide) | with_reducible apply g_isint | with_reducible exact g_sk | with_reducible exact g_rn | with_reducible exact g_bk | with_reducible exact g_ct | with_reducible exact g_gn0 | with_reducible apply g_gns | with_reducible exact g_ap0 | with_reducible apply g_apS | with_reducible apply g_op | with_reducible apply g_un | with_reducible apply g_ac | with_reducible apply g_call | with_reducible apply g_calld | with_reducible apply g_bf | with_reducible apply g_sq | with_reducible apply g_kn | with_reducible exact g_kr | with_reducible exact g_kb | with_reducible exact g_kc | with_reducible apply g_as | with_reducible apply g_pr | with_reducible apply g_au rfl | with_reducible apply g_rt | with_reducible apply g_ex | with_reducible apply g_if | with_reducible apply g_tv | with_reducible apply g_tan | with_reducible apply g_tor | with_reducible apply g_tnt | with_reducible apply g_ean | with_reducible apply g_eor | with_reducible apply g_ent | with_reducible apply g_eif | with_reducible apply g_iftt | with_reducible apply g_iffn | with_reducible apply g_ifff | with_reducible apply g_iftn | with_reducible refine g_ift (by first | assumption | omega | decide) ?_ | with_reducible refine g_iff (by first | assumption | omega | decide) ?_ | with_reducible refine g_ifnt (by first | assumption | omega | decide) ?_ | with_reducible refine g_ifnf (by first | assumption | omega | decide) ?_ | with_reducible exact rfl | with_reducible exact g_eqs | with_reducible exact g_nes | with_reducible exact g_neni | with_reducible exact g_nein | with_reducible exact g_nenn | with_reducible exact g_isn | with_reducible exact g_isi | with_reducible exact g_nsn | with_reducible exact g_nsi | with_reducible exact g_max | with_reducible exact g_max3 | with_reducible exact g_min | with_reducible exact g_intb | with_reducible apply g_gt2 | with_reducible apply g_gt3 | with_reducible apply g_tup | with_reducible apply g_lst | with_reducible exact lenOk rfl | with_reducible exact g_on | with_reducible apply g_os | with_reducible apply g_sl | with_reducible apply g_bkm | with_reducible exact g_okS ), fun h' kx kvs gd hl => by
      have ob := kx g _ (by omega) g5
      have st := g_stD (y := x.1) (v := .int (j : Int)) gd hl
      unfold b_m_Guide_init_2
      exact g_st (g_v rfl) (g_fld (g_v (d := .ref g) rfl) ob (by decide) rfl) (g_op (g_v rfl) g_c ix_limb) st⟩) (x2 := y2) (x3 := none)
  have F2 := fo_of (g := gT [2, 4]) (mi := iEn (eOp opIx (eV 1) (eC (.int 0)))) (e := [some (.ref g), some (.tup [.ref a, .ref b]), y2, y3, none, none, none]) (h := h5) (h1 := h5) (it := itE a) (by
    have q : (eOp opIx (eV 1) (eC (.int 0))) C [some (.ref g), some (.tup [.ref a, .ref b]), y2, y3, none, none, none] h5 = .ok (.ref a) h5 := by (repeat' first | with_reducible exact ia _ | with_reducible exact g_v rfl | with_reducible exact g_c | with_reducible exact g_an | with_reducible exact g_add | with_reducible exact g_sub | with_reducible exact g_iadd | with_reducible exact g_lt | with_reducible exact g_le | with_reducible exact g_gt | with_reducible exact g_ge | with_reducible exact g_eq | with_reducible exact g_ne | with_reducible exact g_neg | with_reducible exact g_mul (by first | assumption | omega | decide) | with_reducible exact g_div (by first | assumption | omega | decide) (by first | assumption | omega | decide) | with_reducible exact g_mod (by first | assumption | omega | decide) | with_reducible exact g_pow (by decide) | with_reducible apply g_isint | with_reducible exact g_sk | with_reducible exact g_rn | with_reducible exact g_bk | with_reducible exact g_ct | with_reducible exact g_gn0 | with_reducible apply g_gns | with_reducible exact g_ap0 | with_reducible apply g_apS | with_reducible apply g_op | with_reducible apply g_un | with_reducible apply g_ac | with_reducible apply g_call | with_reducible apply g_calld | with_reducible apply g_bf | with_reducible apply g_sq | with_reducible apply g_kn | with_reducible exact g_kr | with_reducible exact g_kb | with_reducible exact g_kc | with_reducible apply g_as | with_reducible apply g_pr | with_reducible apply g_au rfl | with_reducible apply g_rt | with_reducible apply g_ex | with_reducible apply g_if | with_reducible apply g_tv | with_reducible apply g_tan | with_reducible apply g_tor | with_reducible apply g_tnt | with_reducible apply g_ean | with_reducible apply g_eor | with_reducible apply g_ent | with_reducible apply g_eif | with_reducible apply g_iftt | with_reducible apply g_iffn | with_reducible apply g_ifff | with_reducible apply g_iftn | with_reducible refine g_ift (by first | assumption | omega | decide) ?_ | with_reducible refine g_iff (by first | assumption | omega | decide) ?_ | with_reducible refine g_ifnt (by first | assumption | omega | decide) ?_ | with_reducible refine g_ifnf (by first | assumption | omega | decide) ?_ | with_reducible exact rfl | with_reducible exact g_eqs | with_reducible exact g_nes | with_reducible exact g_neni | with_reducible exact g_nein | with_reducible exact g_nenn | with_reducible exact g_isn | with_reducible exact g_isi | with_reducible exact g_nsn | with_reducible exact g_nsi | with_reducible exact g_max | with_reducible exact g_max3 | with_reducible exact g_min | with_reducible exact g_intb | with_reducible apply g_gt2 | with_reducible apply g_gt3 | with_reducible apply g_tup | with_reducible apply g_lst | with_reducible exact lenOk rfl | with_reducible exact g_on | with_reducible apply g_os | with_reducible apply g_sl | with_reducible apply g_bkm | with_reducible exact g_okS )
    unfold iEn; rw [q]; simp only [Z.R.bind_ok, isL_of ga5]) F2
  have g6 := x6 g _ (by omega) g5
  have kx6 : ∀ i o, i ≠ g → h[i]? = some o → h6[i]? = some o := fun i o n q => by
    have := (List.getElem?_eq_some_iff.mp q).1
    exact x6 _ _ (by omega) (x5 _ _ n (x4 _ _ (by omega) (x3 _ _ n (x2 _ _ n q))))
  -- lengths
  obtain ⟨h7, t7, cl, k7, lt7, g7t⟩ := c72 h6 (kx6 _ _ ag ga) (kx6 _ _ bg gb)
  have g7 := k7 _ _ g6
  have A4 : eCall 72 (aC (eV 1) aN) [] C [some (.ref g), some (.tup [.ref a, .ref b]), z2, y3, z4, none, none] h6 = .ok (.ref t7) h7 := by (repeat' first | with_reducible exact cl | with_reducible exact g_v rfl | with_reducible exact g_c | with_reducible exact g_an | with_reducible exact g_add | with_reducible exact g_sub | with_reducible exact g_iadd | with_reducible exact g_lt | with_reducible exact g_le | with_reducible exact g_gt | with_reducible exact g_ge | with_reducible exact g_eq | with_reducible exact g_ne | with_reducible exact g_neg | with_reducible exact g_mul (by first | assumption | omega | decide) | with_reducible exact g_div (by first | assumption | omega | decide) (by first | assumption | omega | decide) | with_reducible exact g_mod (by first | assumption | omega | decide) | with_reducible exact g_pow (by decide) | with_reducible apply g_isint | with_reducible exact g_sk | with_reducible exact g_rn | with_reducible exact g_bk | with_reducible exact g_ct | with_reducible exact g_gn0 | with_reducible apply g_gns | with_reducible exact g_ap0 | with_reducible apply g_apS | with_reducible apply g_op | with_reducible apply g_un | with_reducible apply g_ac | with_reducible apply g_call | with_reducible apply g_calld | with_reducible apply g_bf | with_reducible apply g_sq | with_reducible apply g_kn | with_reducible exact g_kr | with_reducible exact g_kb | with_reducible exact g_kc | with_reducible apply g_as | with_reducible apply g_pr | with_reducible apply g_au rfl | with_reducible apply g_rt | with_reducible apply g_ex | with_reducible apply g_if | with_reducible apply g_tv | with_reducible apply g_tan | with_reducible apply g_tor | with_reducible apply g_tnt | with_reducible apply g_ean | with_reducible apply g_eor | with_reducible apply g_ent | with_reducible apply g_eif | with_reducible apply g_iftt | with_reducible apply g_iffn | with_reducible apply g_ifff | with_reducible apply g_iftn | with_reducible refine g_ift (by first | assumption | omega | decide) ?_ | with_reducible refine g_iff (by first | assumption | omega | decide) ?_ | with_reducible refine g_ifnt (by first | assumption | omega | decide) ?_ | with_reducible refine g_ifnf (by first | assumption | omega | decide) ?_ | with_reducible exact rfl | with_reducible exact g_eqs | with_reducible exact g_nes | with_reducible exact g_neni | with_reducible exact g_nein | with_reducible exact g_nenn | with_reducible exact g_isn | with_reducible exact g_isi | with_reducible exact g_nsn | with_reducible exact g_nsi | with_reducible exact g_max | with_reducible exact g_max3 | with_reducible exact g_min | with_reducible exact g_intb | with_reducible apply g_gt2 | with_reducible apply g_gt3 | with_reducible apply g_tup | with_reducible apply g_lst | with_reducible exact lenOk rfl | with_reducible exact g_on | with_reducible apply g_os | with_reducible apply g_sl | with_reducible apply g_bkm | with_reducible exact g_okS )
  have S4 := g_fls (C := C) (f := "lengths") (cs := [1]) (o := eV 0) (e := [some (.ref g), some (.tup [.ref a, .ref b]), z2, y3, z4, none, none]) A4 (g_v (d := .ref g) rfl) g7 (by decide) (by simp)
  obtain ⟨h8, hh8⟩ : ∃ h8, h8 = h7.set g (.ins 1 (putD "lengths" (.ref t7) [("forms", .ref h.length), ("numbers", .ref h2.length), ("limbs", .ref h4.length)])) := ⟨_, rfl⟩
  rw [← hh8] at S4
  have x8 : Kx g h7 h8 := by rw [hh8]; exact Kx.refl.set
  have g8 : h8[g]? = some (.ins 1 [("forms", .ref h.length), ("numbers", .ref h2.length), ("limbs", .ref h4.length), ("lengths", .ref t7)]) := by rw [hh8]; exact getset_same g7
  have g6l := (List.getElem?_eq_some_iff.mp g6).1
  -- ends
  obtain ⟨h9, t9, refs, E, ce, k9, lt9, g9t, tl9, en, nt9⟩ := c76 h8 (x8 _ _ ag (k7 _ _ (kx6 _ _ ag ga))) (x8 _ _ bg (k7 _ _ (kx6 _ _ bg gb)))
  have g9 := k9 _ _ g8
  have A5 : eCall 76 (aC (eV 1) aN) [] C [some (.ref g), some (.tup [.ref a, .ref b]), z2, y3, z4, none, none] h8 = .ok (.ref t9) h9 := by (repeat' first | with_reducible exact ce | with_reducible exact g_v rfl | with_reducible exact g_c | with_reducible exact g_an | with_reducible exact g_add | with_reducible exact g_sub | with_reducible exact g_iadd | with_reducible exact g_lt | with_reducible exact g_le | with_reducible exact g_gt | with_reducible exact g_ge | with_reducible exact g_eq | with_reducible exact g_ne | with_reducible exact g_neg | with_reducible exact g_mul (by first | assumption | omega | decide) | with_reducible exact g_div (by first | assumption | omega | decide) (by first | assumption | omega | decide) | with_reducible exact g_mod (by first | assumption | omega | decide) | with_reducible exact g_pow (by decide) | with_reducible apply g_isint | with_reducible exact g_sk | with_reducible exact g_rn | with_reducible exact g_bk | with_reducible exact g_ct | with_reducible exact g_gn0 | with_reducible apply g_gns | with_reducible exact g_ap0 | with_reducible apply g_apS | with_reducible apply g_op | with_reducible apply g_un | with_reducible apply g_ac | with_reducible apply g_call | with_reducible apply g_calld | with_reducible apply g_bf | with_reducible apply g_sq | with_reducible apply g_kn | with_reducible exact g_kr | with_reducible exact g_kb | with_reducible exact g_kc | with_reducible apply g_as | with_reducible apply g_pr | with_reducible apply g_au rfl | with_reducible apply g_rt | with_reducible apply g_ex | with_reducible apply g_if | with_reducible apply g_tv | with_reducible apply g_tan | with_reducible apply g_tor | with_reducible apply g_tnt | with_reducible apply g_ean | with_reducible apply g_eor | with_reducible apply g_ent | with_reducible apply g_eif | with_reducible apply g_iftt | with_reducible apply g_iffn | with_reducible apply g_ifff | with_reducible apply g_iftn | with_reducible refine g_ift (by first | assumption | omega | decide) ?_ | with_reducible refine g_iff (by first | assumption | omega | decide) ?_ | with_reducible refine g_ifnt (by first | assumption | omega | decide) ?_ | with_reducible refine g_ifnf (by first | assumption | omega | decide) ?_ | with_reducible exact rfl | with_reducible exact g_eqs | with_reducible exact g_nes | with_reducible exact g_neni | with_reducible exact g_nein | with_reducible exact g_nenn | with_reducible exact g_isn | with_reducible exact g_isi | with_reducible exact g_nsn | with_reducible exact g_nsi | with_reducible exact g_max | with_reducible exact g_max3 | with_reducible exact g_min | with_reducible exact g_intb | with_reducible apply g_gt2 | with_reducible apply g_gt3 | with_reducible apply g_tup | with_reducible apply g_lst | with_reducible exact lenOk rfl | with_reducible exact g_on | with_reducible apply g_os | with_reducible apply g_sl | with_reducible apply g_bkm | with_reducible exact g_okS )
  have S5 := g_fls (C := C) (f := "ends") (cs := [1]) (o := eV 0) (e := [some (.ref g), some (.tup [.ref a, .ref b]), z2, y3, z4, none, none]) A5 (g_v (d := .ref g) rfl) g9 (by decide) (by simp)
  obtain ⟨h10, hh10⟩ : ∃ h10, h10 = h9.set g (.ins 1 (putD "ends" (.ref t9) [("forms", .ref h.length), ("numbers", .ref h2.length), ("limbs", .ref h4.length), ("lengths", .ref t7)])) := ⟨_, rfl⟩
  rw [← hh10] at S5
  have x10 : Kx g h9 h10 := by rw [hh10]; exact Kx.refl.set
  have g8l := (List.getElem?_eq_some_iff.mp g8).1
  have d6l := (List.getElem?_eq_some_iff.mp d6).1
  have end_ : ∀ i o, i ≠ g → h6[i]? = some o → h10[i]? = some o := fun i o n q => x10 _ _ n (k9 _ _ (x8 _ _ n (k7 _ _ q)))
  refine ⟨h10, ⟨h.length, h2.length, h4.length, t7, t9, refs⟩, E, ?_, fun i o n q => end_ _ _ n (kx6 _ _ n q), ⟨?_, ?_, ?_, ?_, ?_, ?_, ?_⟩, en⟩
  · apply run_nx (e' := [some (.ref g), some (.tup [.ref a, .ref b]), none, none, none, none, none]) rfl rfl
    (repeat' first | with_reducible exact S1 | with_reducible exact S2 | with_reducible exact F1 | with_reducible exact S3 | with_reducible exact F2 | with_reducible exact S4 | with_reducible exact S5 | with_reducible exact g_v rfl | with_reducible exact g_c | with_reducible exact g_an | with_reducible exact g_add | with_reducible exact g_sub | with_reducible exact g_iadd | with_reducible exact g_lt | with_reducible exact g_le | with_reducible exact g_gt | with_reducible exact g_ge | with_reducible exact g_eq | with_reducible exact g_ne | with_reducible exact g_neg | with_reducible exact g_mul (by first | assumption | omega | decide) | with_reducible exact g_div (by first | assumption | omega | decide) (by first | assumption | omega | decide) | with_reducible exact g_mod (by first | assumption | omega | decide) | with_reducible exact g_pow (by decide) | with_reducible apply g_isint | with_reducible exact g_sk | with_reducible exact g_rn | with_reducible exact g_bk | with_reducible exact g_ct | with_reducible exact g_gn0 | with_reducible apply g_gns | with_reducible exact g_ap0 | with_reducible apply g_apS | with_reducible apply g_op | with_reducible apply g_un | with_reducible apply g_ac | with_reducible apply g_call | with_reducible apply g_calld | with_reducible apply g_bf | with_reducible apply g_sq | with_reducible apply g_kn | with_reducible exact g_kr | with_reducible exact g_kb | with_reducible exact g_kc | with_reducible apply g_as | with_reducible apply g_pr | with_reducible apply g_au rfl | with_reducible apply g_rt | with_reducible apply g_ex | with_reducible apply g_if | with_reducible apply g_tv | with_reducible apply g_tan | with_reducible apply g_tor | with_reducible apply g_tnt | with_reducible apply g_ean | with_reducible apply g_eor | with_reducible apply g_ent | with_reducible apply g_eif | with_reducible apply g_iftt | with_reducible apply g_iffn | with_reducible apply g_ifff | with_reducible apply g_iftn | with_reducible refine g_ift (by first | assumption | omega | decide) ?_ | with_reducible refine g_iff (by first | assumption | omega | decide) ?_ | with_reducible refine g_ifnt (by first | assumption | omega | decide) ?_ | with_reducible refine g_ifnf (by first | assumption | omega | decide) ?_ | with_reducible exact rfl | with_reducible exact g_eqs | with_reducible exact g_nes | with_reducible exact g_neni | with_reducible exact g_nein | with_reducible exact g_nenn | with_reducible exact g_isn | with_reducible exact g_isi | with_reducible exact g_nsn | with_reducible exact g_nsi | with_reducible exact g_max | with_reducible exact g_max3 | with_reducible exact g_min | with_reducible exact g_intb | with_reducible apply g_gt2 | with_reducible apply g_gt3 | with_reducible apply g_tup | with_reducible apply g_lst | with_reducible exact lenOk rfl | with_reducible exact g_on | with_reducible apply g_os | with_reducible apply g_sl | with_reducible apply g_bkm | with_reducible exact g_okS )
  · rw [hh10]; exact getset_same g9
  · show h10[h.length]? = _
    exact end_ _ _ (by omega) (x6 _ _ (by omega) (x5 _ _ (by omega) (x4 _ _ (by omega) (x3 _ _ (by omega) f2))))
  · show h10[h2.length]? = _
    exact end_ _ _ (by omega) (x6 _ _ (by omega) (x5 _ _ (by omega) d4))
  · show h10[h4.length]? = _
    exact end_ _ _ (by omega) d6
  · show h10[t7]? = _
    exact x10 _ _ (by omega) (k9 _ _ (x8 _ _ (by omega) g7t))
  · show h10[t9]? = _
    exact x10 _ _ (by omega) g9t
  · refine ⟨tl9.len, fun k i q => ⟨x10 _ _ ?_ (tl9.each k i q).1, Nat.zero_le _⟩, tl9.up⟩
    have := (tl9.each k i q).2
    omega
/-! a guide of a book: look_at, leave; a part that names none -/
theorem look_at_run {h : HP} {C : Ctx} {g : Nat} {G : Gd} {L : List (Str × Int)} {P : List (Str × Fm)} {lg : Nat → Int} {E : List EF} (a : GuideAt h g G L P lg E) (p1 : 1 ≤ P.length) {beat : Int} (b0 : 0 ≤ beat) (b1 : beat ≤ lg (P.length - 1)) :
    runFn C f_m_Guide_look_at [.ref g, .int beat] h = .ok (.bl (decide (beat = lg (P.length - 1)))) h := by
  have fl : ∀ e : Ev, e[0]? = some (some (.ref g)) → eFld [1] (eV 0) "lengths" C e h = .ok (.ref G.a4) h := fun e q => g_fld (g_v q) a.ob (by decide) rfl
  have ix : opIx (.ref G.a4) (.int (-1)) h = .ok (.int (lg (P.length - 1))) h := g_ixm1 a.lens (by rw [List.length_map, lgL_len, List.getElem?_map, lgL_at (by omega)]; rfl)
  have n1 : ¬ beat < 0 := by omega
  have n2 : ¬ lg (P.length - 1) < beat := by omega
  refine run_rt rfl (by simp only [List.map_cons, List.map_nil, List.length_cons, List.length_nil, List.cons_append, List.nil_append, Nat.reduceAdd, Nat.reduceSub, List.replicate_succ, List.replicate_zero]; exact rfl) ?_
  (repeat' first | with_reducible exact fl _ rfl | with_reducible exact ix | with_reducible exact g_v rfl | with_reducible exact g_c | with_reducible exact g_an | with_reducible exact g_add | with_reducible exact g_sub | with_reducible exact g_iadd | with_reducible exact g_lt | with_reducible exact g_le | with_reducible exact g_gt | with_reducible exact g_ge | with_reducible exact g_eq | with_reducible exact g_ne | with_reducible exact g_neg | with_reducible exact g_mul (by first | assumption | omega | decide) | with_reducible exact g_div (by first | assumption | omega | decide) (by first | assumption | omega | decide) | with_reducible exact g_mod (by first | assumption | omega | decide) | with_reducible exact g_pow (by decide) | with_reducible apply g_isint | with_reducible exact g_sk | with_reducible exact g_rn | with_reducible exact g_bk | with_reducible exact g_ct | with_reducible exact g_gn0 | with_reducible apply g_gns | with_reducible exact g_ap0 | with_reducible apply g_apS | with_reducible apply g_op | with_reducible apply g_un | with_reducible apply g_ac | with_reducible apply g_call | with_reducible apply g_calld | with_reducible apply g_bf | with_reducible apply g_sq | with_reducible apply g_kn | with_reducible exact g_kr | with_reducible exact g_kb | with_reducible exact g_kc | with_reducible apply g_as | with_reducible apply g_pr | with_reducible apply g_au rfl | with_reducible apply g_rt | with_reducible apply g_ex | with_reducible apply g_if | with_reducible apply g_tv | with_reducible apply g_tan | with_reducible apply g_tor | with_reducible apply g_tnt | with_reducible apply g_ean | with_reducible apply g_eor | with_reducible apply g_ent | with_reducible apply g_eif | with_reducible apply g_iftt | with_reducible apply g_iffn | with_reducible apply g_ifff | with_reducible apply g_iftn | with_reducible refine g_ift (by first | assumption | omega | decide) ?_ | with_reducible refine g_iff (by first | assumption | omega | decide) ?_ | with_reducible refine g_ifnt (by first | assumption | omega | decide) ?_ | with_reducible refine g_ifnf (by first | assumption | omega | decide) ?_ | with_reducible exact rfl | with_reducible exact g_eqs | with_reducible exact g_nes | with_reducible exact g_neni | with_reducible exact g_nein | with_reducible exact g_nenn | with_reducible exact g_isn | with_reducible exact g_isi | with_reducible exact g_nsn | with_reducible exact g_nsi | with_reducible exact g_max | with_reducible exact g_max3 | with_reducible exact g_min | with_reducible exact g_intb | with_reducible apply g_gt2 | with_reducible apply g_gt3 | with_reducible apply g_tup | with_reducible apply g_lst | with_reducible exact lenOk rfl | with_reducible exact g_on | with_reducible apply g_os | with_reducible apply g_sl | with_reducible apply g_bkm | with_reducible exact g_okS )
/-- the heights, some of them put -/
def putsE (n : Nat) (hs : List Int) (p : Int → Bool) (g : EF) : List Int := (List.range n).map fun l : Nat => if p (l : Int) then (g (l : Int)).getD 0 else hs.getD l 0
theorem putsE_len {n : Nat} {hs : List Int} {p : Int → Bool} {g : EF} : (putsE n hs p g).length = n := by unfold putsE; rw [List.length_map, List.length_range]
theorem leave_run {h : HP} {C : Ctx} {g : Nat} {G : Gd} {L : List (Str × Int)} {P : List (Str × Fm)} {lg : Nat → Int} {E : List EF} (a : GuideAt h g G L P lg E) (en : EnOk L P P.length E) (l8 : L.length ≤ 8) (fu : 1000 < C.fuel) {k t : Nat} (hk : k < P.length) {hs : List Int} (gt : h[t]? = some (.lst (hs.map D.int))) (hl : hs.length = L.length)
    (ht : t ∉ G.refs) : runFn C f_m_Guide_leave [.ref g, .int (k : Int), .ref t] h = .ok .non (h.set t (.lst ((putsE L.length hs (fun z => (eAt E k z).isSome) (eAt E k)).map D.int))) := by
  have kE : k < E.length := by rw [en.len]; exact hk
  obtain ⟨r, i1, i2, i3⟩ := a.each.get a.ends (j := k) (by rw [List.length_map]; exact kE)
  rw [eL_getD kE] at i2
  have i2 : h[r]? = some (.lst ((mkE L.length (eAt E k)).map pairD)) := i2
  have rt : r ≠ t := fun e => ht (e ▸ List.mem_of_getElem? i3)
  have bd := en.bd k
  have fl : ∀ e : Ev, e[0]? = some (some (.ref g)) → eFld [1] (eV 0) "ends" C e h = .ok (.ref G.a5) h := fun e q => g_fld (g_v q) a.ob (by decide) rfl
  have full0 : hs = putsE L.length hs (fun z => decide (z ∈ ((mkE L.length (eAt E k)).take 0).map (·.1))) (eAt E k) := by
    apply List.ext_getElem?
    intro j
    unfold putsE
    rw [List.getElem?_map]
    by_cases hj : j < L.length
    · rw [List.getElem?_range hj, List.getElem?_eq_getElem (by omega)]
      simp [List.getElem?_eq_getElem (show j < hs.length by omega)]
    · rw [List.getElem?_eq_none (by omega), List.getElem?_eq_none (by simp; omega)]; rfl
  obtain ⟨e2, h2, F, x3, x4, rfl, rfl⟩ := for_all (it := itL r) (g := gT [3, 4]) (b := b_m_Guide_leave_1) (C := C) pairD (mkE L.length (eAt E k))
    (fun i e h' => ∃ x3 x4, e = [some (.ref g), some (.int (k : Int)), some (.ref t), x3, x4] ∧ h' = h.set t (.lst ((putsE L.length hs (fun z => decide (z ∈ ((mkE L.length (eAt E k)).take i).map (·.1))) (eAt E k)).map D.int)))
    (fun i p e h' q ⟨x3, x4, e1, e2⟩ => by rw [e2]; exact itL_at (getset rt i2) q) (fun e h' ⟨x3, x4, e1, e2⟩ => by rw [e2]; exact itL_end (getset rt i2))
    (fun i p e h' q ⟨x3, x4, e1, e2⟩ => by
      subst e1 e2
      have hp := mkE_at q
      obtain ⟨z0, z1⟩ := bd p.1 (by rw [hp]; simp)
      have st := g_stL (k := p.1.toNat) (v := .int p.2) (getset_same (o' := O.lst ((putsE L.length hs (fun z => decide (z ∈ ((mkE L.length (eAt E k)).take i).map (·.1))) (eAt E k)).map D.int)) gt) (by rw [List.length_map, putsE_len]; omega)
      rw [Int.toNat_of_nonneg z0, List.set_set, ← List.map_set (f := D.int)] at st
      have es : (putsE L.length hs (fun z => decide (z ∈ ((mkE L.length (eAt E k)).take i).map (·.1))) (eAt E k)).set p.1.toNat p.2 = putsE L.length hs (fun z => decide (z ∈ ((mkE L.length (eAt E k)).take (i + 1)).map (·.1))) (eAt E k) := by
        apply List.ext_getElem?
        intro j
        by_cases hj : j < L.length
        · by_cases e : p.1.toNat = j
          · subst e
            rw [List.getElem?_set_self (by rw [putsE_len]; exact hj)]
            unfold putsE
            rw [List.getElem?_map, List.getElem?_range hj, Option.map_some, Int.toNat_of_nonneg z0, take_snoc q, if_pos (by simp), hp]; rfl
          · rw [List.getElem?_set_ne e]
            unfold putsE
            rw [List.getElem?_map, List.getElem?_map, List.getElem?_range hj, Option.map_some, Option.map_some, take_snoc q]
            have ne : ¬ ((j : Int) = p.1) := fun z => e (by omega)
            simp [ne]
        · rw [List.getElem?_eq_none (by rw [List.length_set, putsE_len]; omega), List.getElem?_eq_none (by rw [putsE_len]; omega)]
      rw [es] at st
      unfold b_m_Guide_leave_1
      apply turn_of
      · show gT [3, 4] _ (.tup [.int p.1, .int p.2]) = _
        (repeat' first | with_reducible exact g_v rfl | with_reducible exact g_c | with_reducible exact g_an | with_reducible exact g_add | with_reducible exact g_sub | with_reducible exact g_iadd | with_reducible exact g_lt | with_reducible exact g_le | with_reducible exact g_gt | with_reducible exact g_ge | with_reducible exact g_eq | with_reducible exact g_ne | with_reducible exact g_neg | with_reducible exact g_mul (by first | assumption | omega | decide) | with_reducible exact g_div (by first | assumption | omega | decide) (by first | assumption | omega | decide) | with_reducible exact g_mod (by first | assumption | omega | decide) | with_reducible exact g_pow (by decide) | with_reducible apply g_isint | with_reducible exact g_sk | with_reducible exact g_rn | with_reducible exact g_bk | with_reducible exact g_ct | with_reducible exact g_gn0 | with_reducible apply g_gns | with_reducible exact g_ap0 | with_reducible apply g_apS | with_reducible apply g_op | with_reducible apply g_un | with_reducible apply g_ac | with_reducible apply g_call | with_reducible apply g_calld | with_reducible apply g_bf | with_reducible apply g_sq | with_reducible apply g_kn | with_reducible exact g_kr | with_reducible exact g_kb | with_reducible exact g_kc | with_reducible apply g_as | with_reducible apply g_pr | with_reducible apply g_au rfl | with_reducible apply g_rt | with_reducible apply g_ex | with_reducible apply g_if | with_reducible apply g_tv | with_reducible apply g_tan | with_reducible apply g_tor | with_reducible apply g_tnt | with_reducible apply g_ean | with_reducible apply g_eor | with_reducible apply g_ent | with_reducible apply g_eif | with_reducible apply g_iftt | with_reducible apply g_iffn | with_reducible apply g_ifff | with_reducible apply g_iftn | with_reducible refine g_ift (by first | assumption | omega | decide) ?_ | with_reducible refine g_iff (by first | assumption | omega | decide) ?_ | with_reducible refine g_ifnt (by first | assumption | omega | decide) ?_ | with_reducible refine g_ifnf (by first | assumption | omega | decide) ?_ | with_reducible exact rfl | with_reducible exact g_eqs | with_reducible exact g_nes | with_reducible exact g_neni | with_reducible exact g_nein | with_reducible exact g_nenn | with_reducible exact g_isn | with_reducible exact g_isi | with_reducible exact g_nsn | with_reducible exact g_nsi | with_reducible exact g_max | with_reducible exact g_max3 | with_reducible exact g_min | with_reducible exact g_intb | with_reducible apply g_gt2 | with_reducible apply g_gt3 | with_reducible apply g_tup | with_reducible apply g_lst | with_reducible exact lenOk rfl | with_reducible exact g_on | with_reducible apply g_os | with_reducible apply g_sl | with_reducible apply g_bkm | with_reducible exact g_okS )
      apply body_nx
      · exact g_st (g_v rfl) (g_v rfl) (g_v rfl) st
      · exact ⟨_, _, rfl, rfl⟩)
    (e := [some (.ref g), some (.int (k : Int)), some (.ref t), none, none]) (h := h) ⟨_, _, rfl, by
      rw [← full0]
      apply List.ext_getElem?
      intro j
      by_cases e : t = j
      · subst e; rw [getset_same gt, gt]
      · rw [List.getElem?_set_ne e]⟩ (fuel := C.fuel) (by have := mkE_len (n := L.length) (g := eAt E k); omega)
  rw [List.take_length] at F
  have ee : putsE L.length hs (fun z => decide (z ∈ (mkE L.length (eAt E k)).map (·.1))) (eAt E k) = putsE L.length hs (fun z => (eAt E k z).isSome) (eAt E k) := by
    unfold putsE
    refine List.map_congr_left fun l hl => ?_
    have := mkE_keys bd (l : Int)
    by_cases c : eAt E k (l : Int) = none
    · rw [if_neg (by rw [decide_eq_true_iff, this]; exact fun h => h c), if_neg (by show ¬ (eAt E k (l : Int)).isSome = true; rw [c]; simp)]
    · rw [if_pos (by rw [decide_eq_true_iff, this]; exact c), if_pos (by show (eAt E k (l : Int)).isSome = true; rw [Option.isSome_iff_ne_none]; exact c)]
  rw [ee] at F
  have F := fo_of (g := gT [3, 4]) (mi := iA (eOp opIx (eFld [1] (eV 0) "ends") (eV 1))) (e := [some (.ref g), some (.int (k : Int)), some (.ref t), none, none]) (h := h) (h1 := h) (it := itL r) (by
    have q : (eOp opIx (eFld [1] (eV 0) "ends") (eV 1)) C [some (.ref g), some (.int (k : Int)), some (.ref t), none, none] h = .ok (.ref r) h := by (repeat' first | with_reducible exact fl _ rfl | with_reducible exact i1 | with_reducible exact g_v rfl | with_reducible exact g_c | with_reducible exact g_an | with_reducible exact g_add | with_reducible exact g_sub | with_reducible exact g_iadd | with_reducible exact g_lt | with_reducible exact g_le | with_reducible exact g_gt | with_reducible exact g_ge | with_reducible exact g_eq | with_reducible exact g_ne | with_reducible exact g_neg | with_reducible exact g_mul (by first | assumption | omega | decide) | with_reducible exact g_div (by first | assumption | omega | decide) (by first | assumption | omega | decide) | with_reducible exact g_mod (by first | assumption | omega | decide) | with_reducible exact g_pow (by decide) | with_reducible apply g_isint | with_reducible exact g_sk | with_reducible exact g_rn | with_reducible exact g_bk | with_reducible exact g_ct | with_reducible exact g_gn0 | with_reducible apply g_gns | with_reducible exact g_ap0 | with_reducible apply g_apS | with_reducible apply g_op | with_reducible apply g_un | with_reducible apply g_ac | with_reducible apply g_call | with_reducible apply g_calld | with_reducible apply g_bf | with_reducible apply g_sq | with_reducible apply g_kn | with_reducible exact g_kr | with_reducible exact g_kb | with_reducible exact g_kc | with_reducible apply g_as | with_reducible apply g_pr | with_reducible apply g_au rfl | with_reducible apply g_rt | with_reducible apply g_ex | with_reducible apply g_if | with_reducible apply g_tv | with_reducible apply g_tan | with_reducible apply g_tor | with_reducible apply g_tnt | with_reducible apply g_ean | with_reducible apply g_eor | with_reducible apply g_ent | with_reducible apply g_eif | with_reducible apply g_iftt | with_reducible apply g_iffn | with_reducible apply g_ifff | with_reducible apply g_iftn | with_reducible refine g_ift (by first | assumption | omega | decide) ?_ | with_reducible refine g_iff (by first | assumption | omega | decide) ?_ | with_reducible refine g_ifnt (by first | assumption | omega | decide) ?_ | with_reducible refine g_ifnf (by first | assumption | omega | decide) ?_ | with_reducible exact rfl | with_reducible exact g_eqs | with_reducible exact g_nes | with_reducible exact g_neni | with_reducible exact g_nein | with_reducible exact g_nenn | with_reducible exact g_isn | with_reducible exact g_isi | with_reducible exact g_nsn | with_reducible exact g_nsi | with_reducible exact g_max | with_reducible exact g_max3 | with_reducible exact g_min | with_reducible exact g_intb | with_reducible apply g_gt2 | with_reducible apply g_gt3 | with_reducible apply g_tup | with_reducible apply g_lst | with_reducible exact lenOk rfl | with_reducible exact g_on | with_reducible apply g_os | with_reducible apply g_sl | with_reducible apply g_bkm | with_reducible exact g_okS )
    unfold iA; rw [q]; simp only [Z.R.bind_ok, isL_of i2]) F
  exact run_nx rfl rfl F
def rampV (s g b j : Int) : Int := s + (g - s) * j / b
theorem ramp_run {C : Ctx} {h : HP} {s g b j : Int} (hs : 0 ≤ s ∧ s ≤ 10 ^ 18) (hg : 0 ≤ g ∧ g ≤ 10 ^ 18) (hb : 1 ≤ b ∧ b ≤ 10 ^ 18) (hj : 0 ≤ j ∧ j ≤ b) : runFn C f_ramp [.int s, .int g, .int b, .int j] h = .ok (.int (rampV s g b j)) h := by
  have mk : mulOk (g - s) j = true := mulOk_of (a := 100) (b := 100) ⟨Nat.lt_of_le_of_lt (show (g - s).natAbs ≤ 10 ^ 18 by omega) (by decide)⟩ ⟨Nat.lt_of_le_of_lt (show j.natAbs ≤ 10 ^ 18 by omega) (by decide)⟩ (by decide)
  have dk : divOk b = true := divOk_of (by omega) (a := 100) ⟨Nat.lt_of_le_of_lt (show b.natAbs ≤ 10 ^ 18 by omega) (by decide)⟩ (by decide)
  show _ = R.ok (D.int (s + (g - s) * j / b)) h
  refine run_rt rfl (by simp only [List.map_cons, List.map_nil, List.length_cons, List.length_nil, List.cons_append, List.nil_append, Nat.reduceAdd, Nat.reduceSub, List.replicate_succ, List.replicate_zero]; exact rfl) ?_
  (repeat' first | with_reducible exact g_v rfl | with_reducible exact g_c | with_reducible exact g_an | with_reducible exact g_add | with_reducible exact g_sub | with_reducible exact g_iadd | with_reducible exact g_lt | with_reducible exact g_le | with_reducible exact g_gt | with_reducible exact g_ge | with_reducible exact g_eq | with_reducible exact g_ne | with_reducible exact g_neg | with_reducible exact g_mul (by first | assumption | omega | decide) | with_reducible exact g_div (by first | assumption | omega | decide) (by first | assumption | omega | decide) | with_reducible exact g_mod (by first | assumption | omega | decide) | with_reducible exact g_pow (by decide) | with_reducible apply g_isint | with_reducible exact g_sk | with_reducible exact g_rn | with_reducible exact g_bk | with_reducible exact g_ct | with_reducible exact g_gn0 | with_reducible apply g_gns | with_reducible exact g_ap0 | with_reducible apply g_apS | with_reducible apply g_op | with_reducible apply g_un | with_reducible apply g_ac | with_reducible apply g_call | with_reducible apply g_calld | with_reducible apply g_bf | with_reducible apply g_sq | with_reducible apply g_kn | with_reducible exact g_kr | with_reducible exact g_kb | with_reducible exact g_kc | with_reducible apply g_as | with_reducible apply g_pr | with_reducible apply g_au rfl | with_reducible apply g_rt | with_reducible apply g_ex | with_reducible apply g_if | with_reducible apply g_tv | with_reducible apply g_tan | with_reducible apply g_tor | with_reducible apply g_tnt | with_reducible apply g_ean | with_reducible apply g_eor | with_reducible apply g_ent | with_reducible apply g_eif | with_reducible apply g_iftt | with_reducible apply g_iffn | with_reducible apply g_ifff | with_reducible apply g_iftn | with_reducible refine g_ift (by first | assumption | omega | decide) ?_ | with_reducible refine g_iff (by first | assumption | omega | decide) ?_ | with_reducible refine g_ifnt (by first | assumption | omega | decide) ?_ | with_reducible refine g_ifnf (by first | assumption | omega | decide) ?_ | with_reducible exact rfl | with_reducible exact g_eqs | with_reducible exact g_nes | with_reducible exact g_neni | with_reducible exact g_nein | with_reducible exact g_nenn | with_reducible exact g_isn | with_reducible exact g_isi | with_reducible exact g_nsn | with_reducible exact g_nsi | with_reducible exact g_max | with_reducible exact g_max3 | with_reducible exact g_min | with_reducible exact g_intb | with_reducible apply g_gt2 | with_reducible apply g_gt3 | with_reducible apply g_tup | with_reducible apply g_lst | with_reducible exact lenOk rfl | with_reducible exact g_on | with_reducible apply g_os | with_reducible apply g_sl | with_reducible apply g_bkm | with_reducible exact g_okS )
/-- where the limbs of a leaf stand -/
def leafS (L : List (Str × Int)) (hs : List Int) (beat : Int) : Fm → List Int
  | .raise l t b => hs.set (ixN_ (lnm L) l) (rampV (hs.getD (ixN_ (lnm L) l) 0) t b beat)
  | _ => hs
theorem put_leaf {h : HP} {C : Ctx} {g : Nat} {G : Gd} {L : List (Str × Int)} {P : List (Str × Fm)} {lg : Nat → Int} {E : List EF} (a : GuideAt h g G L P lg E) (o : BkOk L P) {k t : Nat} {x : Str × Fm} (q : P[k]? = some x) (lf : x.2.pns = []) (nr : x.2.tag ≠ "row" ∧ x.2.tag ≠ "side" ∧ x.2.tag ≠ "again")
    {hs : List Int} (gt : h[t]? = some (.lst (hs.map D.int))) (hl : hs.length = L.length) (hb : ∀ z ∈ hs, 0 ≤ z ∧ z ≤ 10 ^ 18) {beat : Int} (b0 : 0 ≤ beat) (b1 : ∀ l z b, x.2 = .raise l z b → beat ≤ b)
    (c8 : ∀ (h : HP) (s g b j : Int), (0 ≤ s ∧ s ≤ 10 ^ 18) → (0 ≤ g ∧ g ≤ 10 ^ 18) → (1 ≤ b ∧ b ≤ 10 ^ 18) → (0 ≤ j ∧ j ≤ b) → C.call 8 [.int s, .int g, .int b, .int j] h = .ok (.int (rampV s g b j)) h) :
    runFn C f_m_Guide_put [.ref g, .int (k : Int), .int beat, .ref t] h = .ok .non (h.set t (.lst ((leafS L hs beat x.2).map D.int))) := by
  have fl : ∀ (e : Ev) (f : Str) (d : D), e[0]? = some (some (.ref g)) → G.fs.lookup f = some d → eFld [1] (eV 0) f C e h = .ok d h := fun e f d q q2 => g_fld (g_v q) a.ob (by decide) q2
  have f1 := fun e q => fl e "forms" (.ref G.a1) q rfl
  have f3 := fun e q => fl e "limbs" (.ref G.a3) q rfl
  have ixf : opIx (.ref G.a1) (.int (k : Int)) h = .ok x.2.d h := g_ixl a.forms (by omega) (by rw [Int.toNat_natCast, List.getElem?_map, q]; rfl)
  have it0 : ∀ h : HP, opIx x.2.d (.int 0) h = .ok (.str x.2.tag) h := fun h => ix_tag
  have fr := o.fm k x q
  obtain ⟨n, f⟩ := x
  dsimp only at lf nr b1 ixf it0 fr ⊢
  have same : leafS L hs beat f = hs → f.tag ≠ "raise" → runFn C f_m_Guide_put [.ref g, .int (k : Int), .int beat, .ref t] h = .ok .non (h.set t (.lst ((leafS L hs beat f).map D.int))) := fun es n0 => by
    have e0 := g_eqsn (h := h) n0
    have e1 := g_eqsn (h := h) nr.1
    have e2 := g_eqsn (h := h) nr.2.1
    have e3 := g_eqsn (h := h) nr.2.2
    have hset : h.set t (.lst ((leafS L hs beat f).map D.int)) = h := by
      rw [es]
      apply List.ext_getElem?
      intro j
      by_cases e : t = j
      · subst e; rw [getset_same gt, gt]
      · rw [List.getElem?_set_ne e]
    rw [hset]
    apply run_nx (e' := [some (.ref g), some (.int (k : Int)), some (.int beat), some (.ref t), none, none, none, none, none, none]) rfl rfl
    (repeat' first | with_reducible exact f1 _ rfl | with_reducible exact ixf | with_reducible exact it0 _ | with_reducible exact e0 | with_reducible exact e1 | with_reducible exact e2 | with_reducible exact e3 | with_reducible exact g_v rfl | with_reducible exact g_c | with_reducible exact g_an | with_reducible exact g_add | with_reducible exact g_sub | with_reducible exact g_iadd | with_reducible exact g_lt | with_reducible exact g_le | with_reducible exact g_gt | with_reducible exact g_ge | with_reducible exact g_eq | with_reducible exact g_ne | with_reducible exact g_neg | with_reducible exact g_mul (by first | assumption | omega | decide) | with_reducible exact g_div (by first | assumption | omega | decide) (by first | assumption | omega | decide) | with_reducible exact g_mod (by first | assumption | omega | decide) | with_reducible exact g_pow (by decide) | with_reducible apply g_isint | with_reducible exact g_sk | with_reducible exact g_rn | with_reducible exact g_bk | with_reducible exact g_ct | with_reducible exact g_gn0 | with_reducible apply g_gns | with_reducible exact g_ap0 | with_reducible apply g_apS | with_reducible apply g_op | with_reducible apply g_un | with_reducible apply g_ac | with_reducible apply g_call | with_reducible apply g_calld | with_reducible apply g_bf | with_reducible apply g_sq | with_reducible apply g_kn | with_reducible exact g_kr | with_reducible exact g_kb | with_reducible exact g_kc | with_reducible apply g_as | with_reducible apply g_pr | with_reducible apply g_au rfl | with_reducible apply g_rt | with_reducible apply g_ex | with_reducible apply g_if | with_reducible apply g_tv | with_reducible apply g_tan | with_reducible apply g_tor | with_reducible apply g_tnt | with_reducible apply g_ean | with_reducible apply g_eor | with_reducible apply g_ent | with_reducible apply g_eif | with_reducible apply g_iftt | with_reducible apply g_iffn | with_reducible apply g_ifff | with_reducible apply g_iftn | with_reducible refine g_ift (by first | assumption | omega | decide) ?_ | with_reducible refine g_iff (by first | assumption | omega | decide) ?_ | with_reducible refine g_ifnt (by first | assumption | omega | decide) ?_ | with_reducible refine g_ifnf (by first | assumption | omega | decide) ?_ | with_reducible exact rfl | with_reducible exact g_eqs | with_reducible exact g_nes | with_reducible exact g_neni | with_reducible exact g_nein | with_reducible exact g_nenn | with_reducible exact g_isn | with_reducible exact g_isi | with_reducible exact g_nsn | with_reducible exact g_nsi | with_reducible exact g_max | with_reducible exact g_max3 | with_reducible exact g_min | with_reducible exact g_intb | with_reducible apply g_gt2 | with_reducible apply g_gt3 | with_reducible apply g_tup | with_reducible apply g_lst | with_reducible exact lenOk rfl | with_reducible exact g_on | with_reducible apply g_os | with_reducible apply g_sl | with_reducible apply g_bkm | with_reducible exact g_okS )
  cases f with
  | hold b => exact same rfl (by simp only [Fm.tag]; decide)
  | ring w b => exact same rfl (by simp only [Fm.tag]; decide)
  | row ns => exact absurd rfl nr.1
  | side ns => exact absurd rfl nr.2.1
  | again z m => exact absurd rfl nr.2.2
  | raise l z b =>
    obtain ⟨fl1, fz0, fz1, fb0, fb1⟩ := fr
    have il := ixN_lt fl1
    unfold lnm at il
    rw [List.length_map] at il
    have il : ixN_ (lnm L) l < L.length := il
    obtain ⟨i, hi⟩ : ∃ i, i = ixN_ (lnm L) l := ⟨_, rfl⟩
    have dl := g_ixNum a.lims fl1
    rw [← hi] at il dl
    have hgi : hs[i]? = some (hs.getD i 0) := by rw [List.getD_eq_getElem?_getD, List.getElem?_eq_getElem (by omega)]; rfl
    have ixh : opIx (.ref t) (.int (i : Int)) h = .ok (.int (hs.getD i 0)) h := g_ixl gt (by omega) (by rw [Int.toNat_natCast, List.getElem?_map, hgi]; rfl)
    have rv := c8 h (hs.getD i 0) z b beat (hb _ (List.mem_of_getElem? hgi)) ⟨fz0, fz1⟩ ⟨fb0, fb1⟩ ⟨b0, b1 l z b rfl⟩
    have st := g_stL (k := i) (v := .int (rampV (hs.getD i 0) z b beat)) gt (by rw [List.length_map]; omega)
    rw [← List.map_set (f := D.int)] at st
    have er := g_eqsr (p := ("raise" : Str)) (h := h)
    have it0 : ∀ h : HP, opIx (Fm.raise l z b).d (.int 0) h = .ok (.str "raise") h := it0
    have i1 : opIx (Fm.raise l z b).d (.int 1) h = .ok (.str l) h := rfl
    have i2 : opIx (Fm.raise l z b).d (.int 2) h = .ok (.int z) h := rfl
    have i3 : opIx (Fm.raise l z b).d (.int 3) h = .ok (.int b) h := rfl
    show runFn C f_m_Guide_put [.ref g, .int (k : Int), .int beat, .ref t] h = .ok .non (h.set t (.lst ((hs.set (ixN_ (lnm L) l) (rampV (hs.getD (ixN_ (lnm L) l) 0) z b beat)).map D.int)))
    rw [← hi]
    have ST : sSt stD (eV 3) (eV 5) (eCall 8 (aC (eOp opIx (eV 3) (eV 5)) (aC (eOp opIx (eV 4) (eC (.int 2))) (aC (eOp opIx (eV 4) (eC (.int 3))) (aC (eV 2) aN)))) []) C [some (.ref g), some (.int (k : Int)), some (.int beat), some (.ref t), some (Fm.raise l z b).d, some (.int (i : Int)), none, none, none, none] h =
        .ok (.nx [some (.ref g), some (.int (k : Int)), some (.int beat), some (.ref t), some (Fm.raise l z b).d, some (.int (i : Int)), none, none, none, none]) (h.set t (.lst ((hs.set i (rampV (hs.getD i 0) z b beat)).map D.int))) := by
      apply g_st
      · (repeat' first | with_reducible exact ixh | with_reducible exact i2 | with_reducible exact i3 | with_reducible exact rv | with_reducible exact g_v rfl | with_reducible exact g_c | with_reducible exact g_an | with_reducible exact g_add | with_reducible exact g_sub | with_reducible exact g_iadd | with_reducible exact g_lt | with_reducible exact g_le | with_reducible exact g_gt | with_reducible exact g_ge | with_reducible exact g_eq | with_reducible exact g_ne | with_reducible exact g_neg | with_reducible exact g_mul (by first | assumption | omega | decide) | with_reducible exact g_div (by first | assumption | omega | decide) (by first | assumption | omega | decide) | with_reducible exact g_mod (by first | assumption | omega | decide) | with_reducible exact g_pow (by decide) | with_reducible apply g_isint | with_reducible exact g_sk | with_reducible exact g_rn | with_reducible exact g_bk | with_reducible exact g_ct | with_reducible exact g_gn0 | with_reducible apply g_gns | with_reducible exact g_ap0 | with_reducible apply g_apS | with_reducible apply g_op | with_reducible apply g_un | with_reducible apply g_ac | with_reducible apply g_call | with_reducible apply g_calld | with_reducible apply g_bf | with_reducible apply g_sq | with_reducible apply g_kn | with_reducible exact g_kr | with_reducible exact g_kb | with_reducible exact g_kc | with_reducible apply g_as | with_reducible apply g_pr | with_reducible apply g_au rfl | with_reducible apply g_rt | with_reducible apply g_ex | with_reducible apply g_if | with_reducible apply g_tv | with_reducible apply g_tan | with_reducible apply g_tor | with_reducible apply g_tnt | with_reducible apply g_ean | with_reducible apply g_eor | with_reducible apply g_ent | with_reducible apply g_eif | with_reducible apply g_iftt | with_reducible apply g_iffn | with_reducible apply g_ifff | with_reducible apply g_iftn | with_reducible refine g_ift (by first | assumption | omega | decide) ?_ | with_reducible refine g_iff (by first | assumption | omega | decide) ?_ | with_reducible refine g_ifnt (by first | assumption | omega | decide) ?_ | with_reducible refine g_ifnf (by first | assumption | omega | decide) ?_ | with_reducible exact rfl | with_reducible exact g_eqs | with_reducible exact g_nes | with_reducible exact g_neni | with_reducible exact g_nein | with_reducible exact g_nenn | with_reducible exact g_isn | with_reducible exact g_isi | with_reducible exact g_nsn | with_reducible exact g_nsi | with_reducible exact g_max | with_reducible exact g_max3 | with_reducible exact g_min | with_reducible exact g_intb | with_reducible apply g_gt2 | with_reducible apply g_gt3 | with_reducible apply g_tup | with_reducible apply g_lst | with_reducible exact lenOk rfl | with_reducible exact g_on | with_reducible apply g_os | with_reducible apply g_sl | with_reducible apply g_bkm | with_reducible exact g_okS )
      · (repeat' first | with_reducible exact g_v rfl | with_reducible exact g_c | with_reducible exact g_an | with_reducible exact g_add | with_reducible exact g_sub | with_reducible exact g_iadd | with_reducible exact g_lt | with_reducible exact g_le | with_reducible exact g_gt | with_reducible exact g_ge | with_reducible exact g_eq | with_reducible exact g_ne | with_reducible exact g_neg | with_reducible exact g_mul (by first | assumption | omega | decide) | with_reducible exact g_div (by first | assumption | omega | decide) (by first | assumption | omega | decide) | with_reducible exact g_mod (by first | assumption | omega | decide) | with_reducible exact g_pow (by decide) | with_reducible apply g_isint | with_reducible exact g_sk | with_reducible exact g_rn | with_reducible exact g_bk | with_reducible exact g_ct | with_reducible exact g_gn0 | with_reducible apply g_gns | with_reducible exact g_ap0 | with_reducible apply g_apS | with_reducible apply g_op | with_reducible apply g_un | with_reducible apply g_ac | with_reducible apply g_call | with_reducible apply g_calld | with_reducible apply g_bf | with_reducible apply g_sq | with_reducible apply g_kn | with_reducible exact g_kr | with_reducible exact g_kb | with_reducible exact g_kc | with_reducible apply g_as | with_reducible apply g_pr | with_reducible apply g_au rfl | with_reducible apply g_rt | with_reducible apply g_ex | with_reducible apply g_if | with_reducible apply g_tv | with_reducible apply g_tan | with_reducible apply g_tor | with_reducible apply g_tnt | with_reducible apply g_ean | with_reducible apply g_eor | with_reducible apply g_ent | with_reducible apply g_eif | with_reducible apply g_iftt | with_reducible apply g_iffn | with_reducible apply g_ifff | with_reducible apply g_iftn | with_reducible refine g_ift (by first | assumption | omega | decide) ?_ | with_reducible refine g_iff (by first | assumption | omega | decide) ?_ | with_reducible refine g_ifnt (by first | assumption | omega | decide) ?_ | with_reducible refine g_ifnf (by first | assumption | omega | decide) ?_ | with_reducible exact rfl | with_reducible exact g_eqs | with_reducible exact g_nes | with_reducible exact g_neni | with_reducible exact g_nein | with_reducible exact g_nenn | with_reducible exact g_isn | with_reducible exact g_isi | with_reducible exact g_nsn | with_reducible exact g_nsi | with_reducible exact g_max | with_reducible exact g_max3 | with_reducible exact g_min | with_reducible exact g_intb | with_reducible apply g_gt2 | with_reducible apply g_gt3 | with_reducible apply g_tup | with_reducible apply g_lst | with_reducible exact lenOk rfl | with_reducible exact g_on | with_reducible apply g_os | with_reducible apply g_sl | with_reducible apply g_bkm | with_reducible exact g_okS )
      · (repeat' first | with_reducible exact g_v rfl | with_reducible exact g_c | with_reducible exact g_an | with_reducible exact g_add | with_reducible exact g_sub | with_reducible exact g_iadd | with_reducible exact g_lt | with_reducible exact g_le | with_reducible exact g_gt | with_reducible exact g_ge | with_reducible exact g_eq | with_reducible exact g_ne | with_reducible exact g_neg | with_reducible exact g_mul (by first | assumption | omega | decide) | with_reducible exact g_div (by first | assumption | omega | decide) (by first | assumption | omega | decide) | with_reducible exact g_mod (by first | assumption | omega | decide) | with_reducible exact g_pow (by decide) | with_reducible apply g_isint | with_reducible exact g_sk | with_reducible exact g_rn | with_reducible exact g_bk | with_reducible exact g_ct | with_reducible exact g_gn0 | with_reducible apply g_gns | with_reducible exact g_ap0 | with_reducible apply g_apS | with_reducible apply g_op | with_reducible apply g_un | with_reducible apply g_ac | with_reducible apply g_call | with_reducible apply g_calld | with_reducible apply g_bf | with_reducible apply g_sq | with_reducible apply g_kn | with_reducible exact g_kr | with_reducible exact g_kb | with_reducible exact g_kc | with_reducible apply g_as | with_reducible apply g_pr | with_reducible apply g_au rfl | with_reducible apply g_rt | with_reducible apply g_ex | with_reducible apply g_if | with_reducible apply g_tv | with_reducible apply g_tan | with_reducible apply g_tor | with_reducible apply g_tnt | with_reducible apply g_ean | with_reducible apply g_eor | with_reducible apply g_ent | with_reducible apply g_eif | with_reducible apply g_iftt | with_reducible apply g_iffn | with_reducible apply g_ifff | with_reducible apply g_iftn | with_reducible refine g_ift (by first | assumption | omega | decide) ?_ | with_reducible refine g_iff (by first | assumption | omega | decide) ?_ | with_reducible refine g_ifnt (by first | assumption | omega | decide) ?_ | with_reducible refine g_ifnf (by first | assumption | omega | decide) ?_ | with_reducible exact rfl | with_reducible exact g_eqs | with_reducible exact g_nes | with_reducible exact g_neni | with_reducible exact g_nein | with_reducible exact g_nenn | with_reducible exact g_isn | with_reducible exact g_isi | with_reducible exact g_nsn | with_reducible exact g_nsi | with_reducible exact g_max | with_reducible exact g_max3 | with_reducible exact g_min | with_reducible exact g_intb | with_reducible apply g_gt2 | with_reducible apply g_gt3 | with_reducible apply g_tup | with_reducible apply g_lst | with_reducible exact lenOk rfl | with_reducible exact g_on | with_reducible apply g_os | with_reducible apply g_sl | with_reducible apply g_bkm | with_reducible exact g_okS )
      · exact st
    apply run_nx (e' := [some (.ref g), some (.int (k : Int)), some (.int beat), some (.ref t), none, none, none, none, none, none]) rfl rfl
    (repeat' first | with_reducible exact f1 _ rfl | with_reducible exact f3 _ rfl | with_reducible exact ixf | with_reducible exact it0 _ | with_reducible exact er | with_reducible exact i1 | with_reducible exact dl | with_reducible exact ST | with_reducible exact g_v rfl | with_reducible exact g_c | with_reducible exact g_an | with_reducible exact g_add | with_reducible exact g_sub | with_reducible exact g_iadd | with_reducible exact g_lt | with_reducible exact g_le | with_reducible exact g_gt | with_reducible exact g_ge | with_reducible exact g_eq | with_reducible exact g_ne | with_reducible exact g_neg | with_reducible exact g_mul (by first | assumption | omega | decide) | with_reducible exact g_div (by first | assumption | omega | decide) (by first | assumption | omega | decide) | with_reducible exact g_mod (by first | assumption | omega | decide) | with_reducible exact g_pow (by decide) | with_reducible apply g_isint | with_reducible exact g_sk | with_reducible exact g_rn | with_reducible exact g_bk | with_reducible exact g_ct | with_reducible exact g_gn0 | with_reducible apply g_gns | with_reducible exact g_ap0 | with_reducible apply g_apS | with_reducible apply g_op | with_reducible apply g_un | with_reducible apply g_ac | with_reducible apply g_call | with_reducible apply g_calld | with_reducible apply g_bf | with_reducible apply g_sq | with_reducible apply g_kn | with_reducible exact g_kr | with_reducible exact g_kb | with_reducible exact g_kc | with_reducible apply g_as | with_reducible apply g_pr | with_reducible apply g_au rfl | with_reducible apply g_rt | with_reducible apply g_ex | with_reducible apply g_if | with_reducible apply g_tv | with_reducible apply g_tan | with_reducible apply g_tor | with_reducible apply g_tnt | with_reducible apply g_ean | with_reducible apply g_eor | with_reducible apply g_ent | with_reducible apply g_eif | with_reducible apply g_iftt | with_reducible apply g_iffn | with_reducible apply g_ifff | with_reducible apply g_iftn | with_reducible refine g_ift (by first | assumption | omega | decide) ?_ | with_reducible refine g_iff (by first | assumption | omega | decide) ?_ | with_reducible refine g_ifnt (by first | assumption | omega | decide) ?_ | with_reducible refine g_ifnf (by first | assumption | omega | decide) ?_ | with_reducible exact rfl | with_reducible exact g_eqs | with_reducible exact g_nes | with_reducible exact g_neni | with_reducible exact g_nein | with_reducible exact g_nenn | with_reducible exact g_isn | with_reducible exact g_isi | with_reducible exact g_nsn | with_reducible exact g_nsi | with_reducible exact g_max | with_reducible exact g_max3 | with_reducible exact g_min | with_reducible exact g_intb | with_reducible apply g_gt2 | with_reducible apply g_gt3 | with_reducible apply g_tup | with_reducible apply g_lst | with_reducible exact lenOk rfl | with_reducible exact g_on | with_reducible apply g_os | with_reducible apply g_sl | with_reducible apply g_bkm | with_reducible exact g_okS )
theorem words_leaf {h : HP} {C : Ctx} {g : Nat} {G : Gd} {L : List (Str × Int)} {P : List (Str × Fm)} {lg : Nat → Int} {E : List EF} (a : GuideAt h g G L P lg E) {k : Nat} {x : Str × Fm} (q : P[k]? = some x) (nr : x.2.tag ≠ "row" ∧ x.2.tag ≠ "side" ∧ x.2.tag ≠ "again") {beat : Int} (b0 : 0 ≤ beat) (b1 : beat < lg k) :
    ∃ h' t ws, runFn C f_m_Guide_words [.ref g, .int (k : Int), .int beat] h = .ok (.ref t) h' ∧ Kp h h' ∧ h'[t]? = some (.lst (ws.map D.str)) ∧ ws = match x.2 with
      | .ring w _ => if beat = 0 then [w] else []
      | _ => ([] : List Str) := by
  have hk := (List.getElem?_eq_some_iff.mp q).1
  have fl : ∀ (e : Ev) (f : Str) (d : D), e[0]? = some (some (.ref g)) → G.fs.lookup f = some d → eFld [1] (eV 0) f C e h = .ok d h := fun e f d q q2 => g_fld (g_v q) a.ob (by decide) q2
  have f1 := fun e q => fl e "forms" (.ref G.a1) q rfl
  have f4 := fun e q => fl e "lengths" (.ref G.a4) q rfl
  have ixf : opIx (.ref G.a1) (.int (k : Int)) h = .ok x.2.d h := g_ixl a.forms (by omega) (by rw [Int.toNat_natCast, List.getElem?_map, q]; rfl)
  have ixl : opIx (.ref G.a4) (.int (k : Int)) h = .ok (.int (lg k)) h := g_ixl a.lens (by omega) (by rw [Int.toNat_natCast, List.getElem?_map, lgL_at hk]; rfl)
  have it0 : ∀ h : HP, opIx x.2.d (.int 0) h = .ok (.str x.2.tag) h := fun h => ix_tag
  have nb : ¬ lg k ≤ beat := by omega
  obtain ⟨n, f⟩ := x
  dsimp only at nr ixf it0 ⊢
  cases f with
  | row ns => exact absurd rfl nr.1
  | side ns => exact absurd rfl nr.2.1
  | again z m => exact absurd rfl nr.2.2
  | hold b =>
    have it0 : ∀ h : HP, opIx (Fm.hold b).d (.int 0) h = .ok (.str "hold") h := it0
    have e1 := g_eqsn (p := ("hold" : Str)) (q := "raise") (h := h) (by decide)
    have er := g_eqsr (p := ("hold" : Str)) (h := h)
    refine ⟨h ++ [.lst []], h.length, [], ?_, Kp.app, get_new, rfl⟩
    refine run_rt rfl (by simp only [List.map_cons, List.map_nil, List.length_cons, List.length_nil, List.cons_append, List.nil_append, Nat.reduceAdd, Nat.reduceSub, List.replicate_succ, List.replicate_zero]; exact rfl) ?_
    (repeat' first | with_reducible exact f1 _ rfl | with_reducible exact f4 _ rfl | with_reducible exact ixf | with_reducible exact ixl | with_reducible exact it0 _ | with_reducible exact e1 | with_reducible exact er | with_reducible exact g_v rfl | with_reducible exact g_c | with_reducible exact g_an | with_reducible exact g_add | with_reducible exact g_sub | with_reducible exact g_iadd | with_reducible exact g_lt | with_reducible exact g_le | with_reducible exact g_gt | with_reducible exact g_ge | with_reducible exact g_eq | with_reducible exact g_ne | with_reducible exact g_neg | with_reducible exact g_mul (by first | assumption | omega | decide) | with_reducible exact g_div (by first | assumption | omega | decide) (by first | assumption | omega | decide) | with_reducible exact g_mod (by first | assumption | omega | decide) | with_reducible exact g_pow (by decide) | with_reducible apply g_isint | with_reducible exact g_sk | with_reducible exact g_rn | with_reducible exact g_bk | with_reducible exact g_ct | with_reducible exact g_gn0 | with_reducible apply g_gns | with_reducible exact g_ap0 | with_reducible apply g_apS | with_reducible apply g_op | with_reducible apply g_un | with_reducible apply g_ac | with_reducible apply g_call | with_reducible apply g_calld | with_reducible apply g_bf | with_reducible apply g_sq | with_reducible apply g_kn | with_reducible exact g_kr | with_reducible exact g_kb | with_reducible exact g_kc | with_reducible apply g_as | with_reducible apply g_pr | with_reducible apply g_au rfl | with_reducible apply g_rt | with_reducible apply g_ex | with_reducible apply g_if | with_reducible apply g_tv | with_reducible apply g_tan | with_reducible apply g_tor | with_reducible apply g_tnt | with_reducible apply g_ean | with_reducible apply g_eor | with_reducible apply g_ent | with_reducible apply g_eif | with_reducible apply g_iftt | with_reducible apply g_iffn | with_reducible apply g_ifff | with_reducible apply g_iftn | with_reducible refine g_ift (by first | assumption | omega | decide) ?_ | with_reducible refine g_iff (by first | assumption | omega | decide) ?_ | with_reducible refine g_ifnt (by first | assumption | omega | decide) ?_ | with_reducible refine g_ifnf (by first | assumption | omega | decide) ?_ | with_reducible exact rfl | with_reducible exact g_eqs | with_reducible exact g_nes | with_reducible exact g_neni | with_reducible exact g_nein | with_reducible exact g_nenn | with_reducible exact g_isn | with_reducible exact g_isi | with_reducible exact g_nsn | with_reducible exact g_nsi | with_reducible exact g_max | with_reducible exact g_max3 | with_reducible exact g_min | with_reducible exact g_intb | with_reducible apply g_gt2 | with_reducible apply g_gt3 | with_reducible apply g_tup | with_reducible apply g_lst | with_reducible exact lenOk rfl | with_reducible exact g_on | with_reducible apply g_os | with_reducible apply g_sl | with_reducible apply g_bkm | with_reducible exact g_okS )
  | raise l z b =>
    have it0 : ∀ h : HP, opIx (Fm.raise l z b).d (.int 0) h = .ok (.str "raise") h := it0
    have er := g_eqsr (p := ("raise" : Str)) (h := h)
    refine ⟨h ++ [.lst []], h.length, [], ?_, Kp.app, get_new, rfl⟩
    refine run_rt rfl (by simp only [List.map_cons, List.map_nil, List.length_cons, List.length_nil, List.cons_append, List.nil_append, Nat.reduceAdd, Nat.reduceSub, List.replicate_succ, List.replicate_zero]; exact rfl) ?_
    (repeat' first | with_reducible exact f1 _ rfl | with_reducible exact f4 _ rfl | with_reducible exact ixf | with_reducible exact ixl | with_reducible exact it0 _ | with_reducible exact er | with_reducible exact g_v rfl | with_reducible exact g_c | with_reducible exact g_an | with_reducible exact g_add | with_reducible exact g_sub | with_reducible exact g_iadd | with_reducible exact g_lt | with_reducible exact g_le | with_reducible exact g_gt | with_reducible exact g_ge | with_reducible exact g_eq | with_reducible exact g_ne | with_reducible exact g_neg | with_reducible exact g_mul (by first | assumption | omega | decide) | with_reducible exact g_div (by first | assumption | omega | decide) (by first | assumption | omega | decide) | with_reducible exact g_mod (by first | assumption | omega | decide) | with_reducible exact g_pow (by decide) | with_reducible apply g_isint | with_reducible exact g_sk | with_reducible exact g_rn | with_reducible exact g_bk | with_reducible exact g_ct | with_reducible exact g_gn0 | with_reducible apply g_gns | with_reducible exact g_ap0 | with_reducible apply g_apS | with_reducible apply g_op | with_reducible apply g_un | with_reducible apply g_ac | with_reducible apply g_call | with_reducible apply g_calld | with_reducible apply g_bf | with_reducible apply g_sq | with_reducible apply g_kn | with_reducible exact g_kr | with_reducible exact g_kb | with_reducible exact g_kc | with_reducible apply g_as | with_reducible apply g_pr | with_reducible apply g_au rfl | with_reducible apply g_rt | with_reducible apply g_ex | with_reducible apply g_if | with_reducible apply g_tv | with_reducible apply g_tan | with_reducible apply g_tor | with_reducible apply g_tnt | with_reducible apply g_ean | with_reducible apply g_eor | with_reducible apply g_ent | with_reducible apply g_eif | with_reducible apply g_iftt | with_reducible apply g_iffn | with_reducible apply g_ifff | with_reducible apply g_iftn | with_reducible refine g_ift (by first | assumption | omega | decide) ?_ | with_reducible refine g_iff (by first | assumption | omega | decide) ?_ | with_reducible refine g_ifnt (by first | assumption | omega | decide) ?_ | with_reducible refine g_ifnf (by first | assumption | omega | decide) ?_ | with_reducible exact rfl | with_reducible exact g_eqs | with_reducible exact g_nes | with_reducible exact g_neni | with_reducible exact g_nein | with_reducible exact g_nenn | with_reducible exact g_isn | with_reducible exact g_isi | with_reducible exact g_nsn | with_reducible exact g_nsi | with_reducible exact g_max | with_reducible exact g_max3 | with_reducible exact g_min | with_reducible exact g_intb | with_reducible apply g_gt2 | with_reducible apply g_gt3 | with_reducible apply g_tup | with_reducible apply g_lst | with_reducible exact lenOk rfl | with_reducible exact g_on | with_reducible apply g_os | with_reducible apply g_sl | with_reducible apply g_bkm | with_reducible exact g_okS )
  | ring w b =>
    have it0 : ∀ h : HP, opIx (Fm.ring w b).d (.int 0) h = .ok (.str "ring") h := it0
    have i1 : opIx (Fm.ring w b).d (.int 1) h = .ok (.str w) h := rfl
    have e1 := g_eqsn (p := ("ring" : Str)) (q := "raise") (h := h) (by decide)
    have e2 := g_eqsn (p := ("ring" : Str)) (q := "hold") (h := h) (by decide)
    have er := g_eqsr (p := ("ring" : Str)) (h := h)
    by_cases c : beat = 0
    · refine ⟨h ++ [.lst [.str w]], h.length, [w], ?_, Kp.app, get_new, by show [w] = if beat = 0 then [w] else []; rw [if_pos c]⟩
      refine run_rt rfl (by simp only [List.map_cons, List.map_nil, List.length_cons, List.length_nil, List.cons_append, List.nil_append, Nat.reduceAdd, Nat.reduceSub, List.replicate_succ, List.replicate_zero]; exact rfl) ?_
      (repeat' first | with_reducible exact f1 _ rfl | with_reducible exact f4 _ rfl | with_reducible exact ixf | with_reducible exact ixl | with_reducible exact it0 _ | with_reducible exact e1 | with_reducible exact e2 | with_reducible exact er | with_reducible exact i1 | with_reducible exact g_v rfl | with_reducible exact g_c | with_reducible exact g_an | with_reducible exact g_add | with_reducible exact g_sub | with_reducible exact g_iadd | with_reducible exact g_lt | with_reducible exact g_le | with_reducible exact g_gt | with_reducible exact g_ge | with_reducible exact g_eq | with_reducible exact g_ne | with_reducible exact g_neg | with_reducible exact g_mul (by first | assumption | omega | decide) | with_reducible exact g_div (by first | assumption | omega | decide) (by first | assumption | omega | decide) | with_reducible exact g_mod (by first | assumption | omega | decide) | with_reducible exact g_pow (by decide) | with_reducible apply g_isint | with_reducible exact g_sk | with_reducible exact g_rn | with_reducible exact g_bk | with_reducible exact g_ct | with_reducible exact g_gn0 | with_reducible apply g_gns | with_reducible exact g_ap0 | with_reducible apply g_apS | with_reducible apply g_op | with_reducible apply g_un | with_reducible apply g_ac | with_reducible apply g_call | with_reducible apply g_calld | with_reducible apply g_bf | with_reducible apply g_sq | with_reducible apply g_kn | with_reducible exact g_kr | with_reducible exact g_kb | with_reducible exact g_kc | with_reducible apply g_as | with_reducible apply g_pr | with_reducible apply g_au rfl | with_reducible apply g_rt | with_reducible apply g_ex | with_reducible apply g_if | with_reducible apply g_tv | with_reducible apply g_tan | with_reducible apply g_tor | with_reducible apply g_tnt | with_reducible apply g_ean | with_reducible apply g_eor | with_reducible apply g_ent | with_reducible apply g_eif | with_reducible apply g_iftt | with_reducible apply g_iffn | with_reducible apply g_ifff | with_reducible apply g_iftn | with_reducible refine g_ift (by first | assumption | omega | decide) ?_ | with_reducible refine g_iff (by first | assumption | omega | decide) ?_ | with_reducible refine g_ifnt (by first | assumption | omega | decide) ?_ | with_reducible refine g_ifnf (by first | assumption | omega | decide) ?_ | with_reducible exact rfl | with_reducible exact g_eqs | with_reducible exact g_nes | with_reducible exact g_neni | with_reducible exact g_nein | with_reducible exact g_nenn | with_reducible exact g_isn | with_reducible exact g_isi | with_reducible exact g_nsn | with_reducible exact g_nsi | with_reducible exact g_max | with_reducible exact g_max3 | with_reducible exact g_min | with_reducible exact g_intb | with_reducible apply g_gt2 | with_reducible apply g_gt3 | with_reducible apply g_tup | with_reducible apply g_lst | with_reducible exact lenOk rfl | with_reducible exact g_on | with_reducible apply g_os | with_reducible apply g_sl | with_reducible apply g_bkm | with_reducible exact g_okS )
    · refine ⟨h ++ [.lst []], h.length, [], ?_, Kp.app, get_new, by show [] = if beat = 0 then [w] else []; rw [if_neg c]⟩
      refine run_rt rfl (by simp only [List.map_cons, List.map_nil, List.length_cons, List.length_nil, List.cons_append, List.nil_append, Nat.reduceAdd, Nat.reduceSub, List.replicate_succ, List.replicate_zero]; exact rfl) ?_
      (repeat' first | with_reducible exact f1 _ rfl | with_reducible exact f4 _ rfl | with_reducible exact ixf | with_reducible exact ixl | with_reducible exact it0 _ | with_reducible exact e1 | with_reducible exact e2 | with_reducible exact er | with_reducible exact i1 | with_reducible exact g_v rfl | with_reducible exact g_c | with_reducible exact g_an | with_reducible exact g_add | with_reducible exact g_sub | with_reducible exact g_iadd | with_reducible exact g_lt | with_reducible exact g_le | with_reducible exact g_gt | with_reducible exact g_ge | with_reducible exact g_eq | with_reducible exact g_ne | with_reducible exact g_neg | with_reducible exact g_mul (by first | assumption | omega | decide) | with_reducible exact g_div (by first | assumption | omega | decide) (by first | assumption | omega | decide) | with_reducible exact g_mod (by first | assumption | omega | decide) | with_reducible exact g_pow (by decide) | with_reducible apply g_isint | with_reducible exact g_sk | with_reducible exact g_rn | with_reducible exact g_bk | with_reducible exact g_ct | with_reducible exact g_gn0 | with_reducible apply g_gns | with_reducible exact g_ap0 | with_reducible apply g_apS | with_reducible apply g_op | with_reducible apply g_un | with_reducible apply g_ac | with_reducible apply g_call | with_reducible apply g_calld | with_reducible apply g_bf | with_reducible apply g_sq | with_reducible apply g_kn | with_reducible exact g_kr | with_reducible exact g_kb | with_reducible exact g_kc | with_reducible apply g_as | with_reducible apply g_pr | with_reducible apply g_au rfl | with_reducible apply g_rt | with_reducible apply g_ex | with_reducible apply g_if | with_reducible apply g_tv | with_reducible apply g_tan | with_reducible apply g_tor | with_reducible apply g_tnt | with_reducible apply g_ean | with_reducible apply g_eor | with_reducible apply g_ent | with_reducible apply g_eif | with_reducible apply g_iftt | with_reducible apply g_iffn | with_reducible apply g_ifff | with_reducible apply g_iftn | with_reducible refine g_ift (by first | assumption | omega | decide) ?_ | with_reducible refine g_iff (by first | assumption | omega | decide) ?_ | with_reducible refine g_ifnt (by first | assumption | omega | decide) ?_ | with_reducible refine g_ifnf (by first | assumption | omega | decide) ?_ | with_reducible exact rfl | with_reducible exact g_eqs | with_reducible exact g_nes | with_reducible exact g_neni | with_reducible exact g_nein | with_reducible exact g_nenn | with_reducible exact g_isn | with_reducible exact g_isi | with_reducible exact g_nsn | with_reducible exact g_nsi | with_reducible exact g_max | with_reducible exact g_max3 | with_reducible exact g_min | with_reducible exact g_intb | with_reducible apply g_gt2 | with_reducible apply g_gt3 | with_reducible apply g_tup | with_reducible apply g_lst | with_reducible exact lenOk rfl | with_reducible exact g_on | with_reducible apply g_os | with_reducible apply g_sl | with_reducible apply g_bkm | with_reducible exact g_okS )
/-! _law_cell, _law_names of the laws k16 to k21 -/
def cellv (ns : List Int) (k : Nat) : Int := if k < ns.length then ns.getD k 0 else ((k : Int) * k + 7919 + (if 0 < ns.length then ns.getD (k * 7 % ns.length) 0 % 2147483629 else 0)) * ((k : Int) * k + 7919 + (if 0 < ns.length then ns.getD (k * 7 % ns.length) 0 % 2147483629 else 0)) % 2147483629
theorem fz_at {h : HP} {i : Nat} {ns : List Int} (g : h[i]? = some (.fz (ns.map D.int))) {k : Nat} (hk : k < ns.length) : opIx (.ref i) (.int (k : Int)) h = .ok (.int (ns.getD k 0)) h :=
  g_ixz g (by omega) (by rw [Int.toNat_natCast, List.getElem?_map, List.getD_eq_getElem?_getD, List.getElem?_eq_getElem hk]; rfl)
theorem g_lenZ {h : HP} {i : Nat} {ds : List D} (k : h[i]? = some (.fz ds)) : bLen [.ref i] h = .ok (.int ds.length) h := by unfold bLen; simp only [k, isL]
theorem cell_run {h : HP} {C : Ctx} {ns : List Int} {i : Nat} (g : h[i]? = some (.fz (ns.map D.int))) {k : Nat} (hk : k ≤ 100) : runFn C f_l_cell [.ref i, .int (k : Int)] h = .ok (.int (cellv ns k)) h := by
  have ln : bLen [.ref i] h = .ok (.int (ns.length : Int)) h := by rw [g_lenZ g, List.length_map]
  unfold cellv
  by_cases c : k < ns.length
  · rw [if_pos c]
    have c' : (k : Int) < ns.length := by omega
    have ix := fz_at g c
    refine run_rt rfl (by simp only [List.map_cons, List.map_nil, List.length_cons, List.length_nil, List.cons_append, List.nil_append, Nat.reduceAdd, Nat.reduceSub, List.replicate_succ, List.replicate_zero]; exact rfl) ?_
    (repeat' first | with_reducible exact ln | with_reducible exact ix | with_reducible exact g_v rfl | with_reducible exact g_c | with_reducible exact g_an | with_reducible exact g_add | with_reducible exact g_sub | with_reducible exact g_iadd | with_reducible exact g_lt | with_reducible exact g_le | with_reducible exact g_gt | with_reducible exact g_ge | with_reducible exact g_eq | with_reducible exact g_ne | with_reducible exact g_neg | with_reducible exact g_mul (by first | assumption | omega | decide) | with_reducible exact g_div (by first | assumption | omega | decide) (by first | assumption | omega | decide) | with_reducible exact g_mod (by first | assumption | omega | decide) | with_reducible exact g_pow (by decide) | with_reducible apply g_isint | with_reducible exact g_sk | with_reducible exact g_rn | with_reducible exact g_bk | with_reducible exact g_ct | with_reducible exact g_gn0 | with_reducible apply g_gns | with_reducible exact g_ap0 | with_reducible apply g_apS | with_reducible apply g_op | with_reducible apply g_un | with_reducible apply g_ac | with_reducible apply g_call | with_reducible apply g_calld | with_reducible apply g_bf | with_reducible apply g_sq | with_reducible apply g_kn | with_reducible exact g_kr | with_reducible exact g_kb | with_reducible exact g_kc | with_reducible apply g_as | with_reducible apply g_pr | with_reducible apply g_au rfl | with_reducible apply g_rt | with_reducible apply g_ex | with_reducible apply g_if | with_reducible apply g_tv | with_reducible apply g_tan | with_reducible apply g_tor | with_reducible apply g_tnt | with_reducible apply g_ean | with_reducible apply g_eor | with_reducible apply g_ent | with_reducible apply g_eif | with_reducible apply g_iftt | with_reducible apply g_iffn | with_reducible apply g_ifff | with_reducible apply g_iftn | with_reducible refine g_ift (by first | assumption | omega | decide) ?_ | with_reducible refine g_iff (by first | assumption | omega | decide) ?_ | with_reducible refine g_ifnt (by first | assumption | omega | decide) ?_ | with_reducible refine g_ifnf (by first | assumption | omega | decide) ?_ | with_reducible exact rfl | with_reducible exact g_eqs | with_reducible exact g_nes | with_reducible exact g_neni | with_reducible exact g_nein | with_reducible exact g_nenn | with_reducible exact g_isn | with_reducible exact g_isi | with_reducible exact g_nsn | with_reducible exact g_nsi | with_reducible exact g_max | with_reducible exact g_max3 | with_reducible exact g_min | with_reducible exact g_intb | with_reducible apply g_gt2 | with_reducible apply g_gt3 | with_reducible apply g_tup | with_reducible apply g_lst | with_reducible exact lenOk rfl | with_reducible exact g_on | with_reducible apply g_os | with_reducible apply g_sl | with_reducible apply g_bkm | with_reducible exact g_okS )
  · rw [if_neg c]
    have c' : ¬ (k : Int) < ns.length := by omega
    have kk : mulOk (k : Int) k = true := mulOk_of (a := 20) (b := 20) ⟨by omega⟩ ⟨by omega⟩ (by decide)
    have k0 : (0 : Int) ≤ (k : Int) * k := Int.mul_nonneg (by omega) (by omega)
    have k1 : (k : Int) * k ≤ 10000 := by
      have := Int.mul_le_mul (show (k : Int) ≤ 100 by omega) (show (k : Int) ≤ 100 by omega) (by omega) (by omega)
      omega
    have big : ∀ z : Int, 0 ≤ z → z < 2147483629 → mulOk ((k : Int) * k + 7919 + z) ((k : Int) * k + 7919 + z) = true := fun z z0 z1 => by
      have : Lt2 ((k : Int) * k + 7919 + z) 40 := ⟨Nat.lt_of_lt_of_le (show ((k : Int) * k + 7919 + z).natAbs < 3000000000 by omega) (by decide)⟩
      exact mulOk_of this this (by decide)
    by_cases c0 : 0 < ns.length
    · rw [if_pos c0]
      have c0' : (0 : Int) < (ns.length : Int) := by omega
      have k7 : mulOk (k : Int) 7 = true := mulOk_of (a := 20) (b := 20) ⟨by omega⟩ ⟨by decide⟩ (by decide)
      have hm : k * 7 % ns.length < ns.length := Nat.mod_lt _ c0
      have ix := fz_at g hm
      have e7 : ((k * 7 % ns.length : Nat) : Int) = (k : Int) * 7 % (ns.length : Int) := by rw [Int.natCast_emod, Int.natCast_mul]; rfl
      rw [e7] at ix
      have m0 := Int.emod_nonneg (ns.getD (k * 7 % ns.length) 0) (show (2147483629 : Int) ≠ 0 by decide)
      have m1 := Int.emod_lt_of_pos (ns.getD (k * 7 % ns.length) 0) (show (0 : Int) < 2147483629 by decide)
      have bb := big _ m0 m1
      refine run_rt rfl (by simp only [List.map_cons, List.map_nil, List.length_cons, List.length_nil, List.cons_append, List.nil_append, Nat.reduceAdd, Nat.reduceSub, List.replicate_succ, List.replicate_zero]; exact rfl) ?_
      (repeat' first | with_reducible exact ln | with_reducible exact ix | with_reducible exact g_v rfl | with_reducible exact g_c | with_reducible exact g_an | with_reducible exact g_add | with_reducible exact g_sub | with_reducible exact g_iadd | with_reducible exact g_lt | with_reducible exact g_le | with_reducible exact g_gt | with_reducible exact g_ge | with_reducible exact g_eq | with_reducible exact g_ne | with_reducible exact g_neg | with_reducible exact g_mul (by first | assumption | omega | decide) | with_reducible exact g_div (by first | assumption | omega | decide) (by first | assumption | omega | decide) | with_reducible exact g_mod (by first | assumption | omega | decide) | with_reducible exact g_pow (by decide) | with_reducible apply g_isint | with_reducible exact g_sk | with_reducible exact g_rn | with_reducible exact g_bk | with_reducible exact g_ct | with_reducible exact g_gn0 | with_reducible apply g_gns | with_reducible exact g_ap0 | with_reducible apply g_apS | with_reducible apply g_op | with_reducible apply g_un | with_reducible apply g_ac | with_reducible apply g_call | with_reducible apply g_calld | with_reducible apply g_bf | with_reducible apply g_sq | with_reducible apply g_kn | with_reducible exact g_kr | with_reducible exact g_kb | with_reducible exact g_kc | with_reducible apply g_as | with_reducible apply g_pr | with_reducible apply g_au rfl | with_reducible apply g_rt | with_reducible apply g_ex | with_reducible apply g_if | with_reducible apply g_tv | with_reducible apply g_tan | with_reducible apply g_tor | with_reducible apply g_tnt | with_reducible apply g_ean | with_reducible apply g_eor | with_reducible apply g_ent | with_reducible apply g_eif | with_reducible apply g_iftt | with_reducible apply g_iffn | with_reducible apply g_ifff | with_reducible apply g_iftn | with_reducible refine g_ift (by first | assumption | omega | decide) ?_ | with_reducible refine g_iff (by first | assumption | omega | decide) ?_ | with_reducible refine g_ifnt (by first | assumption | omega | decide) ?_ | with_reducible refine g_ifnf (by first | assumption | omega | decide) ?_ | with_reducible exact rfl | with_reducible exact g_eqs | with_reducible exact g_nes | with_reducible exact g_neni | with_reducible exact g_nein | with_reducible exact g_nenn | with_reducible exact g_isn | with_reducible exact g_isi | with_reducible exact g_nsn | with_reducible exact g_nsi | with_reducible exact g_max | with_reducible exact g_max3 | with_reducible exact g_min | with_reducible exact g_intb | with_reducible apply g_gt2 | with_reducible apply g_gt3 | with_reducible apply g_tup | with_reducible apply g_lst | with_reducible exact lenOk rfl | with_reducible exact g_on | with_reducible apply g_os | with_reducible apply g_sl | with_reducible apply g_bkm | with_reducible exact g_okS )
    · rw [if_neg c0]
      have c0' : ¬ (0 : Int) < (ns.length : Int) := by omega
      have bb := big 0 (by decide) (by decide)
      rw [Int.add_zero] at bb ⊢
      refine run_rt rfl (by simp only [List.map_cons, List.map_nil, List.length_cons, List.length_nil, List.cons_append, List.nil_append, Nat.reduceAdd, Nat.reduceSub, List.replicate_succ, List.replicate_zero]; exact rfl) ?_
      (repeat' first | with_reducible exact ln | with_reducible exact g_v rfl | with_reducible exact g_c | with_reducible exact g_an | with_reducible exact g_add | with_reducible exact g_sub | with_reducible exact g_iadd | with_reducible exact g_lt | with_reducible exact g_le | with_reducible exact g_gt | with_reducible exact g_ge | with_reducible exact g_eq | with_reducible exact g_ne | with_reducible exact g_neg | with_reducible exact g_mul (by first | assumption | omega | decide) | with_reducible exact g_div (by first | assumption | omega | decide) (by first | assumption | omega | decide) | with_reducible exact g_mod (by first | assumption | omega | decide) | with_reducible exact g_pow (by decide) | with_reducible apply g_isint | with_reducible exact g_sk | with_reducible exact g_rn | with_reducible exact g_bk | with_reducible exact g_ct | with_reducible exact g_gn0 | with_reducible apply g_gns | with_reducible exact g_ap0 | with_reducible apply g_apS | with_reducible apply g_op | with_reducible apply g_un | with_reducible apply g_ac | with_reducible apply g_call | with_reducible apply g_calld | with_reducible apply g_bf | with_reducible apply g_sq | with_reducible apply g_kn | with_reducible exact g_kr | with_reducible exact g_kb | with_reducible exact g_kc | with_reducible apply g_as | with_reducible apply g_pr | with_reducible apply g_au rfl | with_reducible apply g_rt | with_reducible apply g_ex | with_reducible apply g_if | with_reducible apply g_tv | with_reducible apply g_tan | with_reducible apply g_tor | with_reducible apply g_tnt | with_reducible apply g_ean | with_reducible apply g_eor | with_reducible apply g_ent | with_reducible apply g_eif | with_reducible apply g_iftt | with_reducible apply g_iffn | with_reducible apply g_ifff | with_reducible apply g_iftn | with_reducible refine g_ift (by first | assumption | omega | decide) ?_ | with_reducible refine g_iff (by first | assumption | omega | decide) ?_ | with_reducible refine g_ifnt (by first | assumption | omega | decide) ?_ | with_reducible refine g_ifnf (by first | assumption | omega | decide) ?_ | with_reducible exact rfl | with_reducible exact g_eqs | with_reducible exact g_nes | with_reducible exact g_neni | with_reducible exact g_nein | with_reducible exact g_nenn | with_reducible exact g_isn | with_reducible exact g_isi | with_reducible exact g_nsn | with_reducible exact g_nsi | with_reducible exact g_max | with_reducible exact g_max3 | with_reducible exact g_min | with_reducible exact g_intb | with_reducible apply g_gt2 | with_reducible apply g_gt3 | with_reducible apply g_tup | with_reducible apply g_lst | with_reducible exact lenOk rfl | with_reducible exact g_on | with_reducible apply g_os | with_reducible apply g_sl | with_reducible apply g_bkm | with_reducible exact g_okS )
theorem cellv_lt {ns : List Int} (hb : ∀ z ∈ ns, Builtin.Int.intBits z ≤ 1048576) (k : Nat) : Lt2 (cellv ns k) 1048576 := by
  unfold cellv
  split
  · rename_i c
    rw [List.getD_eq_getElem?_getD, List.getElem?_eq_getElem c]
    exact Lt2.of_bits (hb _ (List.getElem_mem c))
  · generalize ((k : Int) * k + 7919 + (if 0 < ns.length then ns.getD (k * 7 % ns.length) 0 % 2147483629 else 0)) * ((k : Int) * k + 7919 + (if 0 < ns.length then ns.getD (k * 7 % ns.length) 0 % 2147483629 else 0)) = z
    have m0 := Int.emod_nonneg z (show (2147483629 : Int) ≠ 0 by decide)
    have m1 := Int.emod_lt_of_pos z (show (0 : Int) < 2147483629 by decide)
    exact Lt2.mono (a := 40) ⟨Nat.lt_of_lt_of_le (show (z % 2147483629).natAbs < 2147483629 by omega) (by decide)⟩ (by decide)
theorem occ_lets : ∀ k : Fin 26, Builtin.Str.occurrences LETS ⟨#[97 + k.val]⟩ 0 LETS.length 1 = [k.val] := by decide +kernel
theorem g_six {h : HP} {c : Nat} (h0 : 97 ≤ c) (h1 : c ≤ 122) : mSix (.str LETS) [.str ⟨#[c]⟩] h = .ok (.int ((c - 97 : Nat) : Int)) h := by
  have := occ_lets ⟨c - 97, by omega⟩
  have e : 97 + (c - 97) = c := by omega
  simp only [e] at this
  simp only [mSix, this]
/-- the k-th name -/
def nmK (base : Str) (at_ spot m : Int) (k : Nat) : Str := cutS base none (some at_) ++ ch LETS ((spot + 3 * (k : Int)) % 26) ++ cutS base (some (at_ + 1)) none ++ cutS "ab" none (some ((k : Int) % 3 * m))
theorem ab_low : lowS "ab" := by
  intro c hc
  have : c = 97 ∨ c = 98 := by
    have e : ("ab" : Str).cps.toList = [97, 98] := rfl
    rw [e] at hc
    simpa using hc
  omega
theorem ch_low {z : Int} : lowS (ch LETS (z % 26)) := by
  rw [ch_lets (Int.emod_nonneg _ (by decide)) (Int.emod_lt_of_pos _ (by decide))]
  intro c hc
  have := Int.emod_nonneg z (show (26 : Int) ≠ 0 by decide)
  have := Int.emod_lt_of_pos z (show (0 : Int) < 26 by decide)
  simp only [List.mem_cons, List.not_mem_nil, or_false] at hc
  omega
theorem nmK_low {base : Str} {at_ spot m : Int} {k : Nat} (hb : lowS base) : lowS (nmK base at_ spot m k) := lowS_app (lowS_app (lowS_app (lowS_cut hb _ _) ch_low) (lowS_cut hb _ _)) (lowS_cut ab_low _ _)
theorem nmK_len {base : Str} {at_ spot m : Int} {k : Nat} (hb : base.length ≤ 6) (h0 : 0 ≤ at_) (h1 : at_ < base.length) : 1 ≤ (nmK base at_ spot m k).length ∧ (nmK base at_ spot m k).length ≤ 8 := by
  unfold nmK
  rw [app_len, app_len, app_len, ch_len]
  obtain ⟨_, e1⟩ := cut_lens base h0 (by omega)
  obtain ⟨e2, e3⟩ := cut_lens base (a := at_ + 1) (by omega) (by omega)
  have e4 := cutS_len "ab" none (some ((k : Int) % 3 * m))
  have e5 : ("ab" : Str).length = 2 := rfl
  omega
theorem nmK_inj {base : Str} {at_ spot m : Int} (h0 : 0 ≤ at_) (h1 : at_ < base.length) {i j : Nat} (hi : i < 26) (hj : j < 26) (e : nmK base at_ spot m i = nmK base at_ spot m j) : i = j := by
  have key : ∀ k : Nat, (nmK base at_ spot m k).cps.toList = (cutS base none (some at_)).cps.toList ++ ((ch LETS ((spot + 3 * (k : Int)) % 26)).cps.toList ++ ((cutS base (some (at_ + 1)) none).cps.toList ++ (cutS "ab" none (some ((k : Int) % 3 * m))).cps.toList)) := fun k => by
    unfold nmK
    show (Array.toList (_ ++ _)) = _
    rw [Array.toList_append]
    show (Array.toList (_ ++ _)) ++ _ = _
    rw [Array.toList_append]
    show (Array.toList (_ ++ _)) ++ _ ++ _ = _
    rw [Array.toList_append, List.append_assoc, List.append_assoc]
  have e := congrArg (fun s : Str => s.cps.toList) e
  simp only [key] at e
  have e := List.append_cancel_left e
  have c0 := fun k : Nat => Int.emod_nonneg (spot + 3 * (k : Int)) (show (26 : Int) ≠ 0 by decide)
  have c1 := fun k : Nat => Int.emod_lt_of_pos (spot + 3 * (k : Int)) (show (0 : Int) < 26 by decide)
  have hc : ∀ k : Nat, (ch LETS ((spot + 3 * (k : Int)) % 26)).cps.toList = [97 + ((spot + 3 * (k : Int)) % 26).toNat] := fun k => by rw [ch_lets (c0 k) (c1 k)]
  rw [hc i, hc j] at e
  simp only [List.cons_append, List.cons.injEq] at e
  have := c0 i
  have := c0 j
  omega
structure Names12 (N : List Str) : Prop where
  len : N.length = 12
  nd : N.Nodup
  low : ∀ x ∈ N, lowS x ∧ 1 ≤ x.length ∧ x.length ≤ 8
theorem names12_of {base : Str} {at_ spot m : Int} (hl : lowS base) (hb : base.length ≤ 6) (h0 : 0 ≤ at_) (h1 : at_ < base.length) : Names12 ((List.range 12).map (nmK base at_ spot m)) := by
  refine ⟨by simp, ?_, fun x hx => ?_⟩
  · rw [List.Nodup, List.pairwise_map]
    refine List.Pairwise.imp_of_mem ?_ (List.nodup_range (n := 12))
    intro a b ha hb2 ne e
    have := List.mem_range.mp ha
    have := List.mem_range.mp hb2
    exact ne (nmK_inj h0 h1 (by omega) (by omega) e)
  · obtain ⟨k, hk, rfl⟩ := List.mem_map.mp hx
    exact ⟨nmK_low hl, nmK_len hb h0 h1⟩
theorem ch_mem {z : Str} {i : Int} (h0 : 0 ≤ i) (h1 : i < z.length) : ∃ c, c ∈ z.cps.toList ∧ ch z i = ⟨#[c]⟩ := by
  have hl : i.toNat < z.cps.toList.length := by rw [len_cps]; omega
  refine ⟨z.cps.toList[i.toNat], List.getElem_mem hl, ?_⟩
  unfold ch
  rw [List.getD_eq_getElem?_getD, List.getElem?_eq_getElem hl]; rfl
theorem names12_run {h : HP} {C : Ctx} (fu : 1000 < C.fuel) {cell : Int} (hc : Lt2 cell 2000000) : ∃ N h' t, Names12 N ∧ runFn C f_l_names [.int cell, .int 12] h = .ok (.ref t) h' ∧ Kp h h' ∧ h'[t]? = some (.lst (N.map D.str)) := by
  have a0 := Int.emod_nonneg cell (show (6 : Int) ≠ 0 by decide)
  have a1 := Int.emod_lt_of_pos cell (show (0 : Int) < 6 by decide)
  obtain ⟨ln, hln⟩ : ∃ ln, ln = 1 + cell % 6 := ⟨_, rfl⟩
  have ml : opMod (.int (cell / 6)) (.int ln) h = .ok (.int (cell / 6 % ln)) h := g_mod (by omega)
  have b0 := Int.emod_nonneg (cell / 6) (show ln ≠ 0 by omega)
  have b1 := Int.emod_lt_of_pos (cell / 6) (show 0 < ln by omega)
  obtain ⟨at_, hat⟩ : ∃ a, a = cell / 6 % ln := ⟨_, rfl⟩
  rw [← hat] at ml b0 b1
  have d6 : divOk (6 : Int) = true := by decide
  have d72 : divOk (72 : Int) = true := by decide
  have d16 : divOk (16 : Int) = true := by decide
  have d26 : divOk (26 : Int) = true := by decide
  have d36 : divOk (36 : Int) = true := by decide
  have s0 := Int.emod_nonneg cell (show (1000003 : Int) ≠ 0 by decide)
  have s1 := Int.emod_lt_of_pos cell (show (0 : Int) < 1000003 by decide)
  have low0 : lowS "" := fun c hc => by
    have e : ("" : Str).cps.toList = [] := rfl
    rw [e] at hc
    cases hc
  obtain ⟨e2, h2, F1, seed, rest, base, x8, rfl, k2, bl, blow, _, _⟩ := for_go (it := itR 0 ln.toNat) (g := gN 8) (b := b_l_names_1) (C := C) (n := ln.toNat) (fun j => .int (0 + j))
    (fun j e h' => ∃ seed rest base x8, e = [some (.int cell), some (.int 12), some (.str LETS), some (.int ln), some (.int at_), some (.int seed), some (.int rest), some (.str base), x8, none, none, none, none] ∧ Kp h h' ∧ base.length = j ∧ lowS base ∧ 0 ≤ seed ∧ seed < 1000003)
    (fun j e h' hj _ => by simp only [itR, if_pos hj]) (fun e h' _ => by simp [itR])
    (fun j e h' hj ⟨seed, rest, base, x8, e1, k, bl, blow, q0, q1⟩ => by
      subst e1
      have ls : Lt2 seed 30 := ⟨Nat.lt_of_lt_of_le (show seed.natAbs < 1000003 by omega) (by decide)⟩
      have m1 : mulOk seed seed = true := mulOk_of ls ls (by decide)
      have m2 : mulOk 4827 seed = true := mulOk_of (a := 30) ⟨by decide⟩ ls (by decide)
      obtain ⟨sd, hsd⟩ : ∃ sd, sd = (seed * seed + 4827 * seed + (0 + (j : Int)) + 7) % 1000003 := ⟨_, rfl⟩
      have r0 : 0 ≤ sd := by rw [hsd]; exact Int.emod_nonneg _ (by decide)
      have r1 : sd < 1000003 := by rw [hsd]; exact Int.emod_lt_of_pos _ (by decide)
      have ms : opMod (.int (seed * seed + 4827 * seed + (0 + (j : Int)) + 7)) (.int 1000003) h' = .ok (.int sd) h' := by rw [hsd]; exact g_mod (by decide)
      obtain ⟨v, hv⟩ : ∃ v, opIx (.ref h'.length) (.int (if (10 : Int) ^ (18 : Int).toNat ≤ cell then 1 else 0)) (h' ++ [.lst [.int (sd / 16), .int rest]]) = .ok (.int v) (h' ++ [.lst [.int (sd / 16), .int rest]]) := by
        by_cases c : (10 : Int) ^ (18 : Int).toNat ≤ cell
        · rw [if_pos c]; exact ⟨rest, g_ixn (by decide) rfl⟩
        · rw [if_neg c]; exact ⟨sd / 16, g_ixn (by decide) rfl⟩
      have ib : ∀ hh, bInt [.bl (decide ((10 : Int) ^ (18 : Int).toNat ≤ cell))] hh = .ok (.int (if (10 : Int) ^ (18 : Int).toNat ≤ cell then 1 else 0)) hh := fun hh => by
        by_cases c : (10 : Int) ^ (18 : Int).toNat ≤ cell
        · rw [decide_eq_true c, if_pos c]; rfl
        · rw [decide_eq_false c, if_neg c]; rfl
      have c0 := Int.emod_nonneg v (show (26 : Int) ≠ 0 by decide)
      have c1 := Int.emod_lt_of_pos v (show (0 : Int) < 26 by decide)
      have ixs := g_ixs (z := LETS) (i := v % 26) (h := h' ++ [.lst [.int (sd / 16), .int rest]]) (by rw [lets_len]; decide) c0 (by rw [lets_len]; exact c1)
      have ad := g_addS (a := base) (b := ch LETS (v % 26)) (h := h' ++ [.lst [.int (sd / 16), .int rest]]) (by rw [ch_len]; omega)
      unfold b_l_names_1
      apply turn_of
      · (repeat' first | with_reducible exact g_v rfl | with_reducible exact g_c | with_reducible exact g_an | with_reducible exact g_add | with_reducible exact g_sub | with_reducible exact g_iadd | with_reducible exact g_lt | with_reducible exact g_le | with_reducible exact g_gt | with_reducible exact g_ge | with_reducible exact g_eq | with_reducible exact g_ne | with_reducible exact g_neg | with_reducible exact g_mul (by first | assumption | omega | decide) | with_reducible exact g_div (by first | assumption | omega | decide) (by first | assumption | omega | decide) | with_reducible exact g_mod (by first | assumption | omega | decide) | with_reducible exact g_pow (by decide) | with_reducible apply g_isint | with_reducible exact g_sk | with_reducible exact g_rn | with_reducible exact g_bk | with_reducible exact g_ct | with_reducible exact g_gn0 | with_reducible apply g_gns | with_reducible exact g_ap0 | with_reducible apply g_apS | with_reducible apply g_op | with_reducible apply g_un | with_reducible apply g_ac | with_reducible apply g_call | with_reducible apply g_calld | with_reducible apply g_bf | with_reducible apply g_sq | with_reducible apply g_kn | with_reducible exact g_kr | with_reducible exact g_kb | with_reducible exact g_kc | with_reducible apply g_as | with_reducible apply g_pr | with_reducible apply g_au rfl | with_reducible apply g_rt | with_reducible apply g_ex | with_reducible apply g_if | with_reducible apply g_tv | with_reducible apply g_tan | with_reducible apply g_tor | with_reducible apply g_tnt | with_reducible apply g_ean | with_reducible apply g_eor | with_reducible apply g_ent | with_reducible apply g_eif | with_reducible apply g_iftt | with_reducible apply g_iffn | with_reducible apply g_ifff | with_reducible apply g_iftn | with_reducible refine g_ift (by first | assumption | omega | decide) ?_ | with_reducible refine g_iff (by first | assumption | omega | decide) ?_ | with_reducible refine g_ifnt (by first | assumption | omega | decide) ?_ | with_reducible refine g_ifnf (by first | assumption | omega | decide) ?_ | with_reducible exact rfl | with_reducible exact g_eqs | with_reducible exact g_nes | with_reducible exact g_neni | with_reducible exact g_nein | with_reducible exact g_nenn | with_reducible exact g_isn | with_reducible exact g_isi | with_reducible exact g_nsn | with_reducible exact g_nsi | with_reducible exact g_max | with_reducible exact g_max3 | with_reducible exact g_min | with_reducible exact g_intb | with_reducible apply g_gt2 | with_reducible apply g_gt3 | with_reducible apply g_tup | with_reducible apply g_lst | with_reducible exact lenOk rfl | with_reducible exact g_on | with_reducible apply g_os | with_reducible apply g_sl | with_reducible apply g_bkm | with_reducible exact g_okS )
      apply body_nx
      · (repeat' first | with_reducible exact ms | with_reducible exact ib _ | with_reducible exact hv | with_reducible exact ixs | with_reducible exact ad | with_reducible exact g_v rfl | with_reducible exact g_c | with_reducible exact g_an | with_reducible exact g_add | with_reducible exact g_sub | with_reducible exact g_iadd | with_reducible exact g_lt | with_reducible exact g_le | with_reducible exact g_gt | with_reducible exact g_ge | with_reducible exact g_eq | with_reducible exact g_ne | with_reducible exact g_neg | with_reducible exact g_mul (by first | assumption | omega | decide) | with_reducible exact g_div (by first | assumption | omega | decide) (by first | assumption | omega | decide) | with_reducible exact g_mod (by first | assumption | omega | decide) | with_reducible exact g_pow (by decide) | with_reducible apply g_isint | with_reducible exact g_sk | with_reducible exact g_rn | with_reducible exact g_bk | with_reducible exact g_ct | with_reducible exact g_gn0 | with_reducible apply g_gns | with_reducible exact g_ap0 | with_reducible apply g_apS | with_reducible apply g_op | with_reducible apply g_un | with_reducible apply g_ac | with_reducible apply g_call | with_reducible apply g_calld | with_reducible apply g_bf | with_reducible apply g_sq | with_reducible apply g_kn | with_reducible exact g_kr | with_reducible exact g_kb | with_reducible exact g_kc | with_reducible apply g_as | with_reducible apply g_pr | with_reducible apply g_au rfl | with_reducible apply g_rt | with_reducible apply g_ex | with_reducible apply g_if | with_reducible apply g_tv | with_reducible apply g_tan | with_reducible apply g_tor | with_reducible apply g_tnt | with_reducible apply g_ean | with_reducible apply g_eor | with_reducible apply g_ent | with_reducible apply g_eif | with_reducible apply g_iftt | with_reducible apply g_iffn | with_reducible apply g_ifff | with_reducible apply g_iftn | with_reducible refine g_ift (by first | assumption | omega | decide) ?_ | with_reducible refine g_iff (by first | assumption | omega | decide) ?_ | with_reducible refine g_ifnt (by first | assumption | omega | decide) ?_ | with_reducible refine g_ifnf (by first | assumption | omega | decide) ?_ | with_reducible exact rfl | with_reducible exact g_eqs | with_reducible exact g_nes | with_reducible exact g_neni | with_reducible exact g_nein | with_reducible exact g_nenn | with_reducible exact g_isn | with_reducible exact g_isi | with_reducible exact g_nsn | with_reducible exact g_nsi | with_reducible exact g_max | with_reducible exact g_max3 | with_reducible exact g_min | with_reducible exact g_intb | with_reducible apply g_gt2 | with_reducible apply g_gt3 | with_reducible apply g_tup | with_reducible apply g_lst | with_reducible exact lenOk rfl | with_reducible exact g_on | with_reducible apply g_os | with_reducible apply g_sl | with_reducible apply g_bkm | with_reducible exact g_okS )
      · exact ⟨sd, _, base ++ ch LETS (v % 26), _, rfl, k.trans Kp.app, by rw [app_len, ch_len, bl], lowS_app blow ch_low, r0, r1⟩)
    ln.toNat 0 [some (.int cell), some (.int 12), some (.str LETS), some (.int ln), some (.int at_), some (.int (cell % 1000003)), some (.int (cell / 72)), some (.str ""), none, none, none, none, none] h (by omega)
    ⟨cell % 1000003, cell / 72, "", none, rfl, Kp.refl, rfl, low0, s0, s1⟩ C.fuel (by omega)
  have F1 := fo_of (g := gN 8) (mi := iR1 (eV 3)) (iR1_of (C := C) (e := [some (.int cell), some (.int 12), some (.str LETS), some (.int ln), some (.int at_), some (.int (cell % 1000003)), some (.int (cell / 72)), some (.str ""), none, none, none, none, none]) (h := h) (h1 := h) (n := ln) (by (repeat' first | with_reducible exact g_v rfl | with_reducible exact g_c | with_reducible exact g_an | with_reducible exact g_add | with_reducible exact g_sub | with_reducible exact g_iadd | with_reducible exact g_lt | with_reducible exact g_le | with_reducible exact g_gt | with_reducible exact g_ge | with_reducible exact g_eq | with_reducible exact g_ne | with_reducible exact g_neg | with_reducible exact g_mul (by first | assumption | omega | decide) | with_reducible exact g_div (by first | assumption | omega | decide) (by first | assumption | omega | decide) | with_reducible exact g_mod (by first | assumption | omega | decide) | with_reducible exact g_pow (by decide) | with_reducible apply g_isint | with_reducible exact g_sk | with_reducible exact g_rn | with_reducible exact g_bk | with_reducible exact g_ct | with_reducible exact g_gn0 | with_reducible apply g_gns | with_reducible exact g_ap0 | with_reducible apply g_apS | with_reducible apply g_op | with_reducible apply g_un | with_reducible apply g_ac | with_reducible apply g_call | with_reducible apply g_calld | with_reducible apply g_bf | with_reducible apply g_sq | with_reducible apply g_kn | with_reducible exact g_kr | with_reducible exact g_kb | with_reducible exact g_kc | with_reducible apply g_as | with_reducible apply g_pr | with_reducible apply g_au rfl | with_reducible apply g_rt | with_reducible apply g_ex | with_reducible apply g_if | with_reducible apply g_tv | with_reducible apply g_tan | with_reducible apply g_tor | with_reducible apply g_tnt | with_reducible apply g_ean | with_reducible apply g_eor | with_reducible apply g_ent | with_reducible apply g_eif | with_reducible apply g_iftt | with_reducible apply g_iffn | with_reducible apply g_ifff | with_reducible apply g_iftn | with_reducible refine g_ift (by first | assumption | omega | decide) ?_ | with_reducible refine g_iff (by first | assumption | omega | decide) ?_ | with_reducible refine g_ifnt (by first | assumption | omega | decide) ?_ | with_reducible refine g_ifnf (by first | assumption | omega | decide) ?_ | with_reducible exact rfl | with_reducible exact g_eqs | with_reducible exact g_nes | with_reducible exact g_neni | with_reducible exact g_nein | with_reducible exact g_nenn | with_reducible exact g_isn | with_reducible exact g_isi | with_reducible exact g_nsn | with_reducible exact g_nsi | with_reducible exact g_max | with_reducible exact g_max3 | with_reducible exact g_min | with_reducible exact g_intb | with_reducible apply g_gt2 | with_reducible apply g_gt3 | with_reducible apply g_tup | with_reducible apply g_lst | with_reducible exact lenOk rfl | with_reducible exact g_on | with_reducible apply g_os | with_reducible apply g_sl | with_reducible apply g_bkm | with_reducible exact g_okS )) (by omega) (by omega)) F1
  have hat2 : at_ < base.length := by omega
  obtain ⟨c, hcm, hch⟩ := ch_mem b0 hat2
  have cl := blow c hcm
  have ixb := g_ixs (z := base) (i := at_) (h := h2) (by omega) b0 hat2
  rw [hch] at ixb
  have six := g_six (h := h2) cl.1 cl.2
  obtain ⟨sp, hsp⟩ : ∃ sp : Int, sp = ((c - 97 : Nat) : Int) := ⟨_, rfl⟩
  rw [← hsp] at six
  have m360 := Int.emod_nonneg (cell / 36) (show (2 : Int) ≠ 0 by decide)
  have m361 := Int.emod_lt_of_pos (cell / 36) (show (0 : Int) < 2 by decide)
  obtain ⟨m, hm⟩ : ∃ m, m = cell / 36 % 2 := ⟨_, rfl⟩
  rw [← hm] at m360 m361
  obtain ⟨e3, h3, F2, x8', x11, x12, rfl, k3, g3⟩ := for_go (it := itR 0 (12 : Int).toNat) (g := gN 8) (b := b_l_names_2) (C := C) (n := 12) (fun j => .int (0 + j))
    (fun j e h' => ∃ x8 x11 x12, e = [some (.int cell), some (.int 12), some (.str LETS), some (.int ln), some (.int at_), some (.int seed), some (.int rest), some (.str base), x8, some (.int sp), some (.ref h2.length), x11, x12] ∧ Kp h2 h' ∧ h'[h2.length]? = some (.lst (((List.range j).map (nmK base at_ sp m)).map D.str)))
    (fun j e h' hj _ => by
      have : j < (12 : Int).toNat := hj
      simp only [itR, if_pos this]) (fun e h' _ => rfl)
    (fun j e h' hj ⟨x8, x11, x12, e1, k, g⟩ => by
      subst e1
      rw [show (0 : Int) + (j : Int) = (j : Int) from Int.zero_add _]
      have mk : mulOk 3 (j : Int) = true := mulOk_of (a := 20) (b := 20) ⟨by decide⟩ ⟨by omega⟩ (by decide)
      have j0 := Int.emod_nonneg (j : Int) (show (3 : Int) ≠ 0 by decide)
      have j1 := Int.emod_lt_of_pos (j : Int) (show (0 : Int) < 3 by decide)
      have mk2 : mulOk ((j : Int) % 3) m = true := mulOk_of (a := 20) (b := 20) ⟨by omega⟩ ⟨by omega⟩ (by decide)
      have c0 := Int.emod_nonneg (sp + 3 * (j : Int)) (show (26 : Int) ≠ 0 by decide)
      have c1 := Int.emod_lt_of_pos (sp + 3 * (j : Int)) (show (0 : Int) < 26 by decide)
      have ixs := g_ixs (z := LETS) (i := (sp + 3 * (j : Int)) % 26) (h := h') (by rw [lets_len]; decide) c0 (by rw [lets_len]; exact c1)
      have t1 := g_slS (z := base) (a := none) (b := some at_) (h := h') (by omega)
      have t2 := g_slS (z := base) (a := some (at_ + 1)) (b := none) (h := h') (by omega)
      have t3 := g_slS (z := "ab") (a := none) (b := some ((j : Int) % 3 * m)) (h := h') (by decide)
      have l1 := cutS_len base none (some at_)
      have l2 := cutS_len base (some (at_ + 1)) none
      have l3 := cutS_len "ab" none (some ((j : Int) % 3 * m))
      have l4 : ("ab" : Str).length = 2 := rfl
      have a1 := g_addS (a := cutS base none (some at_)) (b := ch LETS ((sp + 3 * (j : Int)) % 26)) (h := h') (by rw [ch_len]; omega)
      have a2 := g_addS (a := cutS base none (some at_) ++ ch LETS ((sp + 3 * (j : Int)) % 26)) (b := cutS base (some (at_ + 1)) none) (h := h') (by rw [app_len, ch_len]; omega)
      have a3 := g_addS (a := cutS base none (some at_) ++ ch LETS ((sp + 3 * (j : Int)) % 26) ++ cutS base (some (at_ + 1)) none) (b := cutS "ab" none (some ((j : Int) % 3 * m))) (h := h') (by rw [app_len, app_len, ch_len]; omega)
      have okl := g_okL_of g
      have ap := g_app (y := .str (cutS base none (some at_) ++ ch LETS ((sp + 3 * (j : Int)) % 26) ++ cutS base (some (at_ + 1)) none ++ cutS "ab" none (some ((j : Int) % 3 * m)))) g (by rw [List.length_map, List.length_map, List.length_range, sizeLine_eq]; omega)
      have em : cell / 36 % 2 = m := hm.symm
      unfold b_l_names_2
      apply turn_of
      · (repeat' first | with_reducible exact g_v rfl | with_reducible exact g_c | with_reducible exact g_an | with_reducible exact g_add | with_reducible exact g_sub | with_reducible exact g_iadd | with_reducible exact g_lt | with_reducible exact g_le | with_reducible exact g_gt | with_reducible exact g_ge | with_reducible exact g_eq | with_reducible exact g_ne | with_reducible exact g_neg | with_reducible exact g_mul (by first | assumption | omega | decide) | with_reducible exact g_div (by first | assumption | omega | decide) (by first | assumption | omega | decide) | with_reducible exact g_mod (by first | assumption | omega | decide) | with_reducible exact g_pow (by decide) | with_reducible apply g_isint | with_reducible exact g_sk | with_reducible exact g_rn | with_reducible exact g_bk | with_reducible exact g_ct | with_reducible exact g_gn0 | with_reducible apply g_gns | with_reducible exact g_ap0 | with_reducible apply g_apS | with_reducible apply g_op | with_reducible apply g_un | with_reducible apply g_ac | with_reducible apply g_call | with_reducible apply g_calld | with_reducible apply g_bf | with_reducible apply g_sq | with_reducible apply g_kn | with_reducible exact g_kr | with_reducible exact g_kb | with_reducible exact g_kc | with_reducible apply g_as | with_reducible apply g_pr | with_reducible apply g_au rfl | with_reducible apply g_rt | with_reducible apply g_ex | with_reducible apply g_if | with_reducible apply g_tv | with_reducible apply g_tan | with_reducible apply g_tor | with_reducible apply g_tnt | with_reducible apply g_ean | with_reducible apply g_eor | with_reducible apply g_ent | with_reducible apply g_eif | with_reducible apply g_iftt | with_reducible apply g_iffn | with_reducible apply g_ifff | with_reducible apply g_iftn | with_reducible refine g_ift (by first | assumption | omega | decide) ?_ | with_reducible refine g_iff (by first | assumption | omega | decide) ?_ | with_reducible refine g_ifnt (by first | assumption | omega | decide) ?_ | with_reducible refine g_ifnf (by first | assumption | omega | decide) ?_ | with_reducible exact rfl | with_reducible exact g_eqs | with_reducible exact g_nes | with_reducible exact g_neni | with_reducible exact g_nein | with_reducible exact g_nenn | with_reducible exact g_isn | with_reducible exact g_isi | with_reducible exact g_nsn | with_reducible exact g_nsi | with_reducible exact g_max | with_reducible exact g_max3 | with_reducible exact g_min | with_reducible exact g_intb | with_reducible apply g_gt2 | with_reducible apply g_gt3 | with_reducible apply g_tup | with_reducible apply g_lst | with_reducible exact lenOk rfl | with_reducible exact g_on | with_reducible apply g_os | with_reducible apply g_sl | with_reducible apply g_bkm | with_reducible exact g_okS )
      have A12 : (sAs (gN 12) (eOp opMul (eOp opMod (eV 8) (eC (.int 3))) (eOp opMod (eOp opDiv (eV 0) (eC (.int 36))) (eC (.int 2))))) C [some (.int cell), some (.int 12), some (.str LETS), some (.int ln), some (.int at_), some (.int seed), some (.int rest), some (.str base), some (.int (j : Int)), some (.int sp), some (.ref h2.length), some (.str (ch LETS ((sp + 3 * (j : Int)) % 26))), x12] h' =
          .ok (.nx [some (.int cell), some (.int 12), some (.str LETS), some (.int ln), some (.int at_), some (.int seed), some (.int rest), some (.str base), some (.int (j : Int)), some (.int sp), some (.ref h2.length), some (.str (ch LETS ((sp + 3 * (j : Int)) % 26))), some (.int ((j : Int) % 3 * m))]) h' := by
        rw [← em] at mk2 ⊢
        (repeat' first | with_reducible exact g_v rfl | with_reducible exact g_c | with_reducible exact g_an | with_reducible exact g_add | with_reducible exact g_sub | with_reducible exact g_iadd | with_reducible exact g_lt | with_reducible exact g_le | with_reducible exact g_gt | with_reducible exact g_ge | with_reducible exact g_eq | with_reducible exact g_ne | with_reducible exact g_neg | with_reducible exact g_mul (by first | assumption | omega | decide) | with_reducible exact g_div (by first | assumption | omega | decide) (by first | assumption | omega | decide) | with_reducible exact g_mod (by first | assumption | omega | decide) | with_reducible exact g_pow (by decide) | with_reducible apply g_isint | with_reducible exact g_sk | with_reducible exact g_rn | with_reducible exact g_bk | with_reducible exact g_ct | with_reducible exact g_gn0 | with_reducible apply g_gns | with_reducible exact g_ap0 | with_reducible apply g_apS | with_reducible apply g_op | with_reducible apply g_un | with_reducible apply g_ac | with_reducible apply g_call | with_reducible apply g_calld | with_reducible apply g_bf | with_reducible apply g_sq | with_reducible apply g_kn | with_reducible exact g_kr | with_reducible exact g_kb | with_reducible exact g_kc | with_reducible apply g_as | with_reducible apply g_pr | with_reducible apply g_au rfl | with_reducible apply g_rt | with_reducible apply g_ex | with_reducible apply g_if | with_reducible apply g_tv | with_reducible apply g_tan | with_reducible apply g_tor | with_reducible apply g_tnt | with_reducible apply g_ean | with_reducible apply g_eor | with_reducible apply g_ent | with_reducible apply g_eif | with_reducible apply g_iftt | with_reducible apply g_iffn | with_reducible apply g_ifff | with_reducible apply g_iftn | with_reducible refine g_ift (by first | assumption | omega | decide) ?_ | with_reducible refine g_iff (by first | assumption | omega | decide) ?_ | with_reducible refine g_ifnt (by first | assumption | omega | decide) ?_ | with_reducible refine g_ifnf (by first | assumption | omega | decide) ?_ | with_reducible exact rfl | with_reducible exact g_eqs | with_reducible exact g_nes | with_reducible exact g_neni | with_reducible exact g_nein | with_reducible exact g_nenn | with_reducible exact g_isn | with_reducible exact g_isi | with_reducible exact g_nsn | with_reducible exact g_nsi | with_reducible exact g_max | with_reducible exact g_max3 | with_reducible exact g_min | with_reducible exact g_intb | with_reducible apply g_gt2 | with_reducible apply g_gt3 | with_reducible apply g_tup | with_reducible apply g_lst | with_reducible exact lenOk rfl | with_reducible exact g_on | with_reducible apply g_os | with_reducible apply g_sl | with_reducible apply g_bkm | with_reducible exact g_okS )
      apply body_nx
      · (repeat' first | with_reducible exact ixs | with_reducible exact A12 | with_reducible exact okl | with_reducible exact t1 | with_reducible exact t2 | with_reducible exact t3 | with_reducible exact a1 | with_reducible exact a2 | with_reducible exact a3 | with_reducible exact ap | with_reducible exact g_v rfl | with_reducible exact g_c | with_reducible exact g_an | with_reducible exact g_add | with_reducible exact g_sub | with_reducible exact g_iadd | with_reducible exact g_lt | with_reducible exact g_le | with_reducible exact g_gt | with_reducible exact g_ge | with_reducible exact g_eq | with_reducible exact g_ne | with_reducible exact g_neg | with_reducible exact g_mul (by first | assumption | omega | decide) | with_reducible exact g_div (by first | assumption | omega | decide) (by first | assumption | omega | decide) | with_reducible exact g_mod (by first | assumption | omega | decide) | with_reducible exact g_pow (by decide) | with_reducible apply g_isint | with_reducible exact g_sk | with_reducible exact g_rn | with_reducible exact g_bk | with_reducible exact g_ct | with_reducible exact g_gn0 | with_reducible apply g_gns | with_reducible exact g_ap0 | with_reducible apply g_apS | with_reducible apply g_op | with_reducible apply g_un | with_reducible apply g_ac | with_reducible apply g_call | with_reducible apply g_calld | with_reducible apply g_bf | with_reducible apply g_sq | with_reducible apply g_kn | with_reducible exact g_kr | with_reducible exact g_kb | with_reducible exact g_kc | with_reducible apply g_as | with_reducible apply g_pr | with_reducible apply g_au rfl | with_reducible apply g_rt | with_reducible apply g_ex | with_reducible apply g_if | with_reducible apply g_tv | with_reducible apply g_tan | with_reducible apply g_tor | with_reducible apply g_tnt | with_reducible apply g_ean | with_reducible apply g_eor | with_reducible apply g_ent | with_reducible apply g_eif | with_reducible apply g_iftt | with_reducible apply g_iffn | with_reducible apply g_ifff | with_reducible apply g_iftn | with_reducible refine g_ift (by first | assumption | omega | decide) ?_ | with_reducible refine g_iff (by first | assumption | omega | decide) ?_ | with_reducible refine g_ifnt (by first | assumption | omega | decide) ?_ | with_reducible refine g_ifnf (by first | assumption | omega | decide) ?_ | with_reducible exact rfl | with_reducible exact g_eqs | with_reducible exact g_nes | with_reducible exact g_neni | with_reducible exact g_nein | with_reducible exact g_nenn | with_reducible exact g_isn | with_reducible exact g_isi | with_reducible exact g_nsn | with_reducible exact g_nsi | with_reducible exact g_max | with_reducible exact g_max3 | with_reducible exact g_min | with_reducible exact g_intb | with_reducible apply g_gt2 | with_reducible apply g_gt3 | with_reducible apply g_tup | with_reducible apply g_lst | with_reducible exact lenOk rfl | with_reducible exact g_on | with_reducible apply g_os | with_reducible apply g_sl | with_reducible apply g_bkm | with_reducible exact g_okS )
      · refine ⟨_, _, _, rfl, k.set (Nat.le_refl _), ?_⟩
        rw [getset_same g, List.range_succ, List.map_append, List.map_append]; rfl)
    12 0 [some (.int cell), some (.int 12), some (.str LETS), some (.int ln), some (.int at_), some (.int seed), some (.int rest), some (.str base), x8, some (.int sp), some (.ref h2.length), none, none] (h2 ++ [.lst []]) (by omega) ⟨_, _, _, rfl, Kp.app, get_new⟩ C.fuel (by omega)
  have F2 := fo_of (g := gN 8) (mi := iR1 (eV 1)) (iR1_of (C := C) (e := [some (.int cell), some (.int 12), some (.str LETS), some (.int ln), some (.int at_), some (.int seed), some (.int rest), some (.str base), x8, some (.int sp), some (.ref h2.length), none, none]) (h := h2 ++ [.lst []]) (h1 := h2 ++ [.lst []]) (n := 12) (by (repeat' first | with_reducible exact g_v rfl | with_reducible exact g_c | with_reducible exact g_an | with_reducible exact g_add | with_reducible exact g_sub | with_reducible exact g_iadd | with_reducible exact g_lt | with_reducible exact g_le | with_reducible exact g_gt | with_reducible exact g_ge | with_reducible exact g_eq | with_reducible exact g_ne | with_reducible exact g_neg | with_reducible exact g_mul (by first | assumption | omega | decide) | with_reducible exact g_div (by first | assumption | omega | decide) (by first | assumption | omega | decide) | with_reducible exact g_mod (by first | assumption | omega | decide) | with_reducible exact g_pow (by decide) | with_reducible apply g_isint | with_reducible exact g_sk | with_reducible exact g_rn | with_reducible exact g_bk | with_reducible exact g_ct | with_reducible exact g_gn0 | with_reducible apply g_gns | with_reducible exact g_ap0 | with_reducible apply g_apS | with_reducible apply g_op | with_reducible apply g_un | with_reducible apply g_ac | with_reducible apply g_call | with_reducible apply g_calld | with_reducible apply g_bf | with_reducible apply g_sq | with_reducible apply g_kn | with_reducible exact g_kr | with_reducible exact g_kb | with_reducible exact g_kc | with_reducible apply g_as | with_reducible apply g_pr | with_reducible apply g_au rfl | with_reducible apply g_rt | with_reducible apply g_ex | with_reducible apply g_if | with_reducible apply g_tv | with_reducible apply g_tan | with_reducible apply g_tor | with_reducible apply g_tnt | with_reducible apply g_ean | with_reducible apply g_eor | with_reducible apply g_ent | with_reducible apply g_eif | with_reducible apply g_iftt | with_reducible apply g_iffn | with_reducible apply g_ifff | with_reducible apply g_iftn | with_reducible refine g_ift (by first | assumption | omega | decide) ?_ | with_reducible refine g_iff (by first | assumption | omega | decide) ?_ | with_reducible refine g_ifnt (by first | assumption | omega | decide) ?_ | with_reducible refine g_ifnf (by first | assumption | omega | decide) ?_ | with_reducible exact rfl | with_reducible exact g_eqs | with_reducible exact g_nes | with_reducible exact g_neni | with_reducible exact g_nein | with_reducible exact g_nenn | with_reducible exact g_isn | with_reducible exact g_isi | with_reducible exact g_nsn | with_reducible exact g_nsi | with_reducible exact g_max | with_reducible exact g_max3 | with_reducible exact g_min | with_reducible exact g_intb | with_reducible apply g_gt2 | with_reducible apply g_gt3 | with_reducible apply g_tup | with_reducible apply g_lst | with_reducible exact lenOk rfl | with_reducible exact g_on | with_reducible apply g_os | with_reducible apply g_sl | with_reducible apply g_bkm | with_reducible exact g_okS )) (by omega) (by omega)) F2
  refine ⟨_, h3, h2.length, names12_of (at_ := at_) (spot := sp) (m := m) blow (by omega) b0 hat2, ?_, k2.trans k3, g3⟩
  have L3 : (sAs (gN 3) (eOp opAdd (eC (.int 1)) (eOp opMod (eV 0) (eC (.int 6))))) C [some (.int cell), some (.int 12), some (.str LETS), none, none, none, none, none, none, none, none, none, none] h = .ok (.nx [some (.int cell), some (.int 12), some (.str LETS), some (.int ln), none, none, none, none, none, none, none, none, none]) h := by
    rw [hln]
    (repeat' first | with_reducible exact g_v rfl | with_reducible exact g_c | with_reducible exact g_an | with_reducible exact g_add | with_reducible exact g_sub | with_reducible exact g_iadd | with_reducible exact g_lt | with_reducible exact g_le | with_reducible exact g_gt | with_reducible exact g_ge | with_reducible exact g_eq | with_reducible exact g_ne | with_reducible exact g_neg | with_reducible exact g_mul (by first | assumption | omega | decide) | with_reducible exact g_div (by first | assumption | omega | decide) (by first | assumption | omega | decide) | with_reducible exact g_mod (by first | assumption | omega | decide) | with_reducible exact g_pow (by decide) | with_reducible apply g_isint | with_reducible exact g_sk | with_reducible exact g_rn | with_reducible exact g_bk | with_reducible exact g_ct | with_reducible exact g_gn0 | with_reducible apply g_gns | with_reducible exact g_ap0 | with_reducible apply g_apS | with_reducible apply g_op | with_reducible apply g_un | with_reducible apply g_ac | with_reducible apply g_call | with_reducible apply g_calld | with_reducible apply g_bf | with_reducible apply g_sq | with_reducible apply g_kn | with_reducible exact g_kr | with_reducible exact g_kb | with_reducible exact g_kc | with_reducible apply g_as | with_reducible apply g_pr | with_reducible apply g_au rfl | with_reducible apply g_rt | with_reducible apply g_ex | with_reducible apply g_if | with_reducible apply g_tv | with_reducible apply g_tan | with_reducible apply g_tor | with_reducible apply g_tnt | with_reducible apply g_ean | with_reducible apply g_eor | with_reducible apply g_ent | with_reducible apply g_eif | with_reducible apply g_iftt | with_reducible apply g_iffn | with_reducible apply g_ifff | with_reducible apply g_iftn | with_reducible refine g_ift (by first | assumption | omega | decide) ?_ | with_reducible refine g_iff (by first | assumption | omega | decide) ?_ | with_reducible refine g_ifnt (by first | assumption | omega | decide) ?_ | with_reducible refine g_ifnf (by first | assumption | omega | decide) ?_ | with_reducible exact rfl | with_reducible exact g_eqs | with_reducible exact g_nes | with_reducible exact g_neni | with_reducible exact g_nein | with_reducible exact g_nenn | with_reducible exact g_isn | with_reducible exact g_isi | with_reducible exact g_nsn | with_reducible exact g_nsi | with_reducible exact g_max | with_reducible exact g_max3 | with_reducible exact g_min | with_reducible exact g_intb | with_reducible apply g_gt2 | with_reducible apply g_gt3 | with_reducible apply g_tup | with_reducible apply g_lst | with_reducible exact lenOk rfl | with_reducible exact g_on | with_reducible apply g_os | with_reducible apply g_sl | with_reducible apply g_bkm | with_reducible exact g_okS )
  refine run_rt rfl (by simp only [List.map_cons, List.map_nil, List.length_cons, List.length_nil, List.cons_append, List.nil_append, Nat.reduceAdd, Nat.reduceSub, List.replicate_succ, List.replicate_zero]; exact rfl) ?_
  (repeat' first | with_reducible exact L3 | with_reducible exact ml | with_reducible exact F1 | with_reducible exact ixb | with_reducible exact six | with_reducible exact F2 | with_reducible exact g_v rfl | with_reducible exact g_c | with_reducible exact g_an | with_reducible exact g_add | with_reducible exact g_sub | with_reducible exact g_iadd | with_reducible exact g_lt | with_reducible exact g_le | with_reducible exact g_gt | with_reducible exact g_ge | with_reducible exact g_eq | with_reducible exact g_ne | with_reducible exact g_neg | with_reducible exact g_mul (by first | assumption | omega | decide) | with_reducible exact g_div (by first | assumption | omega | decide) (by first | assumption | omega | decide) | with_reducible exact g_mod (by first | assumption | omega | decide) | with_reducible exact g_pow (by decide) | with_reducible apply g_isint | with_reducible exact g_sk | with_reducible exact g_rn | with_reducible exact g_bk | with_reducible exact g_ct | with_reducible exact g_gn0 | with_reducible apply g_gns | with_reducible exact g_ap0 | with_reducible apply g_apS | with_reducible apply g_op | with_reducible apply g_un | with_reducible apply g_ac | with_reducible apply g_call | with_reducible apply g_calld | with_reducible apply g_bf | with_reducible apply g_sq | with_reducible apply g_kn | with_reducible exact g_kr | with_reducible exact g_kb | with_reducible exact g_kc | with_reducible apply g_as | with_reducible apply g_pr | with_reducible apply g_au rfl | with_reducible apply g_rt | with_reducible apply g_ex | with_reducible apply g_if | with_reducible apply g_tv | with_reducible apply g_tan | with_reducible apply g_tor | with_reducible apply g_tnt | with_reducible apply g_ean | with_reducible apply g_eor | with_reducible apply g_ent | with_reducible apply g_eif | with_reducible apply g_iftt | with_reducible apply g_iffn | with_reducible apply g_ifff | with_reducible apply g_iftn | with_reducible refine g_ift (by first | assumption | omega | decide) ?_ | with_reducible refine g_iff (by first | assumption | omega | decide) ?_ | with_reducible refine g_ifnt (by first | assumption | omega | decide) ?_ | with_reducible refine g_ifnf (by first | assumption | omega | decide) ?_ | with_reducible exact rfl | with_reducible exact g_eqs | with_reducible exact g_nes | with_reducible exact g_neni | with_reducible exact g_nein | with_reducible exact g_nenn | with_reducible exact g_isn | with_reducible exact g_isi | with_reducible exact g_nsn | with_reducible exact g_nsi | with_reducible exact g_max | with_reducible exact g_max3 | with_reducible exact g_min | with_reducible exact g_intb | with_reducible apply g_gt2 | with_reducible apply g_gt3 | with_reducible apply g_tup | with_reducible apply g_lst | with_reducible exact lenOk rfl | with_reducible exact g_on | with_reducible apply g_os | with_reducible apply g_sl | with_reducible apply g_bkm | with_reducible exact g_okS )
theorem fuel_T (n : Nat) : (ctx T n).fuel = FUEL := by cases n <;> rfl
theorem FUEL_eq : FUEL = 10 ^ 70 := rfl
theorem fuel_big (n : Nat) : 5000 < (ctx T n).fuel := by rw [fuel_T, FUEL_eq]; omega
/-! stand and rings of a book of one leaf -/
theorem own_leaf {L : List (Str × Int)} {x : Str × Fm} {E : List EF} (en : EnOk L [x] 1 E) (lf : x.2.pns = []) : eAt E 0 = ownE L x.2 := by
  rw [en.all 0 x (by decide) rfl]
  funext z
  unfold en1 namedIx
  rw [lf]
  rfl
theorem puts_leaf {L : List (Str × Int)} {f : Fm} {hs : List Int} {P : List (Str × Fm)} {k : Nat} {beat : Int} (fr : FmRef L P k f) (hl : hs.length = L.length) (hb : ∀ l t b, f = .raise l t b → beat = b) (nr : f.tag ≠ "row" ∧ f.tag ≠ "side" ∧ f.tag ≠ "again") :
    putsE L.length hs (fun z => (ownE L f z).isSome) (ownE L f) = leafS L hs beat f := by
  have same : (ownE L f = fun _ => none) → leafS L hs beat f = hs → putsE L.length hs (fun z => (ownE L f z).isSome) (ownE L f) = leafS L hs beat f := fun h1 h2 => by
    rw [h1, h2]
    apply List.ext_getElem?
    intro j
    unfold putsE
    rw [List.getElem?_map]
    by_cases hj : j < L.length
    · rw [List.getElem?_range hj, List.getElem?_eq_getElem (show j < hs.length by omega)]
      simp [List.getElem?_eq_getElem (show j < hs.length by omega)]
    · rw [List.getElem?_eq_none (by simp; omega), List.getElem?_eq_none (by omega)]; rfl
  cases f with
  | hold b => exact same rfl rfl
  | ring w b => exact same rfl rfl
  | row ns => exact absurd rfl nr.1
  | side ns => exact absurd rfl nr.2.1
  | again z m => exact absurd rfl nr.2.2
  | raise l t b =>
    have e := hb l t b rfl
    subst e
    have il := ixN_lt fr.1
    unfold lnm at il
    rw [List.length_map] at il
    have il : ixN_ (lnm L) l < L.length := il
    show _ = hs.set (ixN_ (lnm L) l) (rampV (hs.getD (ixN_ (lnm L) l) 0) t beat beat)
    have rv : rampV (hs.getD (ixN_ (lnm L) l) 0) t beat beat = t := by
      unfold rampV
      rw [Int.mul_ediv_cancel _ (by have := fr.2.2.2.1; omega)]
      omega
    rw [rv]
    apply List.ext_getElem?
    intro j
    unfold putsE
    rw [List.getElem?_map]
    by_cases hj : j < L.length
    · rw [List.getElem?_range hj, Option.map_some]
      by_cases e : ixN_ (lnm L) l = j
      · rw [← e, List.getElem?_set_self (by omega)]
        have : ownE L (.raise l t beat) ((ixN_ (lnm L) l : Nat) : Int) = some t := by show (if _ then _ else _) = _; rw [if_pos rfl]
        show some (if (ownE L (Fm.raise l t beat) ((ixN_ (lnm L) l : Nat) : Int)).isSome = true then (ownE L (Fm.raise l t beat) ((ixN_ (lnm L) l : Nat) : Int)).getD 0 else _) = _
        rw [this]; rfl
      · rw [List.getElem?_set_ne e, List.getElem?_eq_getElem (show j < hs.length by omega)]
        have : ownE L (.raise l t beat) ((j : Nat) : Int) = none := by
          show (if _ then _ else _) = _
          rw [if_neg (by omega)]
        show some (if (ownE L (Fm.raise l t beat) ((j : Nat) : Int)).isSome = true then (ownE L (Fm.raise l t beat) ((j : Nat) : Int)).getD 0 else _) = _
        rw [this]
        simp [List.getElem?_eq_getElem (show j < hs.length by omega)]
    · rw [List.getElem?_eq_none (by simp; omega), List.getElem?_eq_none (by rw [List.length_set]; omega)]; rfl
/-- the methods that stand and rings call -/
structure GLib (C : Ctx) (L : List (Str × Int)) (x : Str × Fm) (lg : Nat → Int) (a b : Nat) : Prop where
  made : ∀ h : HP, h[a]? = some (.lst (L.map limbD)) → h[b]? = some (.lst ([x].map partD)) → ∃ h' G E, C.make 1 [.tup [.ref a, .ref b]] h = .ok (.ref h.length) h' ∧ Kp h h' ∧ GuideAt h' h.length G L [x] lg E ∧ EnOk L [x] 1 E
  look : ∀ {h : HP} {g : Nat} {G : Gd} {E : List EF} {beat : Int}, GuideAt h g G L [x] lg E → 0 ≤ beat → beat ≤ lg 0 → C.meth 1 1 [.ref g, .int beat] h = .ok (.bl (decide (beat = lg 0))) h
  leave : ∀ {h : HP} {g : Nat} {G : Gd} {E : List EF} {t : Nat} {hs : List Int}, GuideAt h g G L [x] lg E → EnOk L [x] 1 E → h[t]? = some (.lst (hs.map D.int)) → hs.length = L.length → t ∉ G.refs → C.meth 1 2 [.ref g, .int ((0 : Nat) : Int), .ref t] h = .ok .non (h.set t (.lst ((putsE L.length hs (fun z => (eAt E 0 z).isSome) (eAt E 0)).map D.int)))
  put : ∀ {h : HP} {g : Nat} {G : Gd} {E : List EF} {t : Nat} {hs : List Int} {beat : Int}, GuideAt h g G L [x] lg E → h[t]? = some (.lst (hs.map D.int)) → hs.length = L.length → (∀ z ∈ hs, 0 ≤ z ∧ z ≤ 10 ^ 18) → 0 ≤ beat → (∀ l z b, x.2 = .raise l z b → beat ≤ b) → C.meth 1 3 [.ref g, .int ((0 : Nat) : Int), .int beat, .ref t] h = .ok .non (h.set t (.lst ((leafS L hs beat x.2).map D.int)))
  words : ∀ {h : HP} {g : Nat} {G : Gd} {E : List EF} {beat : Int}, GuideAt h g G L [x] lg E → 0 ≤ beat → beat < lg 0 → ∃ h' t ws, C.meth 1 4 [.ref g, .int ((0 : Nat) : Int), .int beat] h = .ok (.ref t) h' ∧ Kp h h' ∧ h'[t]? = some (.lst (ws.map D.str)) ∧ ws = match x.2 with
      | .ring w _ => if beat = 0 then [w] else []
      | _ => ([] : List Str)
theorem stand1 {h : HP} {C : Ctx} {L : List (Str × Int)} {x : Str × Fm} {lg : Nat → Int} {a b : Nat} (gl : GLib C L x lg a b) (o : BkOk L [x]) (fu : 1000 < C.fuel) (lf : x.2.pns = []) (nr : x.2.tag ≠ "row" ∧ x.2.tag ≠ "side" ∧ x.2.tag ≠ "again") (ga : h[a]? = some (.lst (L.map limbD))) (gb : h[b]? = some (.lst ([x].map partD)))
    {beat : Int} (b0 : 0 ≤ beat) (b1 : beat ≤ lg 0) (lr : ∀ l z b, x.2 = .raise l z b → lg 0 = b) : ∃ h' t, runFn C f_stand [.tup [.ref a, .ref b], .int beat] h = .ok (.ref t) h' ∧ Kp h h' ∧ h'[t]? = some (.lst ((leafS L (L.map (·.2)) beat x.2).map D.int)) := by
  obtain ⟨h1, G, E, mk, k1, ga1, en⟩ := gl.made h ga gb
  have o1 := ga1.ob
  have ia : ∀ h, opIx (.tup [.ref a, .ref b]) (.int 0) h = .ok (.ref a) h := fun h => g_ixt (by decide) rfl
  have ib : ∀ h, opIx (.tup [.ref a, .ref b]) (.int 1) h = .ok (.ref b) h := fun h => g_ixt (by decide) rfl
  have ol := o.l1
  have LC : eLc [4, 5] (gT [4, 5]) (iA (eOp opIx (eV 0) (eC (.int 0)))) tY (eV 5) C [some (.tup [.ref a, .ref b]), some (.int beat), some (.ref h.length), none, none, none] h1 = .ok (.ref h1.length) (h1 ++ [.lst ((L.map (·.2)).map D.int)]) := by
    refine lc_of (it := itL a) (h1 := h1) (by
      have q : (eOp opIx (eV 0) (eC (.int 0))) C [some (.tup [.ref a, .ref b]), some (.int beat), some (.ref h.length), none, none, none] h1 = .ok (.ref a) h1 := by (repeat' first | with_reducible exact ia _ | with_reducible exact g_v rfl | with_reducible exact g_c | with_reducible exact g_an | with_reducible exact g_add | with_reducible exact g_sub | with_reducible exact g_iadd | with_reducible exact g_lt | with_reducible exact g_le | with_reducible exact g_gt | with_reducible exact g_ge | with_reducible exact g_eq | with_reducible exact g_ne | with_reducible exact g_neg | with_reducible exact g_mul (by first | assumption | omega | decide) | with_reducible exact g_div (by first | assumption | omega | decide) (by first | assumption | omega | decide) | with_reducible exact g_mod (by first | assumption | omega | decide) | with_reducible exact g_pow (by decide) | with_reducible apply g_isint | with_reducible exact g_sk | with_reducible exact g_rn | with_reducible exact g_bk | with_reducible exact g_ct | with_reducible exact g_gn0 | with_reducible apply g_gns | with_reducible exact g_ap0 | with_reducible apply g_apS | with_reducible apply g_op | with_reducible apply g_un | with_reducible apply g_ac | with_reducible apply g_call | with_reducible apply g_calld | with_reducible apply g_bf | with_reducible apply g_sq | with_reducible apply g_kn | with_reducible exact g_kr | with_reducible exact g_kb | with_reducible exact g_kc | with_reducible apply g_as | with_reducible apply g_pr | with_reducible apply g_au rfl | with_reducible apply g_rt | with_reducible apply g_ex | with_reducible apply g_if | with_reducible apply g_tv | with_reducible apply g_tan | with_reducible apply g_tor | with_reducible apply g_tnt | with_reducible apply g_ean | with_reducible apply g_eor | with_reducible apply g_ent | with_reducible apply g_eif | with_reducible apply g_iftt | with_reducible apply g_iffn | with_reducible apply g_ifff | with_reducible apply g_iftn | with_reducible refine g_ift (by first | assumption | omega | decide) ?_ | with_reducible refine g_iff (by first | assumption | omega | decide) ?_ | with_reducible refine g_ifnt (by first | assumption | omega | decide) ?_ | with_reducible refine g_ifnf (by first | assumption | omega | decide) ?_ | with_reducible exact rfl | with_reducible exact g_eqs | with_reducible exact g_nes | with_reducible exact g_neni | with_reducible exact g_nein | with_reducible exact g_nenn | with_reducible exact g_isn | with_reducible exact g_isi | with_reducible exact g_nsn | with_reducible exact g_nsi | with_reducible exact g_max | with_reducible exact g_max3 | with_reducible exact g_min | with_reducible exact g_intb | with_reducible apply g_gt2 | with_reducible apply g_gt3 | with_reducible apply g_tup | with_reducible apply g_lst | with_reducible exact lenOk rfl | with_reducible exact g_on | with_reducible apply g_os | with_reducible apply g_sl | with_reducible apply g_bkm | with_reducible exact g_okS )
      unfold iA; rw [q]; simp only [Z.R.bind_ok, isL_of (k1 _ _ ga)]) ?_
    rw [List.map_map]
    exact cmp_map limbD _ (fun i x q => itL_at (k1 _ _ ga) q) (itL_end (k1 _ _ ga)) (fun x _ => ⟨_, rfl, rfl⟩) (by omega) fu
  obtain ⟨h2, hh2⟩ : ∃ h2, h2 = h1 ++ [O.lst ((L.map (·.2)).map D.int)] := ⟨_, rfl⟩
  rw [← hh2] at LC
  have k2 : Kp h1 h2 := by rw [hh2]; exact Kp.app
  have g2 : h2[h1.length]? = some (.lst ((L.map (·.2)).map D.int)) := by rw [hh2]; exact get_new
  have ga2 := ga1.kp k2
  have ht := ga1.lt (Nat.le_refl h1.length)
  have lb : bLen [.ref b] h2 = .ok (.int 1) h2 := by rw [g_lenL (k2 _ _ (k1 _ _ gb))]; rfl
  have hbd : ∀ z ∈ L.map (·.2), 0 ≤ z ∧ z ≤ 10 ^ 18 := fun z hz => by
    obtain ⟨y, hy, rfl⟩ := List.mem_map.mp hz
    exact o.lht y hy
  have MK : ∀ e : Ev, e[0]? = some (some (.tup [.ref a, .ref b])) → eMake 1 (aC (eV 0) aN) C e h = .ok (.ref h.length) h1 := fun e q => g_make (g_ac (g_v q) g_an) mk
  have LK : ∀ e : Ev, e[1]? = some (some (.int beat)) → e[2]? = some (some (.ref h.length)) → eMeth [1] (eV 2) 1 "look_at" (aC (eV 1) aN) C e h2 = .ok (.bl (decide (beat = lg 0))) h2 := fun e q1 q2 =>
    g_meth (g_v q2) ga2.ob (by decide) rfl (g_ac (g_v q1) g_an) (gl.look ga2 b0 b1)
  have l1 := k1.len
  have kh : ∀ o, Kp h (h2.set h1.length o) := fun o => (k1.trans k2).set l1
  by_cases c : beat = lg 0
  · have lv := gl.leave ga2 en g2 (by rw [List.length_map]) ht.2.2.2.2.2.2
    have fr := o.fm 0 x rfl
    rw [own_leaf en lf, puts_leaf (beat := beat) fr (by rw [List.length_map]) (fun l t b e => by rw [c]; exact lr l t b e) nr] at lv
    have LV : ∀ e : Ev, e[0]? = some (some (.tup [.ref a, .ref b])) → e[2]? = some (some (.ref h.length)) → e[3]? = some (some (.ref h1.length)) → eMeth [1] (eV 2) 2 "leave" (aC (eOp opSub (eBf bLen (aC (eOp opIx (eV 0) (eC (.int 1))) aN)) (eC (.int 1))) (aC (eV 3) aN)) C e h2 = .ok .non (h2.set h1.length (.lst ((leafS L (L.map (·.2)) beat x.2).map D.int))) := fun e q0 q2 q3 =>
      g_meth (g_v q2) ga2.ob (by decide) rfl (g_ac (g_op (g_bf (g_ac (g_op (g_v q0) g_c (ib _)) g_an) lb) g_c g_sub) (g_ac (g_v q3) g_an)) lv
    refine ⟨_, h1.length, ?_, kh _, getset_same g2⟩
    refine run_rt rfl (by simp only [List.map_cons, List.map_nil, List.length_cons, List.length_nil, List.cons_append, List.nil_append, Nat.reduceAdd, Nat.reduceSub, List.replicate_succ, List.replicate_zero]; exact rfl) ?_
    (repeat' first | with_reducible exact MK _ rfl | with_reducible exact LC | with_reducible exact LK _ rfl rfl | with_reducible exact LV _ rfl rfl rfl | with_reducible exact g_v rfl | with_reducible exact g_c | with_reducible exact g_an | with_reducible exact g_add | with_reducible exact g_sub | with_reducible exact g_iadd | with_reducible exact g_lt | with_reducible exact g_le | with_reducible exact g_gt | with_reducible exact g_ge | with_reducible exact g_eq | with_reducible exact g_ne | with_reducible exact g_neg | with_reducible exact g_mul (by first | assumption | omega | decide) | with_reducible exact g_div (by first | assumption | omega | decide) (by first | assumption | omega | decide) | with_reducible exact g_mod (by first | assumption | omega | decide) | with_reducible exact g_pow (by decide) | with_reducible apply g_isint | with_reducible exact g_sk | with_reducible exact g_rn | with_reducible exact g_bk | with_reducible exact g_ct | with_reducible exact g_gn0 | with_reducible apply g_gns | with_reducible exact g_ap0 | with_reducible apply g_apS | with_reducible apply g_op | with_reducible apply g_un | with_reducible apply g_ac | with_reducible apply g_call | with_reducible apply g_calld | with_reducible apply g_bf | with_reducible apply g_sq | with_reducible apply g_kn | with_reducible exact g_kr | with_reducible exact g_kb | with_reducible exact g_kc | with_reducible apply g_as | with_reducible apply g_pr | with_reducible apply g_au rfl | with_reducible apply g_rt | with_reducible apply g_ex | with_reducible apply g_if | with_reducible apply g_tv | with_reducible apply g_tan | with_reducible apply g_tor | with_reducible apply g_tnt | with_reducible apply g_ean | with_reducible apply g_eor | with_reducible apply g_ent | with_reducible apply g_eif | with_reducible apply g_iftt | with_reducible apply g_iffn | with_reducible apply g_ifff | with_reducible apply g_iftn | with_reducible refine g_ift (by first | assumption | omega | decide) ?_ | with_reducible refine g_iff (by first | assumption | omega | decide) ?_ | with_reducible refine g_ifnt (by first | assumption | omega | decide) ?_ | with_reducible refine g_ifnf (by first | assumption | omega | decide) ?_ | with_reducible exact rfl | with_reducible exact g_eqs | with_reducible exact g_nes | with_reducible exact g_neni | with_reducible exact g_nein | with_reducible exact g_nenn | with_reducible exact g_isn | with_reducible exact g_isi | with_reducible exact g_nsn | with_reducible exact g_nsi | with_reducible exact g_max | with_reducible exact g_max3 | with_reducible exact g_min | with_reducible exact g_intb | with_reducible apply g_gt2 | with_reducible apply g_gt3 | with_reducible apply g_tup | with_reducible apply g_lst | with_reducible exact lenOk rfl | with_reducible exact g_on | with_reducible apply g_os | with_reducible apply g_sl | with_reducible apply g_bkm | with_reducible exact g_okS )
  · have pt := gl.put ga2 g2 (by rw [List.length_map]) hbd b0 (fun l z b e => by have := lr l z b e; omega)
    have PT : ∀ e : Ev, e[0]? = some (some (.tup [.ref a, .ref b])) → e[1]? = some (some (.int beat)) → e[2]? = some (some (.ref h.length)) → e[3]? = some (some (.ref h1.length)) → eMeth [1] (eV 2) 3 "put" (aC (eOp opSub (eBf bLen (aC (eOp opIx (eV 0) (eC (.int 1))) aN)) (eC (.int 1))) (aC (eV 1) (aC (eV 3) aN))) C e h2 = .ok .non (h2.set h1.length (.lst ((leafS L (L.map (·.2)) beat x.2).map D.int))) := fun e q0 q1 q2 q3 =>
      g_meth (g_v q2) ga2.ob (by decide) rfl (g_ac (g_op (g_bf (g_ac (g_op (g_v q0) g_c (ib _)) g_an) lb) g_c g_sub) (g_ac (g_v q1) (g_ac (g_v q3) g_an))) pt
    refine ⟨_, h1.length, ?_, kh _, getset_same g2⟩
    refine run_rt rfl (by simp only [List.map_cons, List.map_nil, List.length_cons, List.length_nil, List.cons_append, List.nil_append, Nat.reduceAdd, Nat.reduceSub, List.replicate_succ, List.replicate_zero]; exact rfl) ?_
    (repeat' first | with_reducible exact MK _ rfl | with_reducible exact LC | with_reducible exact LK _ rfl rfl | with_reducible exact PT _ rfl rfl rfl rfl | with_reducible exact g_v rfl | with_reducible exact g_c | with_reducible exact g_an | with_reducible exact g_add | with_reducible exact g_sub | with_reducible exact g_iadd | with_reducible exact g_lt | with_reducible exact g_le | with_reducible exact g_gt | with_reducible exact g_ge | with_reducible exact g_eq | with_reducible exact g_ne | with_reducible exact g_neg | with_reducible exact g_mul (by first | assumption | omega | decide) | with_reducible exact g_div (by first | assumption | omega | decide) (by first | assumption | omega | decide) | with_reducible exact g_mod (by first | assumption | omega | decide) | with_reducible exact g_pow (by decide) | with_reducible apply g_isint | with_reducible exact g_sk | with_reducible exact g_rn | with_reducible exact g_bk | with_reducible exact g_ct | with_reducible exact g_gn0 | with_reducible apply g_gns | with_reducible exact g_ap0 | with_reducible apply g_apS | with_reducible apply g_op | with_reducible apply g_un | with_reducible apply g_ac | with_reducible apply g_call | with_reducible apply g_calld | with_reducible apply g_bf | with_reducible apply g_sq | with_reducible apply g_kn | with_reducible exact g_kr | with_reducible exact g_kb | with_reducible exact g_kc | with_reducible apply g_as | with_reducible apply g_pr | with_reducible apply g_au rfl | with_reducible apply g_rt | with_reducible apply g_ex | with_reducible apply g_if | with_reducible apply g_tv | with_reducible apply g_tan | with_reducible apply g_tor | with_reducible apply g_tnt | with_reducible apply g_ean | with_reducible apply g_eor | with_reducible apply g_ent | with_reducible apply g_eif | with_reducible apply g_iftt | with_reducible apply g_iffn | with_reducible apply g_ifff | with_reducible apply g_iftn | with_reducible refine g_ift (by first | assumption | omega | decide) ?_ | with_reducible refine g_iff (by first | assumption | omega | decide) ?_ | with_reducible refine g_ifnt (by first | assumption | omega | decide) ?_ | with_reducible refine g_ifnf (by first | assumption | omega | decide) ?_ | with_reducible exact rfl | with_reducible exact g_eqs | with_reducible exact g_nes | with_reducible exact g_neni | with_reducible exact g_nein | with_reducible exact g_nenn | with_reducible exact g_isn | with_reducible exact g_isi | with_reducible exact g_nsn | with_reducible exact g_nsi | with_reducible exact g_max | with_reducible exact g_max3 | with_reducible exact g_min | with_reducible exact g_intb | with_reducible apply g_gt2 | with_reducible apply g_gt3 | with_reducible apply g_tup | with_reducible apply g_lst | with_reducible exact lenOk rfl | with_reducible exact g_on | with_reducible apply g_os | with_reducible apply g_sl | with_reducible apply g_bkm | with_reducible exact g_okS )
theorem rings1 {h : HP} {C : Ctx} {L : List (Str × Int)} {x : Str × Fm} {lg : Nat → Int} {a b : Nat} (gl : GLib C L x lg a b) (ga : h[a]? = some (.lst (L.map limbD))) (gb : h[b]? = some (.lst ([x].map partD))) {beat : Int} (b0 : 0 ≤ beat) (b1 : beat ≤ lg 0) (lp : 1 ≤ lg 0) :
    ∃ h' t ws, runFn C f_rings [.tup [.ref a, .ref b], .int beat] h = .ok (.ref t) h' ∧ Kp h h' ∧ h'[t]? = some (.lst (ws.map D.str)) ∧ ws = match x.2 with
      | .ring w _ => if beat = 0 then [w] else []
      | _ => ([] : List Str) := by
  obtain ⟨h1, G, E, mk, k1, ga1, en⟩ := gl.made h ga gb
  have ib : ∀ h, opIx (.tup [.ref a, .ref b]) (.int 1) h = .ok (.ref b) h := fun h => g_ixt (by decide) rfl
  have lb : bLen [.ref b] h1 = .ok (.int 1) h1 := by rw [g_lenL (k1 _ _ gb)]; rfl
  have MK : ∀ e : Ev, e[0]? = some (some (.tup [.ref a, .ref b])) → eMake 1 (aC (eV 0) aN) C e h = .ok (.ref h.length) h1 := fun e q => g_make (g_ac (g_v q) g_an) mk
  have LK : ∀ e : Ev, e[1]? = some (some (.int beat)) → e[2]? = some (some (.ref h.length)) → eMeth [1] (eV 2) 1 "look_at" (aC (eV 1) aN) C e h1 = .ok (.bl (decide (beat = lg 0))) h1 := fun e q1 q2 =>
    g_meth (g_v q2) ga1.ob (by decide) rfl (g_ac (g_v q1) g_an) (gl.look ga1 b0 b1)
  by_cases c : beat = lg 0
  · refine ⟨h1 ++ [.lst []], h1.length, [], ?_, k1.trans Kp.app, get_new, ?_⟩
    · refine run_rt rfl (by simp only [List.map_cons, List.map_nil, List.length_cons, List.length_nil, List.cons_append, List.nil_append, Nat.reduceAdd, Nat.reduceSub, List.replicate_succ, List.replicate_zero]; exact rfl) ?_
      (repeat' first | with_reducible exact MK _ rfl | with_reducible exact LK _ rfl rfl | with_reducible exact g_v rfl | with_reducible exact g_c | with_reducible exact g_an | with_reducible exact g_add | with_reducible exact g_sub | with_reducible exact g_iadd | with_reducible exact g_lt | with_reducible exact g_le | with_reducible exact g_gt | with_reducible exact g_ge | with_reducible exact g_eq | with_reducible exact g_ne | with_reducible exact g_neg | with_reducible exact g_mul (by first | assumption | omega | decide) | with_reducible exact g_div (by first | assumption | omega | decide) (by first | assumption | omega | decide) | with_reducible exact g_mod (by first | assumption | omega | decide) | with_reducible exact g_pow (by decide) | with_reducible apply g_isint | with_reducible exact g_sk | with_reducible exact g_rn | with_reducible exact g_bk | with_reducible exact g_ct | with_reducible exact g_gn0 | with_reducible apply g_gns | with_reducible exact g_ap0 | with_reducible apply g_apS | with_reducible apply g_op | with_reducible apply g_un | with_reducible apply g_ac | with_reducible apply g_call | with_reducible apply g_calld | with_reducible apply g_bf | with_reducible apply g_sq | with_reducible apply g_kn | with_reducible exact g_kr | with_reducible exact g_kb | with_reducible exact g_kc | with_reducible apply g_as | with_reducible apply g_pr | with_reducible apply g_au rfl | with_reducible apply g_rt | with_reducible apply g_ex | with_reducible apply g_if | with_reducible apply g_tv | with_reducible apply g_tan | with_reducible apply g_tor | with_reducible apply g_tnt | with_reducible apply g_ean | with_reducible apply g_eor | with_reducible apply g_ent | with_reducible apply g_eif | with_reducible apply g_iftt | with_reducible apply g_iffn | with_reducible apply g_ifff | with_reducible apply g_iftn | with_reducible refine g_ift (by first | assumption | omega | decide) ?_ | with_reducible refine g_iff (by first | assumption | omega | decide) ?_ | with_reducible refine g_ifnt (by first | assumption | omega | decide) ?_ | with_reducible refine g_ifnf (by first | assumption | omega | decide) ?_ | with_reducible exact rfl | with_reducible exact g_eqs | with_reducible exact g_nes | with_reducible exact g_neni | with_reducible exact g_nein | with_reducible exact g_nenn | with_reducible exact g_isn | with_reducible exact g_isi | with_reducible exact g_nsn | with_reducible exact g_nsi | with_reducible exact g_max | with_reducible exact g_max3 | with_reducible exact g_min | with_reducible exact g_intb | with_reducible apply g_gt2 | with_reducible apply g_gt3 | with_reducible apply g_tup | with_reducible apply g_lst | with_reducible exact lenOk rfl | with_reducible exact g_on | with_reducible apply g_os | with_reducible apply g_sl | with_reducible apply g_bkm | with_reducible exact g_okS )
    · have nz : ¬ beat = 0 := by omega
      obtain ⟨n, f⟩ := x
      cases f with
      | ring w b => show [] = if beat = 0 then [w] else []; rw [if_neg nz]
      | _ => rfl
  · obtain ⟨h2, t, ws, wr, k2, g2, hw⟩ := gl.words ga1 b0 (by omega)
    have WR : ∀ e : Ev, e[0]? = some (some (.tup [.ref a, .ref b])) → e[1]? = some (some (.int beat)) → e[2]? = some (some (.ref h.length)) → eMeth [1] (eV 2) 4 "words" (aC (eOp opSub (eBf bLen (aC (eOp opIx (eV 0) (eC (.int 1))) aN)) (eC (.int 1))) (aC (eV 1) aN)) C e h1 = .ok (.ref t) h2 := fun e q0 q1 q2 =>
      g_meth (g_v q2) ga1.ob (by decide) rfl (g_ac (g_op (g_bf (g_ac (g_op (g_v q0) g_c (ib _)) g_an) lb) g_c g_sub) (g_ac (g_v q1) g_an)) wr
    refine ⟨h2, t, ws, ?_, k1.trans k2, g2, hw⟩
    refine run_rt rfl (by simp only [List.map_cons, List.map_nil, List.length_cons, List.length_nil, List.cons_append, List.nil_append, Nat.reduceAdd, Nat.reduceSub, List.replicate_succ, List.replicate_zero]; exact rfl) ?_
    (repeat' first | with_reducible exact MK _ rfl | with_reducible exact LK _ rfl rfl | with_reducible exact WR _ rfl rfl rfl | with_reducible exact g_v rfl | with_reducible exact g_c | with_reducible exact g_an | with_reducible exact g_add | with_reducible exact g_sub | with_reducible exact g_iadd | with_reducible exact g_lt | with_reducible exact g_le | with_reducible exact g_gt | with_reducible exact g_ge | with_reducible exact g_eq | with_reducible exact g_ne | with_reducible exact g_neg | with_reducible exact g_mul (by first | assumption | omega | decide) | with_reducible exact g_div (by first | assumption | omega | decide) (by first | assumption | omega | decide) | with_reducible exact g_mod (by first | assumption | omega | decide) | with_reducible exact g_pow (by decide) | with_reducible apply g_isint | with_reducible exact g_sk | with_reducible exact g_rn | with_reducible exact g_bk | with_reducible exact g_ct | with_reducible exact g_gn0 | with_reducible apply g_gns | with_reducible exact g_ap0 | with_reducible apply g_apS | with_reducible apply g_op | with_reducible apply g_un | with_reducible apply g_ac | with_reducible apply g_call | with_reducible apply g_calld | with_reducible apply g_bf | with_reducible apply g_sq | with_reducible apply g_kn | with_reducible exact g_kr | with_reducible exact g_kb | with_reducible exact g_kc | with_reducible apply g_as | with_reducible apply g_pr | with_reducible apply g_au rfl | with_reducible apply g_rt | with_reducible apply g_ex | with_reducible apply g_if | with_reducible apply g_tv | with_reducible apply g_tan | with_reducible apply g_tor | with_reducible apply g_tnt | with_reducible apply g_ean | with_reducible apply g_eor | with_reducible apply g_ent | with_reducible apply g_eif | with_reducible apply g_iftt | with_reducible apply g_iffn | with_reducible apply g_ifff | with_reducible apply g_iftn | with_reducible refine g_ift (by first | assumption | omega | decide) ?_ | with_reducible refine g_iff (by first | assumption | omega | decide) ?_ | with_reducible refine g_ifnt (by first | assumption | omega | decide) ?_ | with_reducible refine g_ifnf (by first | assumption | omega | decide) ?_ | with_reducible exact rfl | with_reducible exact g_eqs | with_reducible exact g_nes | with_reducible exact g_neni | with_reducible exact g_nein | with_reducible exact g_nenn | with_reducible exact g_isn | with_reducible exact g_isi | with_reducible exact g_nsn | with_reducible exact g_nsi | with_reducible exact g_max | with_reducible exact g_max3 | with_reducible exact g_min | with_reducible exact g_intb | with_reducible apply g_gt2 | with_reducible apply g_gt3 | with_reducible apply g_tup | with_reducible apply g_lst | with_reducible exact lenOk rfl | with_reducible exact g_on | with_reducible apply g_os | with_reducible apply g_sl | with_reducible apply g_bkm | with_reducible exact g_okS )
/-! _law_alike: lists of whole numbers, of texts -/
theorem ist_S {T : String} {C : Ctx} {e : Ev} {h : HP} {k : Nat} {x : Str} (q : e[k]? = some (some (.str x))) : tV (eIs T (eV k)) C e h = .ok ("str" == T || ("str" == "bool" && T == "int")) h := by
  unfold tV eIs; rw [g_v q]; rfl
theorem alikeZ {C : Ctx} {h : HP} {i j : Nat} {xs : List D} (fu : 1000 < C.fuel) (l : xs.length ≤ 500) (gi : h[i]? = some (.lst xs)) (gj : h[j]? = some (.lst xs)) (hx : ∀ x ∈ xs, (∃ z, x = .int z) ∨ ∃ z, x = .str z) : runFn C f_l_alike [.ref i, .ref j] h = .ok (.bl true) h := by
  obtain ⟨e2, h2, F, x2, x3, rfl, rfl⟩ := for_go (it := itZ i j) (g := gT [2, 3]) (b := b_l_alike_1) (C := C) (n := xs.length) (fun k => .tup [xs.getD k .non, xs.getD k .non])
    (fun k e h' => ∃ x2 x3, e = [some (.ref i), some (.ref j), x2, x3] ∧ h' = h)
    (fun k e h' hk ⟨x2, x3, e1, e2⟩ => by
      subst e2
      have q : xs[k]? = some (xs.getD k .non) := by rw [List.getD_eq_getElem?_getD, List.getElem?_eq_getElem hk]; rfl
      simp only [itZ, itL, gi, gj, q])
    (fun e h' ⟨x2, x3, e1, e2⟩ => by
      subst e2
      have q : xs[xs.length]? = none := List.getElem?_eq_none (Nat.le_refl _)
      simp only [itZ, itL, gi, gj, q])
    (fun k e h' hk ⟨x2, x3, e1, e2⟩ => by
      subst e1 e2
      have hm : xs.getD k .non ∈ xs := by rw [List.getD_eq_getElem?_getD, List.getElem?_eq_getElem hk]; exact List.getElem_mem hk
      rcases hx _ hm with ⟨z, e⟩ | ⟨z, e⟩ <;> rw [e]
      · have i1 : tV (eIs "str" (eV 3)) C [some (.ref i), some (.ref j), some (.int z), some (.int z)] h' = .ok false h' := ist_I rfl
        have i2 : tV (eIs "int" (eV 2)) C [some (.ref i), some (.ref j), some (.int z), some (.int z)] h' = .ok true h' := ist_I rfl
        have i3 : tV (eIs "bool" (eV 2)) C [some (.ref i), some (.ref j), some (.int z), some (.int z)] h' = .ok false h' := ist_I rfl
        have ne : opNe (.int z) (.int z) h' = .ok (.bl false) h' := g_ner
        unfold b_l_alike_1
        apply turn_of
        · (repeat' first | with_reducible exact g_v rfl | with_reducible exact g_c | with_reducible exact g_an | with_reducible exact g_add | with_reducible exact g_sub | with_reducible exact g_iadd | with_reducible exact g_lt | with_reducible exact g_le | with_reducible exact g_gt | with_reducible exact g_ge | with_reducible exact g_eq | with_reducible exact g_ne | with_reducible exact g_neg | with_reducible exact g_mul (by first | assumption | omega | decide) | with_reducible exact g_div (by first | assumption | omega | decide) (by first | assumption | omega | decide) | with_reducible exact g_mod (by first | assumption | omega | decide) | with_reducible exact g_pow (by decide) | with_reducible apply g_isint | with_reducible exact g_sk | with_reducible exact g_rn | with_reducible exact g_bk | with_reducible exact g_ct | with_reducible exact g_gn0 | with_reducible apply g_gns | with_reducible exact g_ap0 | with_reducible apply g_apS | with_reducible apply g_op | with_reducible apply g_un | with_reducible apply g_ac | with_reducible apply g_call | with_reducible apply g_calld | with_reducible apply g_bf | with_reducible apply g_sq | with_reducible apply g_kn | with_reducible exact g_kr | with_reducible exact g_kb | with_reducible exact g_kc | with_reducible apply g_as | with_reducible apply g_pr | with_reducible apply g_au rfl | with_reducible apply g_rt | with_reducible apply g_ex | with_reducible apply g_if | with_reducible apply g_tv | with_reducible apply g_tan | with_reducible apply g_tor | with_reducible apply g_tnt | with_reducible apply g_ean | with_reducible apply g_eor | with_reducible apply g_ent | with_reducible apply g_eif | with_reducible apply g_iftt | with_reducible apply g_iffn | with_reducible apply g_ifff | with_reducible apply g_iftn | with_reducible refine g_ift (by first | assumption | omega | decide) ?_ | with_reducible refine g_iff (by first | assumption | omega | decide) ?_ | with_reducible refine g_ifnt (by first | assumption | omega | decide) ?_ | with_reducible refine g_ifnf (by first | assumption | omega | decide) ?_ | with_reducible exact rfl | with_reducible exact g_eqs | with_reducible exact g_nes | with_reducible exact g_neni | with_reducible exact g_nein | with_reducible exact g_nenn | with_reducible exact g_isn | with_reducible exact g_isi | with_reducible exact g_nsn | with_reducible exact g_nsi | with_reducible exact g_max | with_reducible exact g_max3 | with_reducible exact g_min | with_reducible exact g_intb | with_reducible apply g_gt2 | with_reducible apply g_gt3 | with_reducible apply g_tup | with_reducible apply g_lst | with_reducible exact lenOk rfl | with_reducible exact g_on | with_reducible apply g_os | with_reducible apply g_sl | with_reducible apply g_bkm | with_reducible exact g_okS )
        apply body_nx
        · (repeat' first | with_reducible exact i1 | with_reducible exact i2 | with_reducible exact i3 | with_reducible exact ne | with_reducible exact g_v rfl | with_reducible exact g_c | with_reducible exact g_an | with_reducible exact g_add | with_reducible exact g_sub | with_reducible exact g_iadd | with_reducible exact g_lt | with_reducible exact g_le | with_reducible exact g_gt | with_reducible exact g_ge | with_reducible exact g_eq | with_reducible exact g_ne | with_reducible exact g_neg | with_reducible exact g_mul (by first | assumption | omega | decide) | with_reducible exact g_div (by first | assumption | omega | decide) (by first | assumption | omega | decide) | with_reducible exact g_mod (by first | assumption | omega | decide) | with_reducible exact g_pow (by decide) | with_reducible apply g_isint | with_reducible exact g_sk | with_reducible exact g_rn | with_reducible exact g_bk | with_reducible exact g_ct | with_reducible exact g_gn0 | with_reducible apply g_gns | with_reducible exact g_ap0 | with_reducible apply g_apS | with_reducible apply g_op | with_reducible apply g_un | with_reducible apply g_ac | with_reducible apply g_call | with_reducible apply g_calld | with_reducible apply g_bf | with_reducible apply g_sq | with_reducible apply g_kn | with_reducible exact g_kr | with_reducible exact g_kb | with_reducible exact g_kc | with_reducible apply g_as | with_reducible apply g_pr | with_reducible apply g_au rfl | with_reducible apply g_rt | with_reducible apply g_ex | with_reducible apply g_if | with_reducible apply g_tv | with_reducible apply g_tan | with_reducible apply g_tor | with_reducible apply g_tnt | with_reducible apply g_ean | with_reducible apply g_eor | with_reducible apply g_ent | with_reducible apply g_eif | with_reducible apply g_iftt | with_reducible apply g_iffn | with_reducible apply g_ifff | with_reducible apply g_iftn | with_reducible refine g_ift (by first | assumption | omega | decide) ?_ | with_reducible refine g_iff (by first | assumption | omega | decide) ?_ | with_reducible refine g_ifnt (by first | assumption | omega | decide) ?_ | with_reducible refine g_ifnf (by first | assumption | omega | decide) ?_ | with_reducible exact rfl | with_reducible exact g_eqs | with_reducible exact g_nes | with_reducible exact g_neni | with_reducible exact g_nein | with_reducible exact g_nenn | with_reducible exact g_isn | with_reducible exact g_isi | with_reducible exact g_nsn | with_reducible exact g_nsi | with_reducible exact g_max | with_reducible exact g_max3 | with_reducible exact g_min | with_reducible exact g_intb | with_reducible apply g_gt2 | with_reducible apply g_gt3 | with_reducible apply g_tup | with_reducible apply g_lst | with_reducible exact lenOk rfl | with_reducible exact g_on | with_reducible apply g_os | with_reducible apply g_sl | with_reducible apply g_bkm | with_reducible exact g_okS )
        · exact ⟨_, _, rfl, rfl⟩
      · have i1 : tV (eIs "str" (eV 3)) C [some (.ref i), some (.ref j), some (.str z), some (.str z)] h' = .ok true h' := ist_S rfl
        have i2 : tV (eIs "str" (eV 2)) C [some (.ref i), some (.ref j), some (.str z), some (.str z)] h' = .ok true h' := ist_S rfl
        unfold b_l_alike_1
        apply turn_of
        · (repeat' first | with_reducible exact g_v rfl | with_reducible exact g_c | with_reducible exact g_an | with_reducible exact g_add | with_reducible exact g_sub | with_reducible exact g_iadd | with_reducible exact g_lt | with_reducible exact g_le | with_reducible exact g_gt | with_reducible exact g_ge | with_reducible exact g_eq | with_reducible exact g_ne | with_reducible exact g_neg | with_reducible exact g_mul (by first | assumption | omega | decide) | with_reducible exact g_div (by first | assumption | omega | decide) (by first | assumption | omega | decide) | with_reducible exact g_mod (by first | assumption | omega | decide) | with_reducible exact g_pow (by decide) | with_reducible apply g_isint | with_reducible exact g_sk | with_reducible exact g_rn | with_reducible exact g_bk | with_reducible exact g_ct | with_reducible exact g_gn0 | with_reducible apply g_gns | with_reducible exact g_ap0 | with_reducible apply g_apS | with_reducible apply g_op | with_reducible apply g_un | with_reducible apply g_ac | with_reducible apply g_call | with_reducible apply g_calld | with_reducible apply g_bf | with_reducible apply g_sq | with_reducible apply g_kn | with_reducible exact g_kr | with_reducible exact g_kb | with_reducible exact g_kc | with_reducible apply g_as | with_reducible apply g_pr | with_reducible apply g_au rfl | with_reducible apply g_rt | with_reducible apply g_ex | with_reducible apply g_if | with_reducible apply g_tv | with_reducible apply g_tan | with_reducible apply g_tor | with_reducible apply g_tnt | with_reducible apply g_ean | with_reducible apply g_eor | with_reducible apply g_ent | with_reducible apply g_eif | with_reducible apply g_iftt | with_reducible apply g_iffn | with_reducible apply g_ifff | with_reducible apply g_iftn | with_reducible refine g_ift (by first | assumption | omega | decide) ?_ | with_reducible refine g_iff (by first | assumption | omega | decide) ?_ | with_reducible refine g_ifnt (by first | assumption | omega | decide) ?_ | with_reducible refine g_ifnf (by first | assumption | omega | decide) ?_ | with_reducible exact rfl | with_reducible exact g_eqs | with_reducible exact g_nes | with_reducible exact g_neni | with_reducible exact g_nein | with_reducible exact g_nenn | with_reducible exact g_isn | with_reducible exact g_isi | with_reducible exact g_nsn | with_reducible exact g_nsi | with_reducible exact g_max | with_reducible exact g_max3 | with_reducible exact g_min | with_reducible exact g_intb | with_reducible apply g_gt2 | with_reducible apply g_gt3 | with_reducible apply g_tup | with_reducible apply g_lst | with_reducible exact lenOk rfl | with_reducible exact g_on | with_reducible apply g_os | with_reducible apply g_sl | with_reducible apply g_bkm | with_reducible exact g_okS )
        apply body_nx
        · (repeat' first | with_reducible exact i1 | with_reducible exact i2 | with_reducible exact g_nesr | with_reducible exact g_v rfl | with_reducible exact g_c | with_reducible exact g_an | with_reducible exact g_add | with_reducible exact g_sub | with_reducible exact g_iadd | with_reducible exact g_lt | with_reducible exact g_le | with_reducible exact g_gt | with_reducible exact g_ge | with_reducible exact g_eq | with_reducible exact g_ne | with_reducible exact g_neg | with_reducible exact g_mul (by first | assumption | omega | decide) | with_reducible exact g_div (by first | assumption | omega | decide) (by first | assumption | omega | decide) | with_reducible exact g_mod (by first | assumption | omega | decide) | with_reducible exact g_pow (by decide) | with_reducible apply g_isint | with_reducible exact g_sk | with_reducible exact g_rn | with_reducible exact g_bk | with_reducible exact g_ct | with_reducible exact g_gn0 | with_reducible apply g_gns | with_reducible exact g_ap0 | with_reducible apply g_apS | with_reducible apply g_op | with_reducible apply g_un | with_reducible apply g_ac | with_reducible apply g_call | with_reducible apply g_calld | with_reducible apply g_bf | with_reducible apply g_sq | with_reducible apply g_kn | with_reducible exact g_kr | with_reducible exact g_kb | with_reducible exact g_kc | with_reducible apply g_as | with_reducible apply g_pr | with_reducible apply g_au rfl | with_reducible apply g_rt | with_reducible apply g_ex | with_reducible apply g_if | with_reducible apply g_tv | with_reducible apply g_tan | with_reducible apply g_tor | with_reducible apply g_tnt | with_reducible apply g_ean | with_reducible apply g_eor | with_reducible apply g_ent | with_reducible apply g_eif | with_reducible apply g_iftt | with_reducible apply g_iffn | with_reducible apply g_ifff | with_reducible apply g_iftn | with_reducible refine g_ift (by first | assumption | omega | decide) ?_ | with_reducible refine g_iff (by first | assumption | omega | decide) ?_ | with_reducible refine g_ifnt (by first | assumption | omega | decide) ?_ | with_reducible refine g_ifnf (by first | assumption | omega | decide) ?_ | with_reducible exact rfl | with_reducible exact g_eqs | with_reducible exact g_nes | with_reducible exact g_neni | with_reducible exact g_nein | with_reducible exact g_nenn | with_reducible exact g_isn | with_reducible exact g_isi | with_reducible exact g_nsn | with_reducible exact g_nsi | with_reducible exact g_max | with_reducible exact g_max3 | with_reducible exact g_min | with_reducible exact g_intb | with_reducible apply g_gt2 | with_reducible apply g_gt3 | with_reducible apply g_tup | with_reducible apply g_lst | with_reducible exact lenOk rfl | with_reducible exact g_on | with_reducible apply g_os | with_reducible apply g_sl | with_reducible apply g_bkm | with_reducible exact g_okS )
        · exact ⟨_, _, rfl, rfl⟩)
    xs.length 0 [some (.ref i), some (.ref j), none, none] h (by omega) ⟨_, _, rfl, rfl⟩ C.fuel (by omega)
  have it : iZp (eV 0) (eV 1) C [some (.ref i), some (.ref j), none, none] h2 = .ok (itZ i j) h2 := by
    unfold iZp; rw [g_v (d := .ref i) rfl]; simp only [Z.R.bind_ok]; rw [g_v (d := .ref j) rfl]; simp only [Z.R.bind_ok, isL_of gi, isL_of gj]
  have F := fo_of (g := gT [2, 3]) it F
  have i4 : tV (eIs "list" (eV 0)) C [some (.ref i), some (.ref j), none, none] h2 = .ok true h2 := ist_L rfl gi
  have l1 := g_lenL gi
  have l2 := g_lenL gj
  have ne : ∀ n : Int, opNe (.int n) (.int n) h2 = .ok (.bl false) h2 := fun n => g_ner
  refine run_rt rfl (by simp only [List.map_cons, List.map_nil, List.length_cons, List.length_nil, List.cons_append, List.nil_append, Nat.reduceAdd, Nat.reduceSub, List.replicate_succ, List.replicate_zero]; exact rfl) ?_
  (repeat' first | with_reducible exact i4 | with_reducible exact l1 | with_reducible exact l2 | with_reducible exact ne _ | with_reducible exact F | with_reducible exact g_v rfl | with_reducible exact g_c | with_reducible exact g_an | with_reducible exact g_add | with_reducible exact g_sub | with_reducible exact g_iadd | with_reducible exact g_lt | with_reducible exact g_le | with_reducible exact g_gt | with_reducible exact g_ge | with_reducible exact g_eq | with_reducible exact g_ne | with_reducible exact g_neg | with_reducible exact g_mul (by first | assumption | omega | decide) | with_reducible exact g_div (by first | assumption | omega | decide) (by first | assumption | omega | decide) | with_reducible exact g_mod (by first | assumption | omega | decide) | with_reducible exact g_pow (by decide) | with_reducible apply g_isint | with_reducible exact g_sk | with_reducible exact g_rn | with_reducible exact g_bk | with_reducible exact g_ct | with_reducible exact g_gn0 | with_reducible apply g_gns | with_reducible exact g_ap0 | with_reducible apply g_apS | with_reducible apply g_op | with_reducible apply g_un | with_reducible apply g_ac | with_reducible apply g_call | with_reducible apply g_calld | with_reducible apply g_bf | with_reducible apply g_sq | with_reducible apply g_kn | with_reducible exact g_kr | with_reducible exact g_kb | with_reducible exact g_kc | with_reducible apply g_as | with_reducible apply g_pr | with_reducible apply g_au rfl | with_reducible apply g_rt | with_reducible apply g_ex | with_reducible apply g_if | with_reducible apply g_tv | with_reducible apply g_tan | with_reducible apply g_tor | with_reducible apply g_tnt | with_reducible apply g_ean | with_reducible apply g_eor | with_reducible apply g_ent | with_reducible apply g_eif | with_reducible apply g_iftt | with_reducible apply g_iffn | with_reducible apply g_ifff | with_reducible apply g_iftn | with_reducible refine g_ift (by first | assumption | omega | decide) ?_ | with_reducible refine g_iff (by first | assumption | omega | decide) ?_ | with_reducible refine g_ifnt (by first | assumption | omega | decide) ?_ | with_reducible refine g_ifnf (by first | assumption | omega | decide) ?_ | with_reducible exact rfl | with_reducible exact g_eqs | with_reducible exact g_nes | with_reducible exact g_neni | with_reducible exact g_nein | with_reducible exact g_nenn | with_reducible exact g_isn | with_reducible exact g_isi | with_reducible exact g_nsn | with_reducible exact g_nsi | with_reducible exact g_max | with_reducible exact g_max3 | with_reducible exact g_min | with_reducible exact g_intb | with_reducible apply g_gt2 | with_reducible apply g_gt3 | with_reducible apply g_tup | with_reducible apply g_lst | with_reducible exact lenOk rfl | with_reducible exact g_on | with_reducible apply g_os | with_reducible apply g_sl | with_reducible apply g_bkm | with_reducible exact g_okS )
theorem iA_ref {a : ME} {C : Ctx} {e : Ev} {h h1 : HP} {i : Nat} {xs : List D} (q : a C e h = .ok (.ref i) h1) (g : h1[i]? = some (.lst xs)) : iA a C e h = .ok (itL i) h1 := by
  unfold iA; rw [q]; simp only [Z.R.bind_ok, isL_of g]

theorem fuT (n : Nat) : 1000 < (ctx T n).fuel := by have := fuel_big n; omega
theorem glib {L : List (Str × Int)} {x : Str × Fm} {lg : Nat → Int} {a b : Nat} (o : BkOk L [x]) (sd : Snd L [x] lg) (lf : x.2.pns = []) (nr : x.2.tag ≠ "row" ∧ x.2.tag ≠ "side" ∧ x.2.tag ≠ "again") (n : Nat) : GLib (ctx T (n + 8)) L x lg a b := by
  have ol := o.l1
  have N61P : ∀ (n : Nat) (h : HP) (r : Nat), h[r]? = some (.lst ([x].map partD)) → (ctx T (n + 1)).call 61 [.ref r] h = .ok (.ref h.length) (h ++ [.dic (numD 0 (pnm [x]))]) := fun n h r g => numbers_of_run (C := ctx T n) partD (fun x => x.1) (fun x h => rfl) o.pn (by have := o.p1; omega) g (fuT n)
  have N61L : ∀ (n : Nat) (h : HP) (r : Nat), h[r]? = some (.lst (L.map limbD)) → (ctx T (n + 1)).call 61 [.ref r] h = .ok (.ref h.length) (h ++ [.dic (numD 0 (lnm L))]) := fun n h r g => numbers_of_run (C := ctx T n) limbD (fun x => x.1) (fun x h => rfl) o.ln (by omega) g (fuT n)
  refine ⟨fun h ga gb => ?_, fun {h g G E beat} gu b0 b1 => look_at_run (C := ctx T (n + 7)) gu (by simp) b0 b1, fun {h g G E t hs} gu en gt hl ht => leave_run (C := ctx T (n + 7)) gu en ol.2 (fuT _) (by simp) gt hl ht,
    fun {h g G E t hs beat} gu gt hl hb b0 b1 => put_leaf (C := ctx T (n + 7)) gu o (k := 0) rfl lf nr gt hl hb b0 b1 (fun h s g b j p1 p2 p3 p4 => ramp_run (C := ctx T (n + 6)) p1 p2 p3 p4), fun {h g G E beat} gu b0 b1 => words_leaf (C := ctx T (n + 7)) gu (k := 0) rfl nr b0 b1⟩
  have gg : (h ++ [O.ins 1 []])[h.length]? = some (.ins 1 []) := get_new
  obtain ⟨h', G, E, r, kx, gu, en⟩ := init_run (C := ctx T (n + 6)) (L := L) (P := [x]) (lg := lg) o (fuT _) (get_app (t := [O.ins 1 []]) ga) (get_app (t := [O.ins 1 []]) gb) gg
    (fun h ga gb => lengthsG (C := ctx T (n + 5)) o sd (fuT _) ga gb (fun h g => N61P (n + 4) h _ g) (fun h f d hn hl g => named_run (C := ctx T (n + 4)) hn hl g (fuT _))
      (fun h ga gb => moved_run (C := ctx T (n + 4)) o (fuT _) ga gb (fun h g => N61L (n + 3) h _ g) (fun h g => N61P (n + 3) h _ g) (fun h f d hn hl g => named_run (C := ctx T (n + 3)) hn hl g (fuT _)))
      (fun h nb t refs Ms ga gt le r1 each ne ap => look_run (C := ctx T (n + 4)) ol.2 (fuT _) ga gt le r1 each ne ap)
      (fun h k x t q g => length_ofG (C := ctx T (n + 4)) o sd q g))
    (fun h ga gb => ends_run (C := ctx T (n + 5)) o (fuT _) ga gb (fun h g => N61L (n + 4) h _ g) (fun h g => N61P (n + 4) h _ g) (fun h f d hn hl g => named_run (C := ctx T (n + 4)) hn hl g (fuT _)))
  refine ⟨h', G, E, mk_run (n := n + 7) r, fun i o q => ?_, gu, en⟩
  have := (List.getElem?_eq_some_iff.mp q).1
  exact kx i o (by omega) (get_app q)
theorem pick2 {h : HP} {v z : Int} : ∃ w, (w = 1 ∨ w = v) ∧ ∀ h' : HP, h'[h.length]? = some (.lst [.int 1, .int v]) → opIx (.ref h.length) (.int (z % 2)) h' = .ok (.int w) h' := by
  have z0 := Int.emod_nonneg z (show (2 : Int) ≠ 0 by decide)
  have z1 := Int.emod_lt_of_pos z (show (0 : Int) < 2 by decide)
  by_cases c : z % 2 = 0
  · exact ⟨1, .inl rfl, fun h' g => g_ixl g z0 (by rw [c]; rfl)⟩
  · have c : z % 2 = 1 := by omega
    exact ⟨v, .inr rfl, fun h' g => g_ixl g z0 (by rw [c]; rfl)⟩
theorem g_pow2 {p : Int} {k : Nat} {h : HP} (l : k ≤ 100000) (b : p.natAbs < 2 ^ 64) : opPow (.int p) (.int (k : Int)) h = .ok (.int (p ^ k)) h := by
  have := g_pow (p := p) (q := (k : Int)) (h := h) ⟨by omega, by omega, b⟩
  rw [Int.toNat_natCast] at this
  exact this
/-- the limbs drawn -/
def limbs16 (N : List Str) (m : Nat) (height : Int) : List (Str × Int) := (List.range m).map fun k : Nat => (N.getD k "", height * (2 * (k : Int) + 1) * 48271 % (10 ^ (18 : Int).toNat + 1))
theorem lt_of_rng {z : Int} {b : Nat} {a : Nat} (h0 : 0 ≤ z) (h1 : z < (b : Int)) (hb : b ≤ 2 ^ a) : Lt2 z a := ⟨by omega⟩
theorem law_true (ns : List Int) (nl : ns.length ≤ 63) (hb : ∀ z ∈ ns, Builtin.Int.intBits z ≤ 1048576) : ∃ h', runFn (ctx T 12) f_law [.ref 0] [.fz (ns.map D.int)] = .ok (.bl true) h' := by
  obtain ⟨h0, hh0⟩ : ∃ h0 : HP, h0 = [O.fz (ns.map D.int)] := ⟨_, rfl⟩
  rw [← hh0]
  have hs : h0[0]? = some (.fz (ns.map D.int)) := by rw [hh0]; rfl
  have CL : ∀ (h : HP), Kp h0 h → ∀ k : Nat, k ≤ 100 → (ctx T 12).call 171 [.ref 0, .int (k : Int)] h = .ok (.int (cellv ns k)) h := fun h kp k hk => cell_run (C := ctx T 11) (kp _ _ hs) hk
  have cc0 : (ctx T 12).call 171 [.ref 0, .int 0] h0 = .ok (.int (cellv ns 0)) h0 := CL h0 Kp.refl 0 (by decide)
  obtain ⟨N, h1, tN, nk, nr, k1, gNm⟩ := names12_run (h := h0) (C := ctx T 11) (fuT 11) ((cellv_lt hb 0).mono (by decide))
  have cN : (ctx T 12).call 172 [.int (cellv ns 0), .int 12] h0 = .ok (.ref tN) h1 := nr
  have nl12 := nk.len
  have c1' : ∀ h, Kp h0 h → (ctx T 12).call 171 [.ref 0, .int 1] h = .ok (.int (cellv ns 1)) h := fun h k => CL h k 1 (by decide)
  have c2' : ∀ h, Kp h0 h → (ctx T 12).call 171 [.ref 0, .int 2] h = .ok (.int (cellv ns 2)) h := fun h k => CL h k 2 (by decide)
  have c3' : ∀ h, Kp h0 h → (ctx T 12).call 171 [.ref 0, .int 3] h = .ok (.int (cellv ns 3)) h := fun h k => CL h k 3 (by decide)
  have c4' : ∀ h, Kp h0 h → (ctx T 12).call 171 [.ref 0, .int 4] h = .ok (.int (cellv ns 4)) h := fun h k => CL h k 4 (by decide)
  have c5' : ∀ h, Kp h0 h → (ctx T 12).call 171 [.ref 0, .int 5] h = .ok (.int (cellv ns 5)) h := fun h k => CL h k 5 (by decide)
  obtain ⟨w1, hw1⟩ : ∃ w, w = cellv ns 1 := ⟨_, rfl⟩
  obtain ⟨w2, hw2⟩ : ∃ w, w = cellv ns 2 := ⟨_, rfl⟩
  obtain ⟨w3, hw3⟩ : ∃ w, w = cellv ns 3 := ⟨_, rfl⟩
  obtain ⟨w4, hw4⟩ : ∃ w, w = cellv ns 4 := ⟨_, rfl⟩
  obtain ⟨w5, hw5⟩ : ∃ w, w = cellv ns 5 := ⟨_, rfl⟩
  rw [← hw1] at c1'
  rw [← hw2] at c2'
  rw [← hw3] at c3'
  rw [← hw4] at c4'
  rw [← hw5] at c5'
  have m0 := Int.emod_nonneg w1 (show (8 : Int) ≠ 0 by decide)
  have m1 := Int.emod_lt_of_pos w1 (show (0 : Int) < 8 by decide)
  obtain ⟨many, hmany⟩ : ∃ many, many = 1 + w1 % 8 := ⟨_, rfl⟩
  obtain ⟨m, hm⟩ : ∃ m : Nat, m = many.toNat := ⟨_, rfl⟩
  have mI : (m : Int) = many := by omega
  have p30 : (0 : Int) < 10 ^ (30 : Int).toNat := by decide
  have q18 : (0 : Int) < 10 ^ (18 : Int).toNat := by decide
  have q181 : (0 : Int) < 10 ^ (18 : Int).toNat + 1 := by decide
  have hg0 := Int.emod_nonneg w2 (show (10 : Int) ^ (30 : Int).toNat ≠ 0 by decide)
  have hg1 := Int.emod_lt_of_pos w2 p30
  obtain ⟨hgt, hhgt⟩ : ∃ z, z = w2 % 10 ^ (30 : Int).toNat := ⟨_, rfl⟩
  rw [← hhgt] at hg0 hg1
  have lt30 : ∀ z : Int, 0 ≤ z → z < 10 ^ (30 : Int).toNat → Lt2 z 200 := fun z z0 z1 => ⟨Nat.lt_of_lt_of_le (show z.natAbs < 10 ^ 30 by have : (10 : Int) ^ (30 : Int).toNat = 10 ^ 30 := rfl; omega) (by decide)⟩
  -- names
  have ixN : ∀ (hh : HP), Kp h1 hh → ∀ (z : Int), 0 ≤ z → z < 12 → opIx (.ref tN) (.int z) hh = .ok (.str (N.getD z.toNat "")) hh := fun hh kk z z0 z1 => by
    obtain ⟨k, rfl⟩ : ∃ k : Nat, z = k := ⟨z.toNat, by omega⟩
    refine g_ixl (kk _ _ gNm) z0 ?_
    rw [Int.toNat_natCast, List.getElem?_map, List.getElem?_eq_getElem (by omega), List.getD_eq_getElem?_getD, List.getElem?_eq_getElem (by omega)]; rfl
  -- limbs
  obtain ⟨L, hL⟩ : ∃ L, L = limbs16 N m hgt := ⟨_, rfl⟩
  have Ll : L.length = m := by rw [hL]; unfold limbs16; rw [List.length_map, List.length_range]
  have LL : eLc [14] (gN 14) (iR1 (eV 2)) tY (eTup (aC (eOp opIx (eV 1) (eV 14)) (aC (eOp opMod (eOp opMul (eOp opMul (eV 3) (eOp opAdd (eOp opMul (eC (.int 2)) (eV 14)) (eC (.int 1)))) (eC (.int 48271))) (eOp opAdd (eOp opPow (eC (.int 10)) (eC (.int 18))) (eC (.int 1)))) aN))) (ctx T 12)
      [some (.ref 0), some (.ref tN), some (.int many), some (.int hgt), none, none, none, none, none, none, none, none, none, none, none, none, none] h1 = .ok (.ref h1.length) (h1 ++ [.lst (L.map limbD)]) := by
    refine lc_of (it := itR 0 many.toNat) (h1 := h1) (iR1_of (by (repeat' first | with_reducible exact g_v rfl | with_reducible exact g_c | with_reducible exact g_an | with_reducible exact g_add | with_reducible exact g_sub | with_reducible exact g_iadd | with_reducible exact g_lt | with_reducible exact g_le | with_reducible exact g_gt | with_reducible exact g_ge | with_reducible exact g_eq | with_reducible exact g_ne | with_reducible exact g_neg | with_reducible exact g_mul (by first | assumption | omega | decide) | with_reducible exact g_div (by first | assumption | omega | decide) (by first | assumption | omega | decide) | with_reducible exact g_mod (by first | assumption | omega | decide) | with_reducible exact g_pow (by decide) | with_reducible apply g_isint | with_reducible exact g_sk | with_reducible exact g_rn | with_reducible exact g_bk | with_reducible exact g_ct | with_reducible exact g_gn0 | with_reducible apply g_gns | with_reducible exact g_ap0 | with_reducible apply g_apS | with_reducible apply g_op | with_reducible apply g_un | with_reducible apply g_ac | with_reducible apply g_call | with_reducible apply g_calld | with_reducible apply g_bf | with_reducible apply g_sq | with_reducible apply g_kn | with_reducible exact g_kr | with_reducible exact g_kb | with_reducible exact g_kc | with_reducible apply g_as | with_reducible apply g_pr | with_reducible apply g_au rfl | with_reducible apply g_rt | with_reducible apply g_ex | with_reducible apply g_if | with_reducible apply g_tv | with_reducible apply g_tan | with_reducible apply g_tor | with_reducible apply g_tnt | with_reducible apply g_ean | with_reducible apply g_eor | with_reducible apply g_ent | with_reducible apply g_eif | with_reducible apply g_iftt | with_reducible apply g_iffn | with_reducible apply g_ifff | with_reducible apply g_iftn | with_reducible refine g_ift (by first | assumption | omega | decide) ?_ | with_reducible refine g_iff (by first | assumption | omega | decide) ?_ | with_reducible refine g_ifnt (by first | assumption | omega | decide) ?_ | with_reducible refine g_ifnf (by first | assumption | omega | decide) ?_ | with_reducible exact rfl | with_reducible exact g_eqs | with_reducible exact g_nes | with_reducible exact g_neni | with_reducible exact g_nein | with_reducible exact g_nenn | with_reducible exact g_isn | with_reducible exact g_isi | with_reducible exact g_nsn | with_reducible exact g_nsi | with_reducible exact g_max | with_reducible exact g_max3 | with_reducible exact g_min | with_reducible exact g_intb | with_reducible apply g_gt2 | with_reducible apply g_gt3 | with_reducible apply g_tup | with_reducible apply g_lst | with_reducible exact lenOk rfl | with_reducible exact g_on | with_reducible apply g_os | with_reducible apply g_sl | with_reducible apply g_bkm | with_reducible exact g_okS )) (by omega) (by omega)) ?_
    rw [← hm]
    have e : L.map limbD = (List.range m).map fun k : Nat => limbD (N.getD k "", hgt * (2 * (k : Int) + 1) * 48271 % (10 ^ (18 : Int).toNat + 1)) := by rw [hL]; unfold limbs16; rw [List.map_map]; rfl
    rw [e]
    refine cmp_all (n := m) (fun k => .int (0 + (k : Int))) _ (fun k hk => by simp only [itR, if_pos hk]) (by simp [itR]) (fun k hk => ⟨_, rfl, ?_⟩) (by rw [sizeLine_eq]; omega) m 0 [] (by omega) rfl _ (by have := fuT 12; omega)
    rw [show (0 : Int) + (k : Int) = (k : Int) from Int.zero_add _]
    have i1 := ixN h1 Kp.refl (k : Int) (by omega) (by omega)
    rw [Int.toNat_natCast] at i1
    have mk1 : mulOk 2 (k : Int) = true := mulOk_of (a := 20) (b := 20) ⟨by decide⟩ ⟨by omega⟩ (by decide)
    have l2 : Lt2 (2 * (k : Int) + 1) 20 := ⟨by omega⟩
    have mk2 : mulOk hgt (2 * (k : Int) + 1) = true := mulOk_of (lt30 _ hg0 hg1) l2 (by decide)
    have mk3 : mulOk (hgt * (2 * (k : Int) + 1)) 48271 = true := mulOk_of ((lt30 _ hg0 hg1).mul l2) (b := 20) ⟨by decide⟩ (by decide)
    show (eTup (aC (eOp opIx (eV 1) (eV 14)) (aC (eOp opMod (eOp opMul (eOp opMul (eV 3) (eOp opAdd (eOp opMul (eC (.int 2)) (eV 14)) (eC (.int 1)))) (eC (.int 48271))) (eOp opAdd (eOp opPow (eC (.int 10)) (eC (.int 18))) (eC (.int 1)))) aN))) (ctx T 12) [some (.ref 0), some (.ref tN), some (.int many), some (.int hgt), none, none, none, none, none, none, none, none, none, none, some (.int (k : Int)), none, none] h1 = .ok (.tup [.str (N.getD k ""), .int (hgt * (2 * (k : Int) + 1) * 48271 % (10 ^ (18 : Int).toNat + 1))]) h1
    (repeat' first | with_reducible exact i1 | with_reducible exact g_v rfl | with_reducible exact g_c | with_reducible exact g_an | with_reducible exact g_add | with_reducible exact g_sub | with_reducible exact g_iadd | with_reducible exact g_lt | with_reducible exact g_le | with_reducible exact g_gt | with_reducible exact g_ge | with_reducible exact g_eq | with_reducible exact g_ne | with_reducible exact g_neg | with_reducible exact g_mul (by first | assumption | omega | decide) | with_reducible exact g_div (by first | assumption | omega | decide) (by first | assumption | omega | decide) | with_reducible exact g_mod (by first | assumption | omega | decide) | with_reducible exact g_pow (by decide) | with_reducible apply g_isint | with_reducible exact g_sk | with_reducible exact g_rn | with_reducible exact g_bk | with_reducible exact g_ct | with_reducible exact g_gn0 | with_reducible apply g_gns | with_reducible exact g_ap0 | with_reducible apply g_apS | with_reducible apply g_op | with_reducible apply g_un | with_reducible apply g_ac | with_reducible apply g_call | with_reducible apply g_calld | with_reducible apply g_bf | with_reducible apply g_sq | with_reducible apply g_kn | with_reducible exact g_kr | with_reducible exact g_kb | with_reducible exact g_kc | with_reducible apply g_as | with_reducible apply g_pr | with_reducible apply g_au rfl | with_reducible apply g_rt | with_reducible apply g_ex | with_reducible apply g_if | with_reducible apply g_tv | with_reducible apply g_tan | with_reducible apply g_tor | with_reducible apply g_tnt | with_reducible apply g_ean | with_reducible apply g_eor | with_reducible apply g_ent | with_reducible apply g_eif | with_reducible apply g_iftt | with_reducible apply g_iffn | with_reducible apply g_ifff | with_reducible apply g_iftn | with_reducible refine g_ift (by first | assumption | omega | decide) ?_ | with_reducible refine g_iff (by first | assumption | omega | decide) ?_ | with_reducible refine g_ifnt (by first | assumption | omega | decide) ?_ | with_reducible refine g_ifnf (by first | assumption | omega | decide) ?_ | with_reducible exact rfl | with_reducible exact g_eqs | with_reducible exact g_nes | with_reducible exact g_neni | with_reducible exact g_nein | with_reducible exact g_nenn | with_reducible exact g_isn | with_reducible exact g_isi | with_reducible exact g_nsn | with_reducible exact g_nsi | with_reducible exact g_max | with_reducible exact g_max3 | with_reducible exact g_min | with_reducible exact g_intb | with_reducible apply g_gt2 | with_reducible apply g_gt3 | with_reducible apply g_tup | with_reducible apply g_lst | with_reducible exact lenOk rfl | with_reducible exact g_on | with_reducible apply g_os | with_reducible apply g_sl | with_reducible apply g_bkm | with_reducible exact g_okS )
  obtain ⟨h2, hh2⟩ : ∃ h2, h2 = h1 ++ [O.lst (L.map limbD)] := ⟨_, rfl⟩
  rw [← hh2] at LL
  have k2 : Kp h1 h2 := by rw [hh2]; exact Kp.app
  have g2 : h2[h1.length]? = some (.lst (L.map limbD)) := by rw [hh2]; exact get_new
  -- beats
  obtain ⟨h3, hh3⟩ : ∃ h3, h3 = h2 ++ [O.lst [.int 1, .int (10 ^ (16 : Int).toNat + 61)]] := ⟨_, rfl⟩
  have k3 : Kp h2 h3 := by rw [hh3]; exact Kp.app
  have ls3 : ∀ e : Ev, eLst (aC (eC (.int 1)) (aC (eOp opAdd (eOp opPow (eC (.int 10)) (eC (.int 16))) (eC (.int 61))) aN)) (ctx T 12) e h2 = .ok (.ref h2.length) h3 := fun e => by
    rw [hh3]
    (repeat' first | with_reducible exact g_v rfl | with_reducible exact g_c | with_reducible exact g_an | with_reducible exact g_add | with_reducible exact g_sub | with_reducible exact g_iadd | with_reducible exact g_lt | with_reducible exact g_le | with_reducible exact g_gt | with_reducible exact g_ge | with_reducible exact g_eq | with_reducible exact g_ne | with_reducible exact g_neg | with_reducible exact g_mul (by first | assumption | omega | decide) | with_reducible exact g_div (by first | assumption | omega | decide) (by first | assumption | omega | decide) | with_reducible exact g_mod (by first | assumption | omega | decide) | with_reducible exact g_pow (by decide) | with_reducible apply g_isint | with_reducible exact g_sk | with_reducible exact g_rn | with_reducible exact g_bk | with_reducible exact g_ct | with_reducible exact g_gn0 | with_reducible apply g_gns | with_reducible exact g_ap0 | with_reducible apply g_apS | with_reducible apply g_op | with_reducible apply g_un | with_reducible apply g_ac | with_reducible apply g_call | with_reducible apply g_calld | with_reducible apply g_bf | with_reducible apply g_sq | with_reducible apply g_kn | with_reducible exact g_kr | with_reducible exact g_kb | with_reducible exact g_kc | with_reducible apply g_as | with_reducible apply g_pr | with_reducible apply g_au rfl | with_reducible apply g_rt | with_reducible apply g_ex | with_reducible apply g_if | with_reducible apply g_tv | with_reducible apply g_tan | with_reducible apply g_tor | with_reducible apply g_tnt | with_reducible apply g_ean | with_reducible apply g_eor | with_reducible apply g_ent | with_reducible apply g_eif | with_reducible apply g_iftt | with_reducible apply g_iffn | with_reducible apply g_ifff | with_reducible apply g_iftn | with_reducible refine g_ift (by first | assumption | omega | decide) ?_ | with_reducible refine g_iff (by first | assumption | omega | decide) ?_ | with_reducible refine g_ifnt (by first | assumption | omega | decide) ?_ | with_reducible refine g_ifnf (by first | assumption | omega | decide) ?_ | with_reducible exact rfl | with_reducible exact g_eqs | with_reducible exact g_nes | with_reducible exact g_neni | with_reducible exact g_nein | with_reducible exact g_nenn | with_reducible exact g_isn | with_reducible exact g_isi | with_reducible exact g_nsn | with_reducible exact g_nsi | with_reducible exact g_max | with_reducible exact g_max3 | with_reducible exact g_min | with_reducible exact g_intb | with_reducible apply g_gt2 | with_reducible apply g_gt3 | with_reducible apply g_tup | with_reducible apply g_lst | with_reducible exact lenOk rfl | with_reducible exact g_on | with_reducible apply g_os | with_reducible apply g_sl | with_reducible apply g_bkm | with_reducible exact g_okS )
  obtain ⟨v3, pv3, ix3⟩ := pick2 (h := h2) (v := 10 ^ (16 : Int).toNat + 61) (z := w1 / 8)
  have ix3 := ix3 h3 (by rw [hh3]; exact get_new)
  have lv : ∀ v : Int, (v = 1 ∨ v = 10 ^ (16 : Int).toNat + 61) ∨ (v = 1 ∨ v = 10 ^ (17 : Int).toNat + 3) ∨ (v = 1 ∨ v = 10 ^ (15 : Int).toNat + 37) → Lt2 v 100 := fun v hv => by
    rcases hv with (e | e) | (e | e) | (e | e) <;> rw [e] <;> exact ⟨by decide⟩
  have r30 : ∀ w v : Int, Lt2 v 100 → mulOk (w % 10 ^ (30 : Int).toNat) v = true := fun w v hv =>
    mulOk_of (lt30 _ (Int.emod_nonneg w (by decide)) (Int.emod_lt_of_pos w p30)) hv (by decide)
  have mk3 := r30 w3 v3 (lv _ (.inl pv3))
  have d8 : divOk (8 : Int) = true := by decide
  have d16 : divOk (16 : Int) = true := by decide
  have d32 : divOk (32 : Int) = true := by decide
  have be0 := Int.emod_nonneg (w3 % 10 ^ (30 : Int).toNat * v3) (show (10 : Int) ^ (18 : Int).toNat ≠ 0 by decide)
  have be1 := Int.emod_lt_of_pos (w3 % 10 ^ (30 : Int).toNat * v3) q18
  obtain ⟨beats, hbeats⟩ : ∃ b, b = 1 + w3 % 10 ^ (30 : Int).toNat * v3 % 10 ^ (18 : Int).toNat := ⟨_, rfl⟩
  have e18 : (10 : Int) ^ (18 : Int).toNat = 10 ^ 18 := rfl
  have bt : 1 ≤ beats ∧ beats ≤ 10 ^ 18 := by rw [hbeats]; constructor <;> omega
  -- goal
  obtain ⟨h4, hh4⟩ : ∃ h4, h4 = h3 ++ [O.lst [.int 1, .int (10 ^ (17 : Int).toNat + 3)]] := ⟨_, rfl⟩
  have k4 : Kp h3 h4 := by rw [hh4]; exact Kp.app
  have ls4 : ∀ e : Ev, eLst (aC (eC (.int 1)) (aC (eOp opAdd (eOp opPow (eC (.int 10)) (eC (.int 17))) (eC (.int 3))) aN)) (ctx T 12) e h3 = .ok (.ref h3.length) h4 := fun e => by
    rw [hh4]
    (repeat' first | with_reducible exact g_v rfl | with_reducible exact g_c | with_reducible exact g_an | with_reducible exact g_add | with_reducible exact g_sub | with_reducible exact g_iadd | with_reducible exact g_lt | with_reducible exact g_le | with_reducible exact g_gt | with_reducible exact g_ge | with_reducible exact g_eq | with_reducible exact g_ne | with_reducible exact g_neg | with_reducible exact g_mul (by first | assumption | omega | decide) | with_reducible exact g_div (by first | assumption | omega | decide) (by first | assumption | omega | decide) | with_reducible exact g_mod (by first | assumption | omega | decide) | with_reducible exact g_pow (by decide) | with_reducible apply g_isint | with_reducible exact g_sk | with_reducible exact g_rn | with_reducible exact g_bk | with_reducible exact g_ct | with_reducible exact g_gn0 | with_reducible apply g_gns | with_reducible exact g_ap0 | with_reducible apply g_apS | with_reducible apply g_op | with_reducible apply g_un | with_reducible apply g_ac | with_reducible apply g_call | with_reducible apply g_calld | with_reducible apply g_bf | with_reducible apply g_sq | with_reducible apply g_kn | with_reducible exact g_kr | with_reducible exact g_kb | with_reducible exact g_kc | with_reducible apply g_as | with_reducible apply g_pr | with_reducible apply g_au rfl | with_reducible apply g_rt | with_reducible apply g_ex | with_reducible apply g_if | with_reducible apply g_tv | with_reducible apply g_tan | with_reducible apply g_tor | with_reducible apply g_tnt | with_reducible apply g_ean | with_reducible apply g_eor | with_reducible apply g_ent | with_reducible apply g_eif | with_reducible apply g_iftt | with_reducible apply g_iffn | with_reducible apply g_ifff | with_reducible apply g_iftn | with_reducible refine g_ift (by first | assumption | omega | decide) ?_ | with_reducible refine g_iff (by first | assumption | omega | decide) ?_ | with_reducible refine g_ifnt (by first | assumption | omega | decide) ?_ | with_reducible refine g_ifnf (by first | assumption | omega | decide) ?_ | with_reducible exact rfl | with_reducible exact g_eqs | with_reducible exact g_nes | with_reducible exact g_neni | with_reducible exact g_nein | with_reducible exact g_nenn | with_reducible exact g_isn | with_reducible exact g_isi | with_reducible exact g_nsn | with_reducible exact g_nsi | with_reducible exact g_max | with_reducible exact g_max3 | with_reducible exact g_min | with_reducible exact g_intb | with_reducible apply g_gt2 | with_reducible apply g_gt3 | with_reducible apply g_tup | with_reducible apply g_lst | with_reducible exact lenOk rfl | with_reducible exact g_on | with_reducible apply g_os | with_reducible apply g_sl | with_reducible apply g_bkm | with_reducible exact g_okS )
  obtain ⟨v4, pv4, ix4⟩ := pick2 (h := h3) (v := 10 ^ (17 : Int).toNat + 3) (z := w1 / 16)
  have ix4 := ix4 h4 (by rw [hh4]; exact get_new)
  have mk4 := r30 w4 v4 (lv _ (.inr (.inl pv4)))
  have go0 := Int.emod_nonneg (w4 % 10 ^ (30 : Int).toNat * v4) (show (10 : Int) ^ (18 : Int).toNat + 1 ≠ 0 by decide)
  have go1 := Int.emod_lt_of_pos (w4 % 10 ^ (30 : Int).toNat * v4) q181
  obtain ⟨goal, hgoal⟩ : ∃ g, g = w4 % 10 ^ (30 : Int).toNat * v4 % (10 ^ (18 : Int).toNat + 1) := ⟨_, rfl⟩
  have gt : 0 ≤ goal ∧ goal ≤ 10 ^ 18 := by rw [hgoal]; constructor <;> omega
  -- at
  have at0 := Int.emod_nonneg w5 (show many ≠ 0 by omega)
  have at1 := Int.emod_lt_of_pos w5 (show 0 < many by omega)
  have mat : opMod (.int w5) (.int many) h4 = .ok (.int (w5 % many)) h4 := g_mod (by omega)
  obtain ⟨at_, hat⟩ : ∃ a, a = w5 % many := ⟨_, rfl⟩
  rw [← hat] at at0 at1 mat
  -- form
  have kh4 : Kp h1 h4 := k2.trans (k3.trans k4)
  have ixa := ixN h4 kh4 at_ at0 (by omega)
  have ix9 := fun hh kk => ixN hh kk 9 (by decide) (by decide)
  obtain ⟨fA, hfA⟩ : ∃ f, f = Fm.raise (N.getD at_.toNat "") goal beats := ⟨_, rfl⟩
  obtain ⟨fB, hfB⟩ : ∃ f, f = Fm.hold beats := ⟨_, rfl⟩
  obtain ⟨fC, hfC⟩ : ∃ f, f = Fm.ring (N.getD (9 : Int).toNat "") beats := ⟨_, rfl⟩
  obtain ⟨h5, hh5⟩ : ∃ h5, h5 = h4 ++ [O.lst [fA.d, fB.d, fC.d]] := ⟨_, rfl⟩
  have k5 : Kp h4 h5 := by rw [hh5]; exact Kp.app
  have i9a := ix9 h4 kh4
  have ls5 : ∀ e : Ev, e[1]? = some (some (.ref tN)) → e[5]? = some (some (.int beats)) → e[6]? = some (some (.int goal)) → e[7]? = some (some (.int at_)) →
      eLst (aC (eTup (aC (eC (.str "raise")) (aC (eOp opIx (eV 1) (eV 7)) (aC (eV 6) (aC (eV 5) aN))))) (aC (eTup (aC (eC (.str "hold")) (aC (eV 5) aN))) (aC (eTup (aC (eC (.str "ring")) (aC (eOp opIx (eV 1) (eC (.int 9))) (aC (eV 5) aN)))) aN))) (ctx T 12) e h4 = .ok (.ref h4.length) h5 := fun e q1 q5 q6 q7 => by
    rw [hh5, hfA, hfB, hfC]
    exact g_lst (g_ac (g_tup (g_ac g_c (g_ac (g_op (g_v q1) (g_v q7) ixa) (g_ac (g_v q6) (g_ac (g_v q5) g_an)))) (lenOk rfl)) (g_ac (g_tup (g_ac g_c (g_ac (g_v q5) g_an)) (lenOk rfl)) (g_ac (g_tup (g_ac g_c (g_ac (g_op (g_v q1) g_c i9a) (g_ac (g_v q5) g_an))) (lenOk rfl)) g_an))) (lenOk rfl)
  -- way
  obtain ⟨h6, hh6⟩ : ∃ h6, h6 = h5 ++ [O.lst [.int 0, .int 0, .int 1, .int 2]] := ⟨_, rfl⟩
  have k6 : Kp h5 h6 := by rw [hh6]; exact Kp.app
  have ls6 : ∀ e : Ev, eLst (aC (eC (.int 0)) (aC (eC (.int 0)) (aC (eC (.int 1)) (aC (eC (.int 2)) aN)))) (ctx T 12) e h5 = .ok (.ref h5.length) h6 := fun e => by
    rw [hh6]
    (repeat' first | with_reducible exact g_v rfl | with_reducible exact g_c | with_reducible exact g_an | with_reducible exact g_add | with_reducible exact g_sub | with_reducible exact g_iadd | with_reducible exact g_lt | with_reducible exact g_le | with_reducible exact g_gt | with_reducible exact g_ge | with_reducible exact g_eq | with_reducible exact g_ne | with_reducible exact g_neg | with_reducible exact g_mul (by first | assumption | omega | decide) | with_reducible exact g_div (by first | assumption | omega | decide) (by first | assumption | omega | decide) | with_reducible exact g_mod (by first | assumption | omega | decide) | with_reducible exact g_pow (by decide) | with_reducible apply g_isint | with_reducible exact g_sk | with_reducible exact g_rn | with_reducible exact g_bk | with_reducible exact g_ct | with_reducible exact g_gn0 | with_reducible apply g_gns | with_reducible exact g_ap0 | with_reducible apply g_apS | with_reducible apply g_op | with_reducible apply g_un | with_reducible apply g_ac | with_reducible apply g_call | with_reducible apply g_calld | with_reducible apply g_bf | with_reducible apply g_sq | with_reducible apply g_kn | with_reducible exact g_kr | with_reducible exact g_kb | with_reducible exact g_kc | with_reducible apply g_as | with_reducible apply g_pr | with_reducible apply g_au rfl | with_reducible apply g_rt | with_reducible apply g_ex | with_reducible apply g_if | with_reducible apply g_tv | with_reducible apply g_tan | with_reducible apply g_tor | with_reducible apply g_tnt | with_reducible apply g_ean | with_reducible apply g_eor | with_reducible apply g_ent | with_reducible apply g_eif | with_reducible apply g_iftt | with_reducible apply g_iffn | with_reducible apply g_ifff | with_reducible apply g_iftn | with_reducible refine g_ift (by first | assumption | omega | decide) ?_ | with_reducible refine g_iff (by first | assumption | omega | decide) ?_ | with_reducible refine g_ifnt (by first | assumption | omega | decide) ?_ | with_reducible refine g_ifnf (by first | assumption | omega | decide) ?_ | with_reducible exact rfl | with_reducible exact g_eqs | with_reducible exact g_nes | with_reducible exact g_neni | with_reducible exact g_nein | with_reducible exact g_nenn | with_reducible exact g_isn | with_reducible exact g_isi | with_reducible exact g_nsn | with_reducible exact g_nsi | with_reducible exact g_max | with_reducible exact g_max3 | with_reducible exact g_min | with_reducible exact g_intb | with_reducible apply g_gt2 | with_reducible apply g_gt3 | with_reducible apply g_tup | with_reducible apply g_lst | with_reducible exact lenOk rfl | with_reducible exact g_on | with_reducible apply g_os | with_reducible apply g_sl | with_reducible apply g_bkm | with_reducible exact g_okS )
  have y0 := Int.emod_nonneg (w5 / 8) (show (4 : Int) ≠ 0 by decide)
  have y1 := Int.emod_lt_of_pos (w5 / 8) (show (0 : Int) < 4 by decide)
  have g6w : h6[h5.length]? = some (.lst [.int 0, .int 0, .int 1, .int 2]) := by rw [hh6]; exact get_new
  obtain ⟨way, pway, ix6⟩ : ∃ way : Int, (way = 0 ∨ way = 1 ∨ way = 2) ∧ opIx (.ref h5.length) (.int (w5 / 8 % 4)) h6 = .ok (.int way) h6 := by
    have c : w5 / 8 % 4 = 0 ∨ w5 / 8 % 4 = 1 ∨ w5 / 8 % 4 = 2 ∨ w5 / 8 % 4 = 3 := by omega
    rcases c with c | c | c | c
    · exact ⟨0, .inl rfl, g_ixl g6w y0 (by rw [c]; rfl)⟩
    · exact ⟨0, .inl rfl, g_ixl g6w y0 (by rw [c]; rfl)⟩
    · exact ⟨1, .inr (.inl rfl), g_ixl g6w y0 (by rw [c]; rfl)⟩
    · exact ⟨2, .inr (.inr rfl), g_ixl g6w y0 (by rw [c]; rfl)⟩
  obtain ⟨f, hf⟩ : ∃ f, f = if way = 0 then fA else if way = 1 then fB else fC := ⟨_, rfl⟩
  -- the book
  have g6 := (k3.trans (k4.trans (k5.trans k6))) _ _ g2
  have b7 := g_lstL g6
  obtain ⟨h7, hh7⟩ : ∃ h7, h7 = h6 ++ [O.lst (L.map limbD)] := ⟨_, rfl⟩
  rw [← hh7] at b7
  have k7 : Kp h6 h7 := by rw [hh7]; exact Kp.app
  have x90 := Int.emod_nonneg (w5 / 32) (show (9 : Int) ≠ 0 by decide)
  have x91 := Int.emod_lt_of_pos (w5 / 32) (show (0 : Int) < 9 by decide)
  have kh7 : Kp h1 h7 := kh4.trans (k5.trans (k6.trans k7))
  have ix7 := ixN h7 kh7 (w5 / 32 % 9) x90 (by omega)
  obtain ⟨x, hx⟩ : ∃ x : Str × Fm, x = (N.getD (w5 / 32 % 9).toNat "", f) := ⟨_, rfl⟩
  have g7f : h7[h4.length]? = some (.lst [fA.d, fB.d, fC.d]) := (k6.trans k7) _ _ (by rw [hh5]; exact get_new)
  have ix7f : opIx (.ref h4.length) (.int way) h7 = .ok f.d h7 := by
    rw [hf]
    rcases pway with e | e | e <;> subst e
    · exact g_ixl g7f (by decide) rfl
    · exact g_ixl g7f (by decide) rfl
    · exact g_ixl g7f (by decide) rfl
  obtain ⟨h8, hh8⟩ : ∃ h8, h8 = h7 ++ [O.lst ([x].map partD)] := ⟨_, rfl⟩
  have k8 : Kp h7 h8 := by rw [hh8]; exact Kp.app
  have kz7 : Kp h0 h7 := k1.trans kh7
  have cc7 := c5' h7 kz7
  have ls8 : ∀ e : Ev, e[0]? = some (some (.ref 0)) → e[1]? = some (some (.ref tN)) → e[8]? = some (some (.ref h4.length)) → e[9]? = some (some (.int way)) →
      eLst (aC (eTup (aC (eOp opIx (eV 1) (eOp opMod (eOp opDiv (eCall 171 (aC (eV 0) (aC (eC (.int 5)) aN)) []) (eC (.int 32))) (eC (.int 9)))) (aC (eOp opIx (eV 8) (eV 9)) aN))) aN) (ctx T 12) e h7 = .ok (.ref h7.length) h8 := fun e q0 q1 q8 q9 => by
    rw [hh8, hx]
    exact g_lst (g_ac (g_tup (g_ac (g_op (g_v q1) (g_op (g_op (g_call (g_ac (g_v q0) (g_ac g_c g_an)) cc7) g_c (g_div d32 (by decide))) g_c (g_mod (by decide))) ix7) (g_ac (g_op (g_v q8) (g_v q9) ix7f) g_an)) (lenOk rfl)) g_an) (lenOk rfl)
  have g8a : h8[h6.length]? = some (.lst (L.map limbD)) := k8 _ _ (by rw [hh7]; exact get_new)
  have g8b : h8[h7.length]? = some (.lst ([x].map partD)) := by rw [hh8]; exact get_new
  have b9 := g_lstL g8b
  obtain ⟨h9, hh9⟩ : ∃ h9, h9 = h8 ++ [O.lst ([x].map partD)] := ⟨_, rfl⟩
  rw [← hh9] at b9
  have k9 : Kp h8 h9 := by rw [hh9]; exact Kp.app
  have ga := k9 _ _ g8a
  have gb := k9 _ _ g8b
  have gc : h9[h8.length]? = some (.lst ([x].map partD)) := by rw [hh9]; exact get_new
  have bk1 : opIx (.tup [.ref h6.length, .ref h7.length]) (.int 1) h8 = .ok (.ref h7.length) h8 := g_ixt (by decide) rfl
  -- the book is sound
  have NM : ∀ k : Nat, k < 12 → N.getD k "" ∈ N := fun k hk => by rw [List.getD_eq_getElem?_getD, List.getElem?_eq_getElem (by omega)]; exact List.getElem_mem _
  have lnmE : lnm L = N.take m := by
    apply List.ext_getElem?
    intro j
    unfold lnm
    rw [hL]
    unfold limbs16
    rw [List.map_map, List.getElem?_map, List.getElem?_take]
    by_cases hj : j < m
    · rw [List.getElem?_range hj, if_pos hj, List.getElem?_eq_getElem (by omega)]
      show some (N.getD j "") = _
      rw [List.getD_eq_getElem?_getD, List.getElem?_eq_getElem (by omega)]; rfl
    · rw [List.getElem?_eq_none (by simp; omega), if_neg hj]; rfl
  have aln : N.getD at_.toNat "" ∈ lnm L := by
    rw [lnmE]
    refine List.mem_iff_getElem?.mpr ⟨at_.toNat, ?_⟩
    rw [List.getElem?_take, if_pos (by omega), List.getElem?_eq_getElem (by omega), List.getD_eq_getElem?_getD, List.getElem?_eq_getElem (by omega)]; rfl
  have fr : FmRef L [x] 0 f := by
    rw [hf]
    rcases pway with e | e | e <;> subst e
    · rw [if_pos rfl, hfA]; exact ⟨aln, gt.1, gt.2, bt.1, bt.2⟩
    · rw [if_neg (by decide), if_pos rfl, hfB]; exact bt
    · rw [if_neg (by decide), if_neg (by decide), hfC]
      have := nk.low _ (NM 9 (by decide))
      exact ⟨this.1, this.2.2, bt.1, bt.2⟩
  have nrw : f.tag ≠ "row" ∧ f.tag ≠ "side" ∧ f.tag ≠ "again" := by
    rw [hf]
    rcases pway with e | e | e <;> subst e
    · rw [if_pos rfl, hfA]; simp only [Fm.tag]; decide
    · rw [if_neg (by decide), if_pos rfl, hfB]; simp only [Fm.tag]; decide
    · rw [if_neg (by decide), if_neg (by decide), hfC]; simp only [Fm.tag]; decide
  have lf : f.pns = [] := by
    rw [hf]
    rcases pway with e | e | e <;> subst e
    · rw [if_pos rfl, hfA]; rfl
    · rw [if_neg (by decide), if_pos rfl, hfB]; rfl
    · rw [if_neg (by decide), if_neg (by decide), hfC]; rfl
  have one : ∀ (k : Nat) (y : Str × Fm), [x][k]? = some y → k = 0 ∧ y = x := fun k y q => by
    match k, q with
    | 0, q => exact ⟨rfl, by simpa using q.symm⟩
    | k + 1, q => simp at q
  have o : BkOk L [x] := by
    refine ⟨by omega, by simp, by rw [lnmE]; exact (List.take_sublist _ _).nodup nk.nd, by simp [pnm], fun y hy => ?_, fun y hy => ?_, fun y hy => ?_, fun k y q => ?_⟩
    · rw [lnmE] at hy; exact nk.low y (List.mem_of_mem_take hy)
    · have : y = N.getD (w5 / 32 % 9).toNat "" := by unfold pnm at hy; rw [hx] at hy; simpa using hy
      rw [this]; exact nk.low _ (NM _ (by omega))
    · rw [hL] at hy
      obtain ⟨k, _, rfl⟩ := List.mem_map.mp hy
      have z0 := Int.emod_nonneg (hgt * (2 * (k : Int) + 1) * 48271) (show (10 : Int) ^ (18 : Int).toNat + 1 ≠ 0 by decide)
      have z1 := Int.emod_lt_of_pos (hgt * (2 * (k : Int) + 1) * 48271) q181
      show 0 ≤ hgt * (2 * (k : Int) + 1) * 48271 % (10 ^ (18 : Int).toNat + 1) ∧ hgt * (2 * (k : Int) + 1) * 48271 % (10 ^ (18 : Int).toNat + 1) ≤ 10 ^ 18
      constructor <;> omega
    · obtain ⟨rfl, rfl⟩ := one k y q
      rw [hx] at fr ⊢; exact fr
  have sd : Snd L [x] (fun _ => beats) := by
    refine ⟨fun k y q => ?_, fun k _ => by omega, fun k y ns q e => ?_⟩
    · obtain ⟨rfl, rfl⟩ := one k y q
      rw [hx, hf]
      rcases pway with e | e | e <;> subst e
      · rw [if_pos rfl, hfA]; exact rfl
      · rw [if_neg (by decide), if_pos rfl, hfB]; exact rfl
      · rw [if_neg (by decide), if_neg (by decide), hfC]; exact rfl
    · obtain ⟨rfl, rfl⟩ := one k y q
      exfalso
      rw [hx] at e
      have e : f = .side ns := e
      rw [e] at nrw
      exact nrw.2.1 rfl
  have xf : x.2 = f := by rw [hx]
  rw [← xf] at lf nrw
  have gl := glib (a := h6.length) (b := h7.length) o sd lf nrw 3
  have lr : ∀ l z b, x.2 = .raise l z b → beats = b := fun l z b e => by
    rw [xf, hf] at e
    rcases pway with w | w | w <;> subst w
    · rw [if_pos rfl, hfA] at e; cases e; rfl
    · rw [if_neg (by decide), if_pos rfl, hfB] at e; cases e
    · rw [if_neg (by decide), if_neg (by decide), hfC] at e; cases e
  have lnd := o.ln
  have ixat : ixN_ (lnm L) (N.getD at_.toNat "") = at_.toNat := ixN_of lnd (by
    rw [lnmE, List.getElem?_take, if_pos (by omega), List.getElem?_eq_getElem (by omega), List.getD_eq_getElem?_getD, List.getElem?_eq_getElem (by omega)]; rfl)
  obtain ⟨hs0, hhs0⟩ : ∃ hs0, hs0 = L.map (·.2) := ⟨_, rfl⟩
  have hsl : hs0.length = m := by rw [hhs0, List.length_map, Ll]
  have hsb : ∀ z ∈ hs0, 0 ≤ z ∧ z ≤ 10 ^ 18 := fun z hz => by
    rw [hhs0] at hz
    obtain ⟨y, hy, rfl⟩ := List.mem_map.mp hz
    exact o.lht y hy
  -- what is gone through
  obtain ⟨h10, hh10⟩ : ∃ h10, h10 = h9 ++ [O.lst [.int 0, .int beats]] := ⟨_, rfl⟩
  have k10 : Kp h9 h10 := by rw [hh10]; exact Kp.app
  have kz9 : Kp h0 h9 := kz7.trans (k8.trans k9)
  have g10 : h10[h9.length]? = some (.lst [.int 0, .int beats]) := by rw [hh10]; exact get_new
  obtain ⟨zs, cz, zm, zl⟩ := cut_int ns (some 6) (some 36)
  have sl := g_slL (l := some 6) (u := some 36) (h := h10) (i := 0) (isL_fz (k10 _ _ (kz9 _ _ hs)))
  rw [cz] at sl
  obtain ⟨h11, hh11⟩ : ∃ h11, h11 = h10 ++ [O.lst (zs.map D.int)] := ⟨_, rfl⟩
  rw [← hh11] at sl
  have k11 : Kp h10 h11 := by rw [hh11]; exact Kp.app
  have g11 : h11[h10.length]? = some (.lst (zs.map D.int)) := by rw [hh11]; exact get_new
  obtain ⟨bs, h12, LC, k12, bsb, bsl⟩ : ∃ (bs : List Int) (h12 : HP), eLc [15] (gN 15) (iA (eSl opSl (eV 0) (oS (eC (.int 6))) (oS (eC (.int 36))))) tY (eOp opMod (eOp opMul (eOp opMod (eV 15) (eOp opPow (eC (.int 10)) (eC (.int 30)))) (eOp opIx (eLst (aC (eC (.int 1)) (aC (eOp opAdd (eOp opPow (eC (.int 10)) (eC (.int 15))) (eC (.int 37))) aN))) (eOp opMod (eV 15) (eC (.int 2))))) (eOp opAdd (eV 5) (eC (.int 1)))) (ctx T 12)
      [some (.ref 0), some (.ref tN), some (.int many), some (.int hgt), some (.ref h1.length), some (.int beats), some (.int goal), some (.int at_), some (.ref h4.length), some (.int way), some (.tup [.ref h6.length, .ref h7.length]), some (.ref h8.length), none, none, none, none, none] h10 = .ok (.ref h12.length) (h12 ++ [.lst (bs.map D.int)]) ∧ Kp h11 h12 ∧ (∀ z ∈ bs, 0 ≤ z ∧ z ≤ beats) ∧ bs.length ≤ 63 := by
    obtain ⟨ys, h12, r1, r2, r3, r4⟩ := cmp_grow (C := ctx T 12) (a := eOp opMod (eOp opMul (eOp opMod (eV 15) (eOp opPow (eC (.int 10)) (eC (.int 30)))) (eOp opIx (eLst (aC (eC (.int 1)) (aC (eOp opAdd (eOp opPow (eC (.int 10)) (eC (.int 15))) (eC (.int 37))) aN))) (eOp opMod (eV 15) (eC (.int 2))))) (eOp opAdd (eV 5) (eC (.int 1)))) (it := itL h10.length) (g := gN 15) (n := zs.length)
      (e0 := [some (.ref 0), some (.ref tN), some (.int many), some (.int hgt), some (.ref h1.length), some (.int beats), some (.int goal), some (.int at_), some (.ref h4.length), some (.int way), some (.tup [.ref h6.length, .ref h7.length]), some (.ref h8.length), none, none, none, none, none])
      (fun j => .int (zs.getD j 0)) (fun h' => Kp h11 h') (fun d => ∃ z : Int, d = .int z ∧ 0 ≤ z ∧ z ≤ beats)
      (fun j h' hj kp => itL_at (kp _ _ g11) (by rw [List.getD_eq_getElem?_getD, List.getElem?_eq_getElem hj]; rfl)) (fun h' kp => itL_end (kp _ _ g11))
      (fun j h' hj kp => by
        obtain ⟨z, hz⟩ : ∃ z, z = zs.getD j 0 := ⟨_, rfl⟩
        rw [← hz]
        obtain ⟨v, pv, ix⟩ := pick2 (h := h') (v := 10 ^ (15 : Int).toNat + 37) (z := z)
        obtain ⟨h'', hh''⟩ : ∃ h'', h'' = h' ++ [O.lst [.int 1, .int (10 ^ (15 : Int).toNat + 37)]] := ⟨_, rfl⟩
        have ix := ix h'' (by rw [hh'']; exact get_new)
        have ls : ∀ e : Ev, eLst (aC (eC (.int 1)) (aC (eOp opAdd (eOp opPow (eC (.int 10)) (eC (.int 15))) (eC (.int 37))) aN)) (ctx T 12) e h' = .ok (.ref h'.length) h'' := fun e => by
          rw [hh'']
          (repeat' first | with_reducible exact g_v rfl | with_reducible exact g_c | with_reducible exact g_an | with_reducible exact g_add | with_reducible exact g_sub | with_reducible exact g_iadd | with_reducible exact g_lt | with_reducible exact g_le | with_reducible exact g_gt | with_reducible exact g_ge | with_reducible exact g_eq | with_reducible exact g_ne | with_reducible exact g_neg | with_reducible exact g_mul (by first | assumption | omega | decide) | with_reducible exact g_div (by first | assumption | omega | decide) (by first | assumption | omega | decide) | with_reducible exact g_mod (by first | assumption | omega | decide) | with_reducible exact g_pow (by decide) | with_reducible apply g_isint | with_reducible exact g_sk | with_reducible exact g_rn | with_reducible exact g_bk | with_reducible exact g_ct | with_reducible exact g_gn0 | with_reducible apply g_gns | with_reducible exact g_ap0 | with_reducible apply g_apS | with_reducible apply g_op | with_reducible apply g_un | with_reducible apply g_ac | with_reducible apply g_call | with_reducible apply g_calld | with_reducible apply g_bf | with_reducible apply g_sq | with_reducible apply g_kn | with_reducible exact g_kr | with_reducible exact g_kb | with_reducible exact g_kc | with_reducible apply g_as | with_reducible apply g_pr | with_reducible apply g_au rfl | with_reducible apply g_rt | with_reducible apply g_ex | with_reducible apply g_if | with_reducible apply g_tv | with_reducible apply g_tan | with_reducible apply g_tor | with_reducible apply g_tnt | with_reducible apply g_ean | with_reducible apply g_eor | with_reducible apply g_ent | with_reducible apply g_eif | with_reducible apply g_iftt | with_reducible apply g_iffn | with_reducible apply g_ifff | with_reducible apply g_iftn | with_reducible refine g_ift (by first | assumption | omega | decide) ?_ | with_reducible refine g_iff (by first | assumption | omega | decide) ?_ | with_reducible refine g_ifnt (by first | assumption | omega | decide) ?_ | with_reducible refine g_ifnf (by first | assumption | omega | decide) ?_ | with_reducible exact rfl | with_reducible exact g_eqs | with_reducible exact g_nes | with_reducible exact g_neni | with_reducible exact g_nein | with_reducible exact g_nenn | with_reducible exact g_isn | with_reducible exact g_isi | with_reducible exact g_nsn | with_reducible exact g_nsi | with_reducible exact g_max | with_reducible exact g_max3 | with_reducible exact g_min | with_reducible exact g_intb | with_reducible apply g_gt2 | with_reducible apply g_gt3 | with_reducible apply g_tup | with_reducible apply g_lst | with_reducible exact lenOk rfl | with_reducible exact g_on | with_reducible apply g_os | with_reducible apply g_sl | with_reducible apply g_bkm | with_reducible exact g_okS )
        have mk := r30 z v (lv _ (.inr (.inr pv)))
        have z0 := Int.emod_nonneg (z % 10 ^ (30 : Int).toNat * v) (show beats + 1 ≠ 0 by omega)
        have z1 := Int.emod_lt_of_pos (z % 10 ^ (30 : Int).toNat * v) (show 0 < beats + 1 by omega)
        have mb : opMod (.int (z % 10 ^ (30 : Int).toNat * v)) (.int (beats + 1)) h'' = .ok (.int (z % 10 ^ (30 : Int).toNat * v % (beats + 1))) h'' := g_mod (by omega)
        refine ⟨_, rfl, .int (z % 10 ^ (30 : Int).toNat * v % (beats + 1)), h'', ?_, kp.trans (by rw [hh'']; exact Kp.app), _, rfl, z0, by omega⟩
        show (eOp opMod (eOp opMul (eOp opMod (eV 15) (eOp opPow (eC (.int 10)) (eC (.int 30)))) (eOp opIx (eLst (aC (eC (.int 1)) (aC (eOp opAdd (eOp opPow (eC (.int 10)) (eC (.int 15))) (eC (.int 37))) aN))) (eOp opMod (eV 15) (eC (.int 2))))) (eOp opAdd (eV 5) (eC (.int 1)))) (ctx T 12) [some (.ref 0), some (.ref tN), some (.int many), some (.int hgt), some (.ref h1.length), some (.int beats), some (.int goal), some (.int at_), some (.ref h4.length), some (.int way), some (.tup [.ref h6.length, .ref h7.length]), some (.ref h8.length), none, none, none, some (.int z), none] h' = _
        (repeat' first | with_reducible exact ls _ | with_reducible exact ix | with_reducible exact mb | with_reducible exact g_v rfl | with_reducible exact g_c | with_reducible exact g_an | with_reducible exact g_add | with_reducible exact g_sub | with_reducible exact g_iadd | with_reducible exact g_lt | with_reducible exact g_le | with_reducible exact g_gt | with_reducible exact g_ge | with_reducible exact g_eq | with_reducible exact g_ne | with_reducible exact g_neg | with_reducible exact g_mul (by first | assumption | omega | decide) | with_reducible exact g_div (by first | assumption | omega | decide) (by first | assumption | omega | decide) | with_reducible exact g_mod (by first | assumption | omega | decide) | with_reducible exact g_pow (by decide) | with_reducible apply g_isint | with_reducible exact g_sk | with_reducible exact g_rn | with_reducible exact g_bk | with_reducible exact g_ct | with_reducible exact g_gn0 | with_reducible apply g_gns | with_reducible exact g_ap0 | with_reducible apply g_apS | with_reducible apply g_op | with_reducible apply g_un | with_reducible apply g_ac | with_reducible apply g_call | with_reducible apply g_calld | with_reducible apply g_bf | with_reducible apply g_sq | with_reducible apply g_kn | with_reducible exact g_kr | with_reducible exact g_kb | with_reducible exact g_kc | with_reducible apply g_as | with_reducible apply g_pr | with_reducible apply g_au rfl | with_reducible apply g_rt | with_reducible apply g_ex | with_reducible apply g_if | with_reducible apply g_tv | with_reducible apply g_tan | with_reducible apply g_tor | with_reducible apply g_tnt | with_reducible apply g_ean | with_reducible apply g_eor | with_reducible apply g_ent | with_reducible apply g_eif | with_reducible apply g_iftt | with_reducible apply g_iffn | with_reducible apply g_ifff | with_reducible apply g_iftn | with_reducible refine g_ift (by first | assumption | omega | decide) ?_ | with_reducible refine g_iff (by first | assumption | omega | decide) ?_ | with_reducible refine g_ifnt (by first | assumption | omega | decide) ?_ | with_reducible refine g_ifnf (by first | assumption | omega | decide) ?_ | with_reducible exact rfl | with_reducible exact g_eqs | with_reducible exact g_nes | with_reducible exact g_neni | with_reducible exact g_nein | with_reducible exact g_nenn | with_reducible exact g_isn | with_reducible exact g_isi | with_reducible exact g_nsn | with_reducible exact g_nsi | with_reducible exact g_max | with_reducible exact g_max3 | with_reducible exact g_min | with_reducible exact g_intb | with_reducible apply g_gt2 | with_reducible apply g_gt3 | with_reducible apply g_tup | with_reducible apply g_lst | with_reducible exact lenOk rfl | with_reducible exact g_on | with_reducible apply g_os | with_reducible apply g_sl | with_reducible apply g_bkm | with_reducible exact g_okS ))
      (by rw [sizeLine_eq]; omega) zs.length 0 [] h11 (by omega) rfl (fun o ho => by cases ho) Kp.refl (ctx T 12).fuel (by have := fuT 12; omega)
    obtain ⟨bs, rfl, hbs⟩ : ∃ bs : List Int, ys = bs.map D.int ∧ ∀ z ∈ bs, 0 ≤ z ∧ z ≤ beats := by
      clear r1 r2
      induction ys with
      | nil => exact ⟨[], rfl, fun z hz => by cases hz⟩
      | cons y ys ih =>
        obtain ⟨bs, e, hn⟩ := ih fun o ho => r3 o (List.mem_cons_of_mem _ ho)
        obtain ⟨z, n1, n2⟩ := r3 y (List.mem_cons_self ..)
        exact ⟨z :: bs, by rw [e, n1]; rfl, allc n2 hn⟩
    rw [List.length_map] at r2
    refine ⟨bs, h12, lc_of (it := itL h10.length) (h1 := h11) ?_ r1, r4, hbs, by omega⟩
    have q : (eSl opSl (eV 0) (oS (eC (.int 6))) (oS (eC (.int 36)))) (ctx T 12) [some (.ref 0), some (.ref tN), some (.int many), some (.int hgt), some (.ref h1.length), some (.int beats), some (.int goal), some (.int at_), some (.ref h4.length), some (.int way), some (.tup [.ref h6.length, .ref h7.length]), some (.ref h8.length), none, none, none, none, none] h10 = .ok (.ref h10.length) h11 := by (repeat' first | with_reducible exact sl | with_reducible exact g_v rfl | with_reducible exact g_c | with_reducible exact g_an | with_reducible exact g_add | with_reducible exact g_sub | with_reducible exact g_iadd | with_reducible exact g_lt | with_reducible exact g_le | with_reducible exact g_gt | with_reducible exact g_ge | with_reducible exact g_eq | with_reducible exact g_ne | with_reducible exact g_neg | with_reducible exact g_mul (by first | assumption | omega | decide) | with_reducible exact g_div (by first | assumption | omega | decide) (by first | assumption | omega | decide) | with_reducible exact g_mod (by first | assumption | omega | decide) | with_reducible exact g_pow (by decide) | with_reducible apply g_isint | with_reducible exact g_sk | with_reducible exact g_rn | with_reducible exact g_bk | with_reducible exact g_ct | with_reducible exact g_gn0 | with_reducible apply g_gns | with_reducible exact g_ap0 | with_reducible apply g_apS | with_reducible apply g_op | with_reducible apply g_un | with_reducible apply g_ac | with_reducible apply g_call | with_reducible apply g_calld | with_reducible apply g_bf | with_reducible apply g_sq | with_reducible apply g_kn | with_reducible exact g_kr | with_reducible exact g_kb | with_reducible exact g_kc | with_reducible apply g_as | with_reducible apply g_pr | with_reducible apply g_au rfl | with_reducible apply g_rt | with_reducible apply g_ex | with_reducible apply g_if | with_reducible apply g_tv | with_reducible apply g_tan | with_reducible apply g_tor | with_reducible apply g_tnt | with_reducible apply g_ean | with_reducible apply g_eor | with_reducible apply g_ent | with_reducible apply g_eif | with_reducible apply g_iftt | with_reducible apply g_iffn | with_reducible apply g_ifff | with_reducible apply g_iftn | with_reducible refine g_ift (by first | assumption | omega | decide) ?_ | with_reducible refine g_iff (by first | assumption | omega | decide) ?_ | with_reducible refine g_ifnt (by first | assumption | omega | decide) ?_ | with_reducible refine g_ifnf (by first | assumption | omega | decide) ?_ | with_reducible exact rfl | with_reducible exact g_eqs | with_reducible exact g_nes | with_reducible exact g_neni | with_reducible exact g_nein | with_reducible exact g_nenn | with_reducible exact g_isn | with_reducible exact g_isi | with_reducible exact g_nsn | with_reducible exact g_nsi | with_reducible exact g_max | with_reducible exact g_max3 | with_reducible exact g_min | with_reducible exact g_intb | with_reducible apply g_gt2 | with_reducible apply g_gt3 | with_reducible apply g_tup | with_reducible apply g_lst | with_reducible exact lenOk rfl | with_reducible exact g_on | with_reducible apply g_os | with_reducible apply g_sl | with_reducible apply g_bkm | with_reducible exact g_okS )
    unfold iA; rw [q]; simp only [Z.R.bind_ok, isL_of g11]
  obtain ⟨h13, hh13⟩ : ∃ h13, h13 = h12 ++ [O.lst (bs.map D.int)] := ⟨_, rfl⟩
  rw [← hh13] at LC
  have k13 : Kp h12 h13 := by rw [hh13]; exact Kp.app
  have cat := g_catI (h := h13) (i := h9.length) (j := h12.length) ((k11.trans (k12.trans k13)) _ _ g10) (by rw [hh13]; exact get_new) (by rw [List.length_map]; show 2 + _ ≤ _; omega)
  have ecat : [D.int 0, D.int beats] ++ bs.map D.int = (0 :: beats :: bs).map D.int := rfl
  rw [ecat] at cat
  obtain ⟨bz, hbz⟩ : ∃ bz, bz = 0 :: beats :: bs := ⟨_, rfl⟩
  rw [← hbz] at cat
  have bzb : ∀ z ∈ bz, 0 ≤ z ∧ z ≤ beats := by rw [hbz]; exact allc (by omega) (allc (by omega) bsb)
  have bzl : bz.length ≤ 65 := by rw [hbz, List.length_cons, List.length_cons]; omega
  obtain ⟨h14, hh14⟩ : ∃ h14, h14 = h13 ++ [O.lst (bz.map D.int)] := ⟨_, rfl⟩
  rw [← hh14] at cat
  have k14 : Kp h13 h14 := by rw [hh14]; exact Kp.app
  have g14 : h14[h13.length]? = some (.lst (bz.map D.int)) := by rw [hh14]; exact get_new
  have k9e : Kp h9 h14 := k10.trans (k11.trans (k12.trans (k13.trans k14)))
  have g1L : h9[h1.length]? = some (.lst (L.map limbD)) := (k3.trans (k4.trans (k5.trans (k6.trans (k7.trans (k8.trans k9)))))) _ _ g2
  have kN : Kp h1 h9 := kh7.trans (k8.trans k9)
  have l8 := o.l1
  obtain ⟨e2, h15, F, x12, x13, rfl, k15⟩ := for_ints (C := ctx T 12) (g := gN 12) (b := b_law_1) (i := h13.length) (zs := bz)
    (fun j e h' => ∃ x12 x13, e = [some (.ref 0), some (.ref tN), some (.int many), some (.int hgt), some (.ref h1.length), some (.int beats), some (.int goal), some (.int at_), some (.ref h4.length), some (.int way), some (.tup [.ref h6.length, .ref h7.length]), some (.ref h8.length), x12, x13, none, none, none] ∧ Kp h14 h')
    (fun j e h' ⟨x12, x13, e1, k⟩ => k _ _ g14)
    (fun j z e h' hz ⟨x12, x13, e1, k⟩ => by
      subst e1
      obtain ⟨z0, z1⟩ := bzb z (List.mem_of_getElem? hz)
      have k9h : Kp h9 h' := k9e.trans k
      have gL := k9h _ _ g1L
      have DU : eLc [16, 3] (gT [16, 3]) (iA (eV 4)) tY (eV 3) (ctx T 12) [some (.ref 0), some (.ref tN), some (.int many), some (.int hgt), some (.ref h1.length), some (.int beats), some (.int goal), some (.int at_), some (.ref h4.length), some (.int way), some (.tup [.ref h6.length, .ref h7.length]), some (.ref h8.length), some (.int z), x13, none, none, none] h' = .ok (.ref h'.length) (h' ++ [.lst (hs0.map D.int)]) := by
        refine lc_of (it := itL h1.length) (h1 := h') (by unfold iA; rw [g_v (d := .ref h1.length) rfl]; simp only [Z.R.bind_ok, isL_of gL]) ?_
        rw [hhs0, List.map_map]
        exact cmp_map limbD _ (fun i x q => itL_at gL q) (itL_end gL) (fun x _ => ⟨_, rfl, rfl⟩) (by omega) (fuT 12)
      obtain ⟨hA, hhA⟩ : ∃ hA, hA = h' ++ [O.lst (hs0.map D.int)] := ⟨_, rfl⟩
      rw [← hhA] at DU
      have kA : Kp h' hA := by rw [hhA]; exact Kp.app
      have gA : hA[h'.length]? = some (.lst (hs0.map D.int)) := by rw [hhA]; exact get_new
      -- the limb raised
      obtain ⟨hB, kB, gB, SD⟩ : ∃ hB, Kp h' hB ∧ hB[h'.length]? = some (.lst ((leafS L hs0 z f).map D.int)) ∧ (sIf (tV (eOp opEq (eV 9) (eC (.int 0)))) (sSt stD (eV 13) (eV 7) (eOp opAdd (eOp opIx (eV 13) (eV 7)) (eOp opDiv (eOp opMul (eOp opSub (eV 6) (eOp opIx (eV 13) (eV 7))) (eV 12)) (eV 5)))) sSk) (ctx T 12) [some (.ref 0), some (.ref tN), some (.int many), some (.int hgt), some (.ref h1.length), some (.int beats), some (.int goal), some (.int at_), some (.ref h4.length), some (.int way), some (.tup [.ref h6.length, .ref h7.length]), some (.ref h8.length), some (.int z), some (.ref h'.length), none, none, none] hA =
          .ok (.nx [some (.ref 0), some (.ref tN), some (.int many), some (.int hgt), some (.ref h1.length), some (.int beats), some (.int goal), some (.int at_), some (.ref h4.length), some (.int way), some (.tup [.ref h6.length, .ref h7.length]), some (.ref h8.length), some (.int z), some (.ref h'.length), none, none, none]) hB := by
        by_cases w : way = 0
        · have e : f = Fm.raise (N.getD at_.toNat "") goal beats := by rw [hf, if_pos w, hfA]
          have hgi : hs0[at_.toNat]? = some (hs0.getD at_.toNat 0) := by rw [List.getD_eq_getElem?_getD, List.getElem?_eq_getElem (by omega)]; rfl
          have hb2 := hsb _ (List.mem_of_getElem? hgi)
          have ixh : opIx (.ref h'.length) (.int at_) hA = .ok (.int (hs0.getD at_.toNat 0)) hA := g_ixl gA at0 (by rw [List.getElem?_map, hgi]; rfl)
          obtain ⟨s, hs'⟩ : ∃ s, s = hs0.getD at_.toNat 0 := ⟨_, rfl⟩
          rw [← hs'] at ixh hb2
          have mk : mulOk (goal - s) z = true := mulOk_of (a := 100) (b := 100) ⟨Nat.lt_of_le_of_lt (show (goal - s).natAbs ≤ 10 ^ 18 by omega) (by decide)⟩ ⟨Nat.lt_of_le_of_lt (show z.natAbs ≤ 10 ^ 18 by omega) (by decide)⟩ (by decide)
          have dk : divOk beats = true := divOk_of (by omega) (a := 100) ⟨Nat.lt_of_le_of_lt (show beats.natAbs ≤ 10 ^ 18 by omega) (by decide)⟩ (by decide)
          have st := g_stL (k := at_.toNat) (v := .int (s + (goal - s) * z / beats)) gA (by rw [List.length_map]; omega)
          rw [Int.toNat_of_nonneg at0, ← List.map_set (f := D.int)] at st
          refine ⟨hA.set h'.length (.lst ((hs0.set at_.toNat (s + (goal - s) * z / beats)).map D.int)), kA.set (Nat.le_refl _), ?_, ?_⟩
          · rw [getset_same gA, e]
            show _ = some (O.lst ((hs0.set (ixN_ (lnm L) (N.getD at_.toNat "")) (rampV (hs0.getD (ixN_ (lnm L) (N.getD at_.toNat "")) 0) goal beats z)).map D.int))
            rw [ixat, ← hs']; rfl
          · apply g_if
            · (repeat' first | with_reducible exact g_v rfl | with_reducible exact g_c | with_reducible exact g_an | with_reducible exact g_add | with_reducible exact g_sub | with_reducible exact g_iadd | with_reducible exact g_lt | with_reducible exact g_le | with_reducible exact g_gt | with_reducible exact g_ge | with_reducible exact g_eq | with_reducible exact g_ne | with_reducible exact g_neg | with_reducible exact g_mul (by first | assumption | omega | decide) | with_reducible exact g_div (by first | assumption | omega | decide) (by first | assumption | omega | decide) | with_reducible exact g_mod (by first | assumption | omega | decide) | with_reducible exact g_pow (by decide) | with_reducible apply g_isint | with_reducible exact g_sk | with_reducible exact g_rn | with_reducible exact g_bk | with_reducible exact g_ct | with_reducible exact g_gn0 | with_reducible apply g_gns | with_reducible exact g_ap0 | with_reducible apply g_apS | with_reducible apply g_op | with_reducible apply g_un | with_reducible apply g_ac | with_reducible apply g_call | with_reducible apply g_calld | with_reducible apply g_bf | with_reducible apply g_sq | with_reducible apply g_kn | with_reducible exact g_kr | with_reducible exact g_kb | with_reducible exact g_kc | with_reducible apply g_as | with_reducible apply g_pr | with_reducible apply g_au rfl | with_reducible apply g_rt | with_reducible apply g_ex | with_reducible apply g_if | with_reducible apply g_tv | with_reducible apply g_tan | with_reducible apply g_tor | with_reducible apply g_tnt | with_reducible apply g_ean | with_reducible apply g_eor | with_reducible apply g_ent | with_reducible apply g_eif | with_reducible apply g_iftt | with_reducible apply g_iffn | with_reducible apply g_ifff | with_reducible apply g_iftn | with_reducible refine g_ift (by first | assumption | omega | decide) ?_ | with_reducible refine g_iff (by first | assumption | omega | decide) ?_ | with_reducible refine g_ifnt (by first | assumption | omega | decide) ?_ | with_reducible refine g_ifnf (by first | assumption | omega | decide) ?_ | with_reducible exact rfl | with_reducible exact g_eqs | with_reducible exact g_nes | with_reducible exact g_neni | with_reducible exact g_nein | with_reducible exact g_nenn | with_reducible exact g_isn | with_reducible exact g_isi | with_reducible exact g_nsn | with_reducible exact g_nsi | with_reducible exact g_max | with_reducible exact g_max3 | with_reducible exact g_min | with_reducible exact g_intb | with_reducible apply g_gt2 | with_reducible apply g_gt3 | with_reducible apply g_tup | with_reducible apply g_lst | with_reducible exact lenOk rfl | with_reducible exact g_on | with_reducible apply g_os | with_reducible apply g_sl | with_reducible apply g_bkm | with_reducible exact g_okS )
            · refine g_ift w ?_
              apply g_st
              · (repeat' first | with_reducible exact ixh | with_reducible exact g_v rfl | with_reducible exact g_c | with_reducible exact g_an | with_reducible exact g_add | with_reducible exact g_sub | with_reducible exact g_iadd | with_reducible exact g_lt | with_reducible exact g_le | with_reducible exact g_gt | with_reducible exact g_ge | with_reducible exact g_eq | with_reducible exact g_ne | with_reducible exact g_neg | with_reducible exact g_mul (by first | assumption | omega | decide) | with_reducible exact g_div (by first | assumption | omega | decide) (by first | assumption | omega | decide) | with_reducible exact g_mod (by first | assumption | omega | decide) | with_reducible exact g_pow (by decide) | with_reducible apply g_isint | with_reducible exact g_sk | with_reducible exact g_rn | with_reducible exact g_bk | with_reducible exact g_ct | with_reducible exact g_gn0 | with_reducible apply g_gns | with_reducible exact g_ap0 | with_reducible apply g_apS | with_reducible apply g_op | with_reducible apply g_un | with_reducible apply g_ac | with_reducible apply g_call | with_reducible apply g_calld | with_reducible apply g_bf | with_reducible apply g_sq | with_reducible apply g_kn | with_reducible exact g_kr | with_reducible exact g_kb | with_reducible exact g_kc | with_reducible apply g_as | with_reducible apply g_pr | with_reducible apply g_au rfl | with_reducible apply g_rt | with_reducible apply g_ex | with_reducible apply g_if | with_reducible apply g_tv | with_reducible apply g_tan | with_reducible apply g_tor | with_reducible apply g_tnt | with_reducible apply g_ean | with_reducible apply g_eor | with_reducible apply g_ent | with_reducible apply g_eif | with_reducible apply g_iftt | with_reducible apply g_iffn | with_reducible apply g_ifff | with_reducible apply g_iftn | with_reducible refine g_ift (by first | assumption | omega | decide) ?_ | with_reducible refine g_iff (by first | assumption | omega | decide) ?_ | with_reducible refine g_ifnt (by first | assumption | omega | decide) ?_ | with_reducible refine g_ifnf (by first | assumption | omega | decide) ?_ | with_reducible exact rfl | with_reducible exact g_eqs | with_reducible exact g_nes | with_reducible exact g_neni | with_reducible exact g_nein | with_reducible exact g_nenn | with_reducible exact g_isn | with_reducible exact g_isi | with_reducible exact g_nsn | with_reducible exact g_nsi | with_reducible exact g_max | with_reducible exact g_max3 | with_reducible exact g_min | with_reducible exact g_intb | with_reducible apply g_gt2 | with_reducible apply g_gt3 | with_reducible apply g_tup | with_reducible apply g_lst | with_reducible exact lenOk rfl | with_reducible exact g_on | with_reducible apply g_os | with_reducible apply g_sl | with_reducible apply g_bkm | with_reducible exact g_okS )
              · (repeat' first | with_reducible exact g_v rfl | with_reducible exact g_c | with_reducible exact g_an | with_reducible exact g_add | with_reducible exact g_sub | with_reducible exact g_iadd | with_reducible exact g_lt | with_reducible exact g_le | with_reducible exact g_gt | with_reducible exact g_ge | with_reducible exact g_eq | with_reducible exact g_ne | with_reducible exact g_neg | with_reducible exact g_mul (by first | assumption | omega | decide) | with_reducible exact g_div (by first | assumption | omega | decide) (by first | assumption | omega | decide) | with_reducible exact g_mod (by first | assumption | omega | decide) | with_reducible exact g_pow (by decide) | with_reducible apply g_isint | with_reducible exact g_sk | with_reducible exact g_rn | with_reducible exact g_bk | with_reducible exact g_ct | with_reducible exact g_gn0 | with_reducible apply g_gns | with_reducible exact g_ap0 | with_reducible apply g_apS | with_reducible apply g_op | with_reducible apply g_un | with_reducible apply g_ac | with_reducible apply g_call | with_reducible apply g_calld | with_reducible apply g_bf | with_reducible apply g_sq | with_reducible apply g_kn | with_reducible exact g_kr | with_reducible exact g_kb | with_reducible exact g_kc | with_reducible apply g_as | with_reducible apply g_pr | with_reducible apply g_au rfl | with_reducible apply g_rt | with_reducible apply g_ex | with_reducible apply g_if | with_reducible apply g_tv | with_reducible apply g_tan | with_reducible apply g_tor | with_reducible apply g_tnt | with_reducible apply g_ean | with_reducible apply g_eor | with_reducible apply g_ent | with_reducible apply g_eif | with_reducible apply g_iftt | with_reducible apply g_iffn | with_reducible apply g_ifff | with_reducible apply g_iftn | with_reducible refine g_ift (by first | assumption | omega | decide) ?_ | with_reducible refine g_iff (by first | assumption | omega | decide) ?_ | with_reducible refine g_ifnt (by first | assumption | omega | decide) ?_ | with_reducible refine g_ifnf (by first | assumption | omega | decide) ?_ | with_reducible exact rfl | with_reducible exact g_eqs | with_reducible exact g_nes | with_reducible exact g_neni | with_reducible exact g_nein | with_reducible exact g_nenn | with_reducible exact g_isn | with_reducible exact g_isi | with_reducible exact g_nsn | with_reducible exact g_nsi | with_reducible exact g_max | with_reducible exact g_max3 | with_reducible exact g_min | with_reducible exact g_intb | with_reducible apply g_gt2 | with_reducible apply g_gt3 | with_reducible apply g_tup | with_reducible apply g_lst | with_reducible exact lenOk rfl | with_reducible exact g_on | with_reducible apply g_os | with_reducible apply g_sl | with_reducible apply g_bkm | with_reducible exact g_okS )
              · (repeat' first | with_reducible exact g_v rfl | with_reducible exact g_c | with_reducible exact g_an | with_reducible exact g_add | with_reducible exact g_sub | with_reducible exact g_iadd | with_reducible exact g_lt | with_reducible exact g_le | with_reducible exact g_gt | with_reducible exact g_ge | with_reducible exact g_eq | with_reducible exact g_ne | with_reducible exact g_neg | with_reducible exact g_mul (by first | assumption | omega | decide) | with_reducible exact g_div (by first | assumption | omega | decide) (by first | assumption | omega | decide) | with_reducible exact g_mod (by first | assumption | omega | decide) | with_reducible exact g_pow (by decide) | with_reducible apply g_isint | with_reducible exact g_sk | with_reducible exact g_rn | with_reducible exact g_bk | with_reducible exact g_ct | with_reducible exact g_gn0 | with_reducible apply g_gns | with_reducible exact g_ap0 | with_reducible apply g_apS | with_reducible apply g_op | with_reducible apply g_un | with_reducible apply g_ac | with_reducible apply g_call | with_reducible apply g_calld | with_reducible apply g_bf | with_reducible apply g_sq | with_reducible apply g_kn | with_reducible exact g_kr | with_reducible exact g_kb | with_reducible exact g_kc | with_reducible apply g_as | with_reducible apply g_pr | with_reducible apply g_au rfl | with_reducible apply g_rt | with_reducible apply g_ex | with_reducible apply g_if | with_reducible apply g_tv | with_reducible apply g_tan | with_reducible apply g_tor | with_reducible apply g_tnt | with_reducible apply g_ean | with_reducible apply g_eor | with_reducible apply g_ent | with_reducible apply g_eif | with_reducible apply g_iftt | with_reducible apply g_iffn | with_reducible apply g_ifff | with_reducible apply g_iftn | with_reducible refine g_ift (by first | assumption | omega | decide) ?_ | with_reducible refine g_iff (by first | assumption | omega | decide) ?_ | with_reducible refine g_ifnt (by first | assumption | omega | decide) ?_ | with_reducible refine g_ifnf (by first | assumption | omega | decide) ?_ | with_reducible exact rfl | with_reducible exact g_eqs | with_reducible exact g_nes | with_reducible exact g_neni | with_reducible exact g_nein | with_reducible exact g_nenn | with_reducible exact g_isn | with_reducible exact g_isi | with_reducible exact g_nsn | with_reducible exact g_nsi | with_reducible exact g_max | with_reducible exact g_max3 | with_reducible exact g_min | with_reducible exact g_intb | with_reducible apply g_gt2 | with_reducible apply g_gt3 | with_reducible apply g_tup | with_reducible apply g_lst | with_reducible exact lenOk rfl | with_reducible exact g_on | with_reducible apply g_os | with_reducible apply g_sl | with_reducible apply g_bkm | with_reducible exact g_okS )
              · exact st
        · have e : leafS L hs0 z f = hs0 := by
            rw [hf, if_neg w]
            by_cases w1 : way = 1
            · rw [if_pos w1, hfB]; rfl
            · rw [if_neg w1, hfC]; rfl
          refine ⟨hA, kA, by rw [e]; exact gA, ?_⟩
          (repeat' first | with_reducible exact g_v rfl | with_reducible exact g_c | with_reducible exact g_an | with_reducible exact g_add | with_reducible exact g_sub | with_reducible exact g_iadd | with_reducible exact g_lt | with_reducible exact g_le | with_reducible exact g_gt | with_reducible exact g_ge | with_reducible exact g_eq | with_reducible exact g_ne | with_reducible exact g_neg | with_reducible exact g_mul (by first | assumption | omega | decide) | with_reducible exact g_div (by first | assumption | omega | decide) (by first | assumption | omega | decide) | with_reducible exact g_mod (by first | assumption | omega | decide) | with_reducible exact g_pow (by decide) | with_reducible apply g_isint | with_reducible exact g_sk | with_reducible exact g_rn | with_reducible exact g_bk | with_reducible exact g_ct | with_reducible exact g_gn0 | with_reducible apply g_gns | with_reducible exact g_ap0 | with_reducible apply g_apS | with_reducible apply g_op | with_reducible apply g_un | with_reducible apply g_ac | with_reducible apply g_call | with_reducible apply g_calld | with_reducible apply g_bf | with_reducible apply g_sq | with_reducible apply g_kn | with_reducible exact g_kr | with_reducible exact g_kb | with_reducible exact g_kc | with_reducible apply g_as | with_reducible apply g_pr | with_reducible apply g_au rfl | with_reducible apply g_rt | with_reducible apply g_ex | with_reducible apply g_if | with_reducible apply g_tv | with_reducible apply g_tan | with_reducible apply g_tor | with_reducible apply g_tnt | with_reducible apply g_ean | with_reducible apply g_eor | with_reducible apply g_ent | with_reducible apply g_eif | with_reducible apply g_iftt | with_reducible apply g_iffn | with_reducible apply g_ifff | with_reducible apply g_iftn | with_reducible refine g_ift (by first | assumption | omega | decide) ?_ | with_reducible refine g_iff (by first | assumption | omega | decide) ?_ | with_reducible refine g_ifnt (by first | assumption | omega | decide) ?_ | with_reducible refine g_ifnf (by first | assumption | omega | decide) ?_ | with_reducible exact rfl | with_reducible exact g_eqs | with_reducible exact g_nes | with_reducible exact g_neni | with_reducible exact g_nein | with_reducible exact g_nenn | with_reducible exact g_isn | with_reducible exact g_isi | with_reducible exact g_nsn | with_reducible exact g_nsi | with_reducible exact g_max | with_reducible exact g_max3 | with_reducible exact g_min | with_reducible exact g_intb | with_reducible apply g_gt2 | with_reducible apply g_gt3 | with_reducible apply g_tup | with_reducible apply g_lst | with_reducible exact lenOk rfl | with_reducible exact g_on | with_reducible apply g_os | with_reducible apply g_sl | with_reducible apply g_bkm | with_reducible exact g_okS )
      have kB9 : Kp h9 hB := k9h.trans kB
      -- stand
      obtain ⟨hC, tS, sr, kC, gC⟩ := stand1 gl o (fuT 11) lf nrw (kB9 _ _ ga) (kB9 _ _ gb) z0 z1 lr
      have sr : (ctx T 12).call 87 [.tup [.ref h6.length, .ref h7.length], .int z] hB = .ok (.ref tS) hC := sr
      rw [← hhs0, xf] at gC
      have lsl : (leafS L hs0 z f).length ≤ 8 := by
        have : (leafS L hs0 z f).length = hs0.length := by cases f <;> simp [leafS]
        omega
      have al1 : (ctx T 12).call 173 [.ref tS, .ref h'.length] hC = .ok (.bl true) hC := alikeZ (C := ctx T 11) (fuT 11) (by rw [List.length_map]; omega) gC (kC _ _ gB) (fun y hy => by
        obtain ⟨v, _, rfl⟩ := List.mem_map.mp hy
        exact .inl ⟨v, rfl⟩)
      -- rings
      have kC9 := kB9.trans kC
      obtain ⟨hD, tR, ws, rr, kD, gD, hws⟩ := rings1 gl (kC9 _ _ ga) (kC9 _ _ gb) z0 z1 bt.1
      have rr : (ctx T 12).call 170 [.tup [.ref h6.length, .ref h7.length], .int z] hC = .ok (.ref tR) hD := rr
      have kD9 := kC9.trans kD
      have i9 := ix9 hD (kN.trans kD9)
      have sng : ∀ b : Bool, opMul (.ref hD.length) (.int (if b then 1 else 0)) (hD ++ [.lst [.str (N.getD (9 : Int).toNat "")]]) = .ok (.ref (hD ++ [O.lst [.str (N.getD (9 : Int).toNat "")]]).length) (hD ++ [.lst [.str (N.getD (9 : Int).toNat "")]] ++ [.lst ((if b then [N.getD (9 : Int).toNat ""] else []).map D.str)]) := fun b => by
        have g : (hD ++ [O.lst [D.str (N.getD (9 : Int).toNat "")]])[hD.length]? = some (.lst [.str (N.getD (9 : Int).toNat "")]) := get_new
        cases b
        · have zz : -(2 ^ 63) ≤ (0 : Int) ∧ (0 : Int) < 2 ^ 63 ∧ [D.str (N.getD (9 : Int).toNat "")].length * (0 : Int).toNat ≤ sizeLine := ⟨by decide, by decide, by rw [sizeLine_eq]; show 1 * 0 ≤ 16777216; decide⟩
          show opMul _ (.int 0) _ = _
          simp only [opMul, g, if_pos zz]
          rfl
        · have zz : -(2 ^ 63) ≤ (1 : Int) ∧ (1 : Int) < 2 ^ 63 ∧ [D.str (N.getD (9 : Int).toNat "")].length * (1 : Int).toNat ≤ sizeLine := ⟨by decide, by decide, by rw [sizeLine_eq]; show 1 * 1 ≤ 16777216; decide⟩
          show opMul _ (.int 1) _ = _
          simp only [opMul, g, if_pos zz]
          rfl
      obtain ⟨bb, hbb⟩ : ∃ bb : Bool, bb = (decide (way = 2) && decide (z = 0)) := ⟨_, rfl⟩
      have AN : ∀ (e : Ev) (hh : HP), e[9]? = some (some (.int way)) → e[12]? = some (some (.int z)) → eAn (eOp opEq (eV 9) (eC (.int 2))) (eOp opEq (eV 12) (eC (.int 0))) (ctx T 12) e hh = .ok (.bl bb) hh := fun e hh q1 q2 => by
        refine g_ean (bb := decide (way = 2)) (g_op (g_v q1) g_c g_eq) ?_
        by_cases w : way = 2
        · rw [decide_eq_true w, if_pos rfl, hbb, decide_eq_true w]
          exact g_op (g_v q2) g_c g_eq
        · rw [decide_eq_false w, hbb, decide_eq_false w]; rfl
      have ews : ws = if bb then [N.getD (9 : Int).toNat ""] else [] := by
        rw [hws, xf, hf, hbb]
        rcases pway with w | w | w <;> subst w
        · rw [if_pos rfl, hfA]; rfl
        · rw [if_neg (by decide), if_pos rfl, hfB]; rfl
        · rw [if_neg (by decide), if_neg (by decide), hfC]
          show (if z = 0 then _ else _) = _
          by_cases w : z = 0 <;> simp [w]
      have sng := sng bb
      obtain ⟨hE, hhE⟩ : ∃ hE, hE = hD ++ [O.lst [.str (N.getD (9 : Int).toNat "")]] ++ [O.lst ((if bb then [N.getD (9 : Int).toNat ""] else []).map D.str)] := ⟨_, rfl⟩
      rw [← hhE] at sng
      have kE : Kp hD hE := by rw [hhE]; exact Kp.app.trans Kp.app
      have gE : hE[(hD ++ [O.lst [D.str (N.getD (9 : Int).toNat "")]]).length]? = some (.lst (ws.map D.str)) := by rw [hhE, ews]; exact get_new
      have al2 : (ctx T 12).call 173 [.ref tR, .ref (hD ++ [O.lst [D.str (N.getD (9 : Int).toNat "")]]).length] hE = .ok (.bl true) hE := alikeZ (C := ctx T 11) (fuT 11) (by rw [List.length_map, ews]; split <;> simp) (kE _ _ gD) gE (fun y hy => by
        obtain ⟨v, _, rfl⟩ := List.mem_map.mp hy
        exact .inr ⟨v, rfl⟩)
      have ib : ∀ hh, bInt [.bl bb] hh = .ok (.int (if bb then 1 else 0)) hh := fun hh => rfl
      unfold b_law_1
      apply turn_of
      · (repeat' first | with_reducible exact g_v rfl | with_reducible exact g_c | with_reducible exact g_an | with_reducible exact g_add | with_reducible exact g_sub | with_reducible exact g_iadd | with_reducible exact g_lt | with_reducible exact g_le | with_reducible exact g_gt | with_reducible exact g_ge | with_reducible exact g_eq | with_reducible exact g_ne | with_reducible exact g_neg | with_reducible exact g_mul (by first | assumption | omega | decide) | with_reducible exact g_div (by first | assumption | omega | decide) (by first | assumption | omega | decide) | with_reducible exact g_mod (by first | assumption | omega | decide) | with_reducible exact g_pow (by decide) | with_reducible apply g_isint | with_reducible exact g_sk | with_reducible exact g_rn | with_reducible exact g_bk | with_reducible exact g_ct | with_reducible exact g_gn0 | with_reducible apply g_gns | with_reducible exact g_ap0 | with_reducible apply g_apS | with_reducible apply g_op | with_reducible apply g_un | with_reducible apply g_ac | with_reducible apply g_call | with_reducible apply g_calld | with_reducible apply g_bf | with_reducible apply g_sq | with_reducible apply g_kn | with_reducible exact g_kr | with_reducible exact g_kb | with_reducible exact g_kc | with_reducible apply g_as | with_reducible apply g_pr | with_reducible apply g_au rfl | with_reducible apply g_rt | with_reducible apply g_ex | with_reducible apply g_if | with_reducible apply g_tv | with_reducible apply g_tan | with_reducible apply g_tor | with_reducible apply g_tnt | with_reducible apply g_ean | with_reducible apply g_eor | with_reducible apply g_ent | with_reducible apply g_eif | with_reducible apply g_iftt | with_reducible apply g_iffn | with_reducible apply g_ifff | with_reducible apply g_iftn | with_reducible refine g_ift (by first | assumption | omega | decide) ?_ | with_reducible refine g_iff (by first | assumption | omega | decide) ?_ | with_reducible refine g_ifnt (by first | assumption | omega | decide) ?_ | with_reducible refine g_ifnf (by first | assumption | omega | decide) ?_ | with_reducible exact rfl | with_reducible exact g_eqs | with_reducible exact g_nes | with_reducible exact g_neni | with_reducible exact g_nein | with_reducible exact g_nenn | with_reducible exact g_isn | with_reducible exact g_isi | with_reducible exact g_nsn | with_reducible exact g_nsi | with_reducible exact g_max | with_reducible exact g_max3 | with_reducible exact g_min | with_reducible exact g_intb | with_reducible apply g_gt2 | with_reducible apply g_gt3 | with_reducible apply g_tup | with_reducible apply g_lst | with_reducible exact lenOk rfl | with_reducible exact g_on | with_reducible apply g_os | with_reducible apply g_sl | with_reducible apply g_bkm | with_reducible exact g_okS )
      apply body_nx
      · (repeat' first | with_reducible exact DU | with_reducible exact SD | with_reducible exact sr | with_reducible exact al1 | with_reducible exact rr | with_reducible exact i9 | with_reducible exact AN _ _ rfl rfl | with_reducible exact ib _ | with_reducible exact sng | with_reducible exact al2 | with_reducible exact g_v rfl | with_reducible exact g_c | with_reducible exact g_an | with_reducible exact g_add | with_reducible exact g_sub | with_reducible exact g_iadd | with_reducible exact g_lt | with_reducible exact g_le | with_reducible exact g_gt | with_reducible exact g_ge | with_reducible exact g_eq | with_reducible exact g_ne | with_reducible exact g_neg | with_reducible exact g_mul (by first | assumption | omega | decide) | with_reducible exact g_div (by first | assumption | omega | decide) (by first | assumption | omega | decide) | with_reducible exact g_mod (by first | assumption | omega | decide) | with_reducible exact g_pow (by decide) | with_reducible apply g_isint | with_reducible exact g_sk | with_reducible exact g_rn | with_reducible exact g_bk | with_reducible exact g_ct | with_reducible exact g_gn0 | with_reducible apply g_gns | with_reducible exact g_ap0 | with_reducible apply g_apS | with_reducible apply g_op | with_reducible apply g_un | with_reducible apply g_ac | with_reducible apply g_call | with_reducible apply g_calld | with_reducible apply g_bf | with_reducible apply g_sq | with_reducible apply g_kn | with_reducible exact g_kr | with_reducible exact g_kb | with_reducible exact g_kc | with_reducible apply g_as | with_reducible apply g_pr | with_reducible apply g_au rfl | with_reducible apply g_rt | with_reducible apply g_ex | with_reducible apply g_if | with_reducible apply g_tv | with_reducible apply g_tan | with_reducible apply g_tor | with_reducible apply g_tnt | with_reducible apply g_ean | with_reducible apply g_eor | with_reducible apply g_ent | with_reducible apply g_eif | with_reducible apply g_iftt | with_reducible apply g_iffn | with_reducible apply g_ifff | with_reducible apply g_iftn | with_reducible refine g_ift (by first | assumption | omega | decide) ?_ | with_reducible refine g_iff (by first | assumption | omega | decide) ?_ | with_reducible refine g_ifnt (by first | assumption | omega | decide) ?_ | with_reducible refine g_ifnf (by first | assumption | omega | decide) ?_ | with_reducible exact rfl | with_reducible exact g_eqs | with_reducible exact g_nes | with_reducible exact g_neni | with_reducible exact g_nein | with_reducible exact g_nenn | with_reducible exact g_isn | with_reducible exact g_isi | with_reducible exact g_nsn | with_reducible exact g_nsi | with_reducible exact g_max | with_reducible exact g_max3 | with_reducible exact g_min | with_reducible exact g_intb | with_reducible apply g_gt2 | with_reducible apply g_gt3 | with_reducible apply g_tup | with_reducible apply g_lst | with_reducible exact lenOk rfl | with_reducible exact g_on | with_reducible apply g_os | with_reducible apply g_sl | with_reducible apply g_bkm | with_reducible exact g_okS )
      · exact ⟨_, _, rfl, k.trans (kB.trans (kC.trans (kD.trans kE)))⟩)
    (e := [some (.ref 0), some (.ref tN), some (.int many), some (.int hgt), some (.ref h1.length), some (.int beats), some (.int goal), some (.int at_), some (.ref h4.length), some (.int way), some (.tup [.ref h6.length, .ref h7.length]), some (.ref h8.length), none, none, none, none, none]) (h := h14) ⟨_, _, rfl, Kp.refl⟩ (fuel := (ctx T 12).fuel) (by have := fuT 12; omega)
  have F := fo_of (g := gN 12) (mi := iA (eOp opAdd (eLst (aC (eC (.int 0)) (aC (eV 5) aN))) (eLc [15] (gN 15) (iA (eSl opSl (eV 0) (oS (eC (.int 6))) (oS (eC (.int 36))))) tY (eOp opMod (eOp opMul (eOp opMod (eV 15) (eOp opPow (eC (.int 10)) (eC (.int 30)))) (eOp opIx (eLst (aC (eC (.int 1)) (aC (eOp opAdd (eOp opPow (eC (.int 10)) (eC (.int 15))) (eC (.int 37))) aN))) (eOp opMod (eV 15) (eC (.int 2))))) (eOp opAdd (eV 5) (eC (.int 1))))))) (C := ctx T 12)
    (e := [some (.ref 0), some (.ref tN), some (.int many), some (.int hgt), some (.ref h1.length), some (.int beats), some (.int goal), some (.int at_), some (.ref h4.length), some (.int way), some (.tup [.ref h6.length, .ref h7.length]), some (.ref h8.length), none, none, none, none, none]) (h := h9) (h1 := h14) (it := itL h13.length) (by
      have ls10 : ∀ e : Ev, e[5]? = some (some (.int beats)) → eLst (aC (eC (.int 0)) (aC (eV 5) aN)) (ctx T 12) e h9 = .ok (.ref h9.length) h10 := fun e q => by
        rw [hh10]
        exact g_lst (g_ac g_c (g_ac (g_v q) g_an)) (lenOk rfl)
      have q := g_op (op := opAdd) (ls10 [some (.ref 0), some (.ref tN), some (.int many), some (.int hgt), some (.ref h1.length), some (.int beats), some (.int goal), some (.int at_), some (.ref h4.length), some (.int way), some (.tup [.ref h6.length, .ref h7.length]), some (.ref h8.length), none, none, none, none, none] rfl) LC cat
      exact iA_ref q g14) F
  have kend : Kp h9 h15 := k9e.trans k15
  have eq := o.eqB (kend _ _ ga) (kend _ _ gb) (kend _ _ g1L) (kend _ _ gc)
  have kh2 : Kp h0 h2 := k1.trans k2
  have A2 : (sAs (gN 2) (eOp opAdd (eC (.int 1)) (eOp opMod (eCall 171 (aC (eV 0) (aC (eC (.int 1)) aN)) []) (eC (.int 8))))) (ctx T 12) [some (.ref 0), some (.ref tN), none, none, none, none, none, none, none, none, none, none, none, none, none, none, none] h1 = .ok (.nx [some (.ref 0), some (.ref tN), some (.int many), none, none, none, none, none, none, none, none, none, none, none, none, none, none]) h1 := by
    have c := c1' h1 k1
    rw [hmany]
    (repeat' first | with_reducible exact c | with_reducible exact g_v rfl | with_reducible exact g_c | with_reducible exact g_an | with_reducible exact g_add | with_reducible exact g_sub | with_reducible exact g_iadd | with_reducible exact g_lt | with_reducible exact g_le | with_reducible exact g_gt | with_reducible exact g_ge | with_reducible exact g_eq | with_reducible exact g_ne | with_reducible exact g_neg | with_reducible exact g_mul (by first | assumption | omega | decide) | with_reducible exact g_div (by first | assumption | omega | decide) (by first | assumption | omega | decide) | with_reducible exact g_mod (by first | assumption | omega | decide) | with_reducible exact g_pow (by decide) | with_reducible apply g_isint | with_reducible exact g_sk | with_reducible exact g_rn | with_reducible exact g_bk | with_reducible exact g_ct | with_reducible exact g_gn0 | with_reducible apply g_gns | with_reducible exact g_ap0 | with_reducible apply g_apS | with_reducible apply g_op | with_reducible apply g_un | with_reducible apply g_ac | with_reducible apply g_call | with_reducible apply g_calld | with_reducible apply g_bf | with_reducible apply g_sq | with_reducible apply g_kn | with_reducible exact g_kr | with_reducible exact g_kb | with_reducible exact g_kc | with_reducible apply g_as | with_reducible apply g_pr | with_reducible apply g_au rfl | with_reducible apply g_rt | with_reducible apply g_ex | with_reducible apply g_if | with_reducible apply g_tv | with_reducible apply g_tan | with_reducible apply g_tor | with_reducible apply g_tnt | with_reducible apply g_ean | with_reducible apply g_eor | with_reducible apply g_ent | with_reducible apply g_eif | with_reducible apply g_iftt | with_reducible apply g_iffn | with_reducible apply g_ifff | with_reducible apply g_iftn | with_reducible refine g_ift (by first | assumption | omega | decide) ?_ | with_reducible refine g_iff (by first | assumption | omega | decide) ?_ | with_reducible refine g_ifnt (by first | assumption | omega | decide) ?_ | with_reducible refine g_ifnf (by first | assumption | omega | decide) ?_ | with_reducible exact rfl | with_reducible exact g_eqs | with_reducible exact g_nes | with_reducible exact g_neni | with_reducible exact g_nein | with_reducible exact g_nenn | with_reducible exact g_isn | with_reducible exact g_isi | with_reducible exact g_nsn | with_reducible exact g_nsi | with_reducible exact g_max | with_reducible exact g_max3 | with_reducible exact g_min | with_reducible exact g_intb | with_reducible apply g_gt2 | with_reducible apply g_gt3 | with_reducible apply g_tup | with_reducible apply g_lst | with_reducible exact lenOk rfl | with_reducible exact g_on | with_reducible apply g_os | with_reducible apply g_sl | with_reducible apply g_bkm | with_reducible exact g_okS )
  have A3 : (sAs (gN 3) (eOp opMod (eCall 171 (aC (eV 0) (aC (eC (.int 2)) aN)) []) (eOp opPow (eC (.int 10)) (eC (.int 30))))) (ctx T 12) [some (.ref 0), some (.ref tN), some (.int many), none, none, none, none, none, none, none, none, none, none, none, none, none, none] h1 = .ok (.nx [some (.ref 0), some (.ref tN), some (.int many), some (.int hgt), none, none, none, none, none, none, none, none, none, none, none, none, none]) h1 := by
    have c := c2' h1 k1
    rw [hhgt]
    (repeat' first | with_reducible exact c | with_reducible exact g_v rfl | with_reducible exact g_c | with_reducible exact g_an | with_reducible exact g_add | with_reducible exact g_sub | with_reducible exact g_iadd | with_reducible exact g_lt | with_reducible exact g_le | with_reducible exact g_gt | with_reducible exact g_ge | with_reducible exact g_eq | with_reducible exact g_ne | with_reducible exact g_neg | with_reducible exact g_mul (by first | assumption | omega | decide) | with_reducible exact g_div (by first | assumption | omega | decide) (by first | assumption | omega | decide) | with_reducible exact g_mod (by first | assumption | omega | decide) | with_reducible exact g_pow (by decide) | with_reducible apply g_isint | with_reducible exact g_sk | with_reducible exact g_rn | with_reducible exact g_bk | with_reducible exact g_ct | with_reducible exact g_gn0 | with_reducible apply g_gns | with_reducible exact g_ap0 | with_reducible apply g_apS | with_reducible apply g_op | with_reducible apply g_un | with_reducible apply g_ac | with_reducible apply g_call | with_reducible apply g_calld | with_reducible apply g_bf | with_reducible apply g_sq | with_reducible apply g_kn | with_reducible exact g_kr | with_reducible exact g_kb | with_reducible exact g_kc | with_reducible apply g_as | with_reducible apply g_pr | with_reducible apply g_au rfl | with_reducible apply g_rt | with_reducible apply g_ex | with_reducible apply g_if | with_reducible apply g_tv | with_reducible apply g_tan | with_reducible apply g_tor | with_reducible apply g_tnt | with_reducible apply g_ean | with_reducible apply g_eor | with_reducible apply g_ent | with_reducible apply g_eif | with_reducible apply g_iftt | with_reducible apply g_iffn | with_reducible apply g_ifff | with_reducible apply g_iftn | with_reducible refine g_ift (by first | assumption | omega | decide) ?_ | with_reducible refine g_iff (by first | assumption | omega | decide) ?_ | with_reducible refine g_ifnt (by first | assumption | omega | decide) ?_ | with_reducible refine g_ifnf (by first | assumption | omega | decide) ?_ | with_reducible exact rfl | with_reducible exact g_eqs | with_reducible exact g_nes | with_reducible exact g_neni | with_reducible exact g_nein | with_reducible exact g_nenn | with_reducible exact g_isn | with_reducible exact g_isi | with_reducible exact g_nsn | with_reducible exact g_nsi | with_reducible exact g_max | with_reducible exact g_max3 | with_reducible exact g_min | with_reducible exact g_intb | with_reducible apply g_gt2 | with_reducible apply g_gt3 | with_reducible apply g_tup | with_reducible apply g_lst | with_reducible exact lenOk rfl | with_reducible exact g_on | with_reducible apply g_os | with_reducible apply g_sl | with_reducible apply g_bkm | with_reducible exact g_okS )
  have A5 : (sAs (gN 5) (eOp opAdd (eC (.int 1)) (eOp opMod (eOp opMul (eOp opMod (eCall 171 (aC (eV 0) (aC (eC (.int 3)) aN)) []) (eOp opPow (eC (.int 10)) (eC (.int 30)))) (eOp opIx (eLst (aC (eC (.int 1)) (aC (eOp opAdd (eOp opPow (eC (.int 10)) (eC (.int 16))) (eC (.int 61))) aN))) (eOp opMod (eOp opDiv (eCall 171 (aC (eV 0) (aC (eC (.int 1)) aN)) []) (eC (.int 8))) (eC (.int 2))))) (eOp opPow (eC (.int 10)) (eC (.int 18)))))) (ctx T 12)
      [some (.ref 0), some (.ref tN), some (.int many), some (.int hgt), some (.ref h1.length), none, none, none, none, none, none, none, none, none, none, none, none] h2 = .ok (.nx [some (.ref 0), some (.ref tN), some (.int many), some (.int hgt), some (.ref h1.length), some (.int beats), none, none, none, none, none, none, none, none, none, none, none]) h3 := by
    have c := c3' h2 kh2
    have c' := c1' h3 (kh2.trans k3)
    rw [hbeats]
    (repeat' first | with_reducible exact c | with_reducible exact ls3 _ | with_reducible exact c' | with_reducible exact ix3 | with_reducible exact g_v rfl | with_reducible exact g_c | with_reducible exact g_an | with_reducible exact g_add | with_reducible exact g_sub | with_reducible exact g_iadd | with_reducible exact g_lt | with_reducible exact g_le | with_reducible exact g_gt | with_reducible exact g_ge | with_reducible exact g_eq | with_reducible exact g_ne | with_reducible exact g_neg | with_reducible exact g_mul (by first | assumption | omega | decide) | with_reducible exact g_div (by first | assumption | omega | decide) (by first | assumption | omega | decide) | with_reducible exact g_mod (by first | assumption | omega | decide) | with_reducible exact g_pow (by decide) | with_reducible apply g_isint | with_reducible exact g_sk | with_reducible exact g_rn | with_reducible exact g_bk | with_reducible exact g_ct | with_reducible exact g_gn0 | with_reducible apply g_gns | with_reducible exact g_ap0 | with_reducible apply g_apS | with_reducible apply g_op | with_reducible apply g_un | with_reducible apply g_ac | with_reducible apply g_call | with_reducible apply g_calld | with_reducible apply g_bf | with_reducible apply g_sq | with_reducible apply g_kn | with_reducible exact g_kr | with_reducible exact g_kb | with_reducible exact g_kc | with_reducible apply g_as | with_reducible apply g_pr | with_reducible apply g_au rfl | with_reducible apply g_rt | with_reducible apply g_ex | with_reducible apply g_if | with_reducible apply g_tv | with_reducible apply g_tan | with_reducible apply g_tor | with_reducible apply g_tnt | with_reducible apply g_ean | with_reducible apply g_eor | with_reducible apply g_ent | with_reducible apply g_eif | with_reducible apply g_iftt | with_reducible apply g_iffn | with_reducible apply g_ifff | with_reducible apply g_iftn | with_reducible refine g_ift (by first | assumption | omega | decide) ?_ | with_reducible refine g_iff (by first | assumption | omega | decide) ?_ | with_reducible refine g_ifnt (by first | assumption | omega | decide) ?_ | with_reducible refine g_ifnf (by first | assumption | omega | decide) ?_ | with_reducible exact rfl | with_reducible exact g_eqs | with_reducible exact g_nes | with_reducible exact g_neni | with_reducible exact g_nein | with_reducible exact g_nenn | with_reducible exact g_isn | with_reducible exact g_isi | with_reducible exact g_nsn | with_reducible exact g_nsi | with_reducible exact g_max | with_reducible exact g_max3 | with_reducible exact g_min | with_reducible exact g_intb | with_reducible apply g_gt2 | with_reducible apply g_gt3 | with_reducible apply g_tup | with_reducible apply g_lst | with_reducible exact lenOk rfl | with_reducible exact g_on | with_reducible apply g_os | with_reducible apply g_sl | with_reducible apply g_bkm | with_reducible exact g_okS )
  have A6 : (sAs (gN 6) (eOp opMod (eOp opMul (eOp opMod (eCall 171 (aC (eV 0) (aC (eC (.int 4)) aN)) []) (eOp opPow (eC (.int 10)) (eC (.int 30)))) (eOp opIx (eLst (aC (eC (.int 1)) (aC (eOp opAdd (eOp opPow (eC (.int 10)) (eC (.int 17))) (eC (.int 3))) aN))) (eOp opMod (eOp opDiv (eCall 171 (aC (eV 0) (aC (eC (.int 1)) aN)) []) (eC (.int 16))) (eC (.int 2))))) (eOp opAdd (eOp opPow (eC (.int 10)) (eC (.int 18))) (eC (.int 1))))) (ctx T 12)
      [some (.ref 0), some (.ref tN), some (.int many), some (.int hgt), some (.ref h1.length), some (.int beats), none, none, none, none, none, none, none, none, none, none, none] h3 = .ok (.nx [some (.ref 0), some (.ref tN), some (.int many), some (.int hgt), some (.ref h1.length), some (.int beats), some (.int goal), none, none, none, none, none, none, none, none, none, none]) h4 := by
    have c := c4' h3 (kh2.trans k3)
    have c' := c1' h4 (kh2.trans (k3.trans k4))
    rw [hgoal]
    (repeat' first | with_reducible exact c | with_reducible exact ls4 _ | with_reducible exact c' | with_reducible exact ix4 | with_reducible exact g_v rfl | with_reducible exact g_c | with_reducible exact g_an | with_reducible exact g_add | with_reducible exact g_sub | with_reducible exact g_iadd | with_reducible exact g_lt | with_reducible exact g_le | with_reducible exact g_gt | with_reducible exact g_ge | with_reducible exact g_eq | with_reducible exact g_ne | with_reducible exact g_neg | with_reducible exact g_mul (by first | assumption | omega | decide) | with_reducible exact g_div (by first | assumption | omega | decide) (by first | assumption | omega | decide) | with_reducible exact g_mod (by first | assumption | omega | decide) | with_reducible exact g_pow (by decide) | with_reducible apply g_isint | with_reducible exact g_sk | with_reducible exact g_rn | with_reducible exact g_bk | with_reducible exact g_ct | with_reducible exact g_gn0 | with_reducible apply g_gns | with_reducible exact g_ap0 | with_reducible apply g_apS | with_reducible apply g_op | with_reducible apply g_un | with_reducible apply g_ac | with_reducible apply g_call | with_reducible apply g_calld | with_reducible apply g_bf | with_reducible apply g_sq | with_reducible apply g_kn | with_reducible exact g_kr | with_reducible exact g_kb | with_reducible exact g_kc | with_reducible apply g_as | with_reducible apply g_pr | with_reducible apply g_au rfl | with_reducible apply g_rt | with_reducible apply g_ex | with_reducible apply g_if | with_reducible apply g_tv | with_reducible apply g_tan | with_reducible apply g_tor | with_reducible apply g_tnt | with_reducible apply g_ean | with_reducible apply g_eor | with_reducible apply g_ent | with_reducible apply g_eif | with_reducible apply g_iftt | with_reducible apply g_iffn | with_reducible apply g_ifff | with_reducible apply g_iftn | with_reducible refine g_ift (by first | assumption | omega | decide) ?_ | with_reducible refine g_iff (by first | assumption | omega | decide) ?_ | with_reducible refine g_ifnt (by first | assumption | omega | decide) ?_ | with_reducible refine g_ifnf (by first | assumption | omega | decide) ?_ | with_reducible exact rfl | with_reducible exact g_eqs | with_reducible exact g_nes | with_reducible exact g_neni | with_reducible exact g_nein | with_reducible exact g_nenn | with_reducible exact g_isn | with_reducible exact g_isi | with_reducible exact g_nsn | with_reducible exact g_nsi | with_reducible exact g_max | with_reducible exact g_max3 | with_reducible exact g_min | with_reducible exact g_intb | with_reducible apply g_gt2 | with_reducible apply g_gt3 | with_reducible apply g_tup | with_reducible apply g_lst | with_reducible exact lenOk rfl | with_reducible exact g_on | with_reducible apply g_os | with_reducible apply g_sl | with_reducible apply g_bkm | with_reducible exact g_okS )
  have c54 := c5' h4 (kh2.trans (k3.trans k4))
  have c56 := c5' h6 (kh2.trans (k3.trans (k4.trans (k5.trans k6))))
  refine ⟨h15, ?_⟩
  refine run_rt rfl (by simp only [List.map_cons, List.map_nil, List.length_cons, List.length_nil, List.cons_append, List.nil_append, Nat.reduceAdd, Nat.reduceSub, List.replicate_succ, List.replicate_zero]; exact rfl) ?_
  (repeat' first | with_reducible exact cc0 | with_reducible exact cN | with_reducible exact A2 | with_reducible exact A3 | with_reducible exact LL | with_reducible exact A5 | with_reducible exact A6 | with_reducible exact c54 | with_reducible exact mat | with_reducible exact ls5 _ rfl rfl rfl rfl | with_reducible exact ls6 _ | with_reducible exact c56 | with_reducible exact ix6 | with_reducible exact b7 | with_reducible exact ls8 _ rfl rfl rfl rfl | with_reducible exact bk1 | with_reducible exact b9 | with_reducible exact F | with_reducible exact eq | with_reducible exact g_v rfl | with_reducible exact g_c | with_reducible exact g_an | with_reducible exact g_add | with_reducible exact g_sub | with_reducible exact g_iadd | with_reducible exact g_lt | with_reducible exact g_le | with_reducible exact g_gt | with_reducible exact g_ge | with_reducible exact g_eq | with_reducible exact g_ne | with_reducible exact g_neg | with_reducible exact g_mul (by first | assumption | omega | decide) | with_reducible exact g_div (by first | assumption | omega | decide) (by first | assumption | omega | decide) | with_reducible exact g_mod (by first | assumption | omega | decide) | with_reducible exact g_pow (by decide) | with_reducible apply g_isint | with_reducible exact g_sk | with_reducible exact g_rn | with_reducible exact g_bk | with_reducible exact g_ct | with_reducible exact g_gn0 | with_reducible apply g_gns | with_reducible exact g_ap0 | with_reducible apply g_apS | with_reducible apply g_op | with_reducible apply g_un | with_reducible apply g_ac | with_reducible apply g_call | with_reducible apply g_calld | with_reducible apply g_bf | with_reducible apply g_sq | with_reducible apply g_kn | with_reducible exact g_kr | with_reducible exact g_kb | with_reducible exact g_kc | with_reducible apply g_as | with_reducible apply g_pr | with_reducible apply g_au rfl | with_reducible apply g_rt | with_reducible apply g_ex | with_reducible apply g_if | with_reducible apply g_tv | with_reducible apply g_tan | with_reducible apply g_tor | with_reducible apply g_tnt | with_reducible apply g_ean | with_reducible apply g_eor | with_reducible apply g_ent | with_reducible apply g_eif | with_reducible apply g_iftt | with_reducible apply g_iffn | with_reducible apply g_ifff | with_reducible apply g_iftn | with_reducible refine g_ift (by first | assumption | omega | decide) ?_ | with_reducible refine g_iff (by first | assumption | omega | decide) ?_ | with_reducible refine g_ifnt (by first | assumption | omega | decide) ?_ | with_reducible refine g_ifnf (by first | assumption | omega | decide) ?_ | with_reducible exact rfl | with_reducible exact g_eqs | with_reducible exact g_nes | with_reducible exact g_neni | with_reducible exact g_nein | with_reducible exact g_nenn | with_reducible exact g_isn | with_reducible exact g_isi | with_reducible exact g_nsn | with_reducible exact g_nsi | with_reducible exact g_max | with_reducible exact g_max3 | with_reducible exact g_min | with_reducible exact g_intb | with_reducible apply g_gt2 | with_reducible apply g_gt3 | with_reducible apply g_tup | with_reducible apply g_lst | with_reducible exact lenOk rfl | with_reducible exact g_on | with_reducible apply g_os | with_reducible apply g_sl | with_reducible apply g_bkm | with_reducible exact g_okS )
end Z.k16
/-! The walk and the end, printed by gen.py. -/
namespace Z.k16
open PySem L2 Z PyProof.Rows
abbrev top (i : Nat) : Stmt := PySem.Challenge.pw_camplay_k16_one_part_far.main.body.getD i (.Pass ⟨0, 0, 0, 0⟩)
abbrev s_numbers_of : Stmt := top 8
abbrev s_named : Stmt := top 9
abbrev s_moved : Stmt := top 10
abbrev s_length_of : Stmt := top 11
abbrev s_look_at_side : Stmt := top 12
abbrev s_lengths : Stmt := top 13
abbrev s_ends : Stmt := top 14
abbrev s_ramp : Stmt := top 16
abbrev s_stand : Stmt := top 19
abbrev s_rings : Stmt := top 20
abbrev s_l_cell : Stmt := top 22
abbrev s_l_names : Stmt := top 23
abbrev s_l_alike : Stmt := top 24
abbrev s_law : Stmt := top 25
abbrev s_m_Guide_init : Stmt := inClass (top 18) 0
abbrev s_m_Guide_look_at : Stmt := inClass (top 18) 1
abbrev s_m_Guide_leave : Stmt := inClass (top 18) 2
abbrev s_m_Guide_put : Stmt := inClass (top 18) 3
abbrev s_m_Guide_put_beside : Stmt := inClass (top 18) 4
abbrev s_m_Guide_put_in_row : Stmt := inClass (top 18) 5
abbrev s_m_Guide_words : Stmt := inClass (top 18) 6
structure Txt (K : PySem.W.Frag) (mg : Str → Option Value) (κ : Nat → Addr) : Prop where
  f_Guide_forms : FldOk K κ [1] "forms"
  f_Guide_numbers : FldOk K κ [1] "numbers"
  f_Guide_limbs : FldOk K κ [1] "limbs"
  f_Guide_lengths : FldOk K κ [1] "lengths"
  f_Guide_ends : FldOk K κ [1] "ends"
  b_bool : mg "bool" = none
  b_divmod : mg "divmod" = none
  b_enumerate : mg "enumerate" = none
  b_int : mg "int" = none
  b_isinstance : mg "isinstance" = none
  b_len : mg "len" = none
  b_list : mg "list" = none
  b_max : mg "max" = none
  b_range : mg "range" = none
  b_set : mg "set" = none
  b_sorted : mg "sorted" = none
  b_str : mg "str" = none
  b_sum : mg "sum" = none
  b_zip : mg "zip" = none
  c_LONGEST : ∃ t, mg "LONGEST" = some (.int 1000000000000000000000000000000000000000000000000000000000000 t)
  tru : True
structure Funs (K : PySem.W.Frag) (mg : Str → Option Value) (κ : Nat → Addr) : Prop where
  t_Guide___init__ : MetM K κ 1 "__init__" "Guide.__init__" s_m_Guide_init ["self", "book"]
  t_Guide_look_at : MetM K κ 1 "look_at" "Guide.look_at" s_m_Guide_look_at ["self", "beat"]
  t_Guide_leave : MetM K κ 1 "leave" "Guide.leave" s_m_Guide_leave ["self", "number", "heights"]
  t_Guide_put : MetM K κ 1 "put" "Guide.put" s_m_Guide_put ["self", "number", "beat", "heights"]
  t_Guide_put_beside : MetM K κ 1 "put_beside" "Guide.put_beside" s_m_Guide_put_beside ["self", "number", "beat", "heights"]
  t_Guide_put_in_row : MetM K κ 1 "put_in_row" "Guide.put_in_row" s_m_Guide_put_in_row ["self", "numbers", "beat", "heights"]
  t_Guide_words : MetM K κ 1 "words" "Guide.words" s_m_Guide_words ["self", "number", "beat"]
  j_Guide : MakM K mg κ 1 "Guide" "Guide.__init__" s_m_Guide_init ["self", "book"]
  m_numbers_of : FunM K mg "numbers_of" s_numbers_of ["rows"] []
  m_named : FunM K mg "named" s_named ["form", "numbers"] []
  m_moved : FunM K mg "moved" s_moved ["book"] []
  m_length_of : FunM K mg "length_of" s_length_of ["form", "below"] []
  m_look_at_side : FunM K mg "look_at_side" s_look_at_side ["book", "number", "limbs"] []
  m_lengths : FunM K mg "lengths" s_lengths ["book"] []
  m_ends : FunM K mg "ends" s_ends ["book"] []
  m_ramp : FunM K mg "ramp" s_ramp ["start", "goal", "beats", "j"] []
  m_stand : FunM K mg "stand" s_stand ["book", "beat"] []
  m_rings : FunM K mg "rings" s_rings ["book", "beat"] []
  m__law_cell : FunM K mg "_law_cell" s_l_cell ["script", "k"] []
  m__law_names : FunM K mg "_law_names" s_l_names ["cell", "many"] []
  m__law_alike : FunM K mg "_law_alike" s_l_alike ["found", "due"] []
  tru : True
structure All (P : Program) (w : World) (K : PySem.W.Frag) (mg : Str → Option Value) (base : Heap) (κ : Nat → Addr) (n : Nat) : Prop where
  a_numbers_of : FnF P w K mg base κ n "numbers_of" [] ((ctx T n).call 61)
  a_named : FnF P w K mg base κ n "named" [] ((ctx T n).call 62)
  a_moved : FnF P w K mg base κ n "moved" [] ((ctx T n).call 63)
  a_length_of : FnF P w K mg base κ n "length_of" [] ((ctx T n).call 70)
  a_look_at_side : FnF P w K mg base κ n "look_at_side" [] ((ctx T n).call 71)
  a_lengths : FnF P w K mg base κ n "lengths" [] ((ctx T n).call 72)
  a_ends : FnF P w K mg base κ n "ends" [] ((ctx T n).call 76)
  a_ramp : FnF P w K mg base κ n "ramp" [] ((ctx T n).call 8)
  a_stand : FnF P w K mg base κ n "stand" [] ((ctx T n).call 87)
  a_rings : FnF P w K mg base κ n "rings" [] ((ctx T n).call 170)
  a__law_cell : FnF P w K mg base κ n "_law_cell" [] ((ctx T n).call 171)
  a__law_names : FnF P w K mg base κ n "_law_names" [] ((ctx T n).call 172)
  a__law_alike : FnF P w K mg base κ n "_law_alike" [] ((ctx T n).call 173)
  m_Guide_look_at : ∀ c ∈ ([1] : List Nat), MeF P w K mg base κ n c "look_at" ((ctx T n).meth c 1)
  m_Guide_leave : ∀ c ∈ ([1] : List Nat), MeF P w K mg base κ n c "leave" ((ctx T n).meth c 2)
  m_Guide_put : ∀ c ∈ ([1] : List Nat), MeF P w K mg base κ n c "put" ((ctx T n).meth c 3)
  m_Guide_words : ∀ c ∈ ([1] : List Nat), MeF P w K mg base κ n c "words" ((ctx T n).meth c 4)
  m_Guide_put_beside : ∀ c ∈ ([1] : List Nat), MeF P w K mg base κ n c "put_beside" ((ctx T n).meth c 5)
  m_Guide_put_in_row : ∀ c ∈ ([1] : List Nat), MeF P w K mg base κ n c "put_in_row" ((ctx T n).meth c 6)
  i_Guide : MkF P w K mg base κ n 1 "Guide" ((ctx T n).meth 1 0)
  k_Guide : MkA P w K mg base κ T n 1 "Guide"
  tru : True
section
variable {P : Program} {w : World} {K : PySem.W.Frag} {mg : Str → Option Value} {base : Heap} {κ : Nat → Addr} {n : Nat}
abbrev NN_m_Guide_init : List Str := ["self", "book", "number", "part", "limb", "name", "form"]
theorem sc_m_Guide_init : FnScope NN_m_Guide_init ["self", "book"] (defScope s_m_Guide_init) := ⟨rfl, rfl, rfl, by decide +kernel, rfl, by decide +kernel, by decide +kernel⟩
theorem w_m_Guide_init {fa : Addr} {fd : FuncData} (TX : Txt K mg κ) (A : All P w K mg base κ n) (F : FunZ K "__init__" "Guide.__init__" s_m_Guide_init [] fa fd) : FnOk P w K mg base CX0 (n + 1) fa fd ["self", "book"] (spD K κ (List.length (["self", "book"] : List Str)) (runFn (ctx T n) f_m_Guide_init)) := by
  refine fnOk_of F sc_m_Guide_init rfl rfl fun cdv Ar outer s H E hr => ?_
  exact
    (ss_cons (ss_fl TX.f_Guide_forms (se_v 0) (se_lct rfl sc_m_Guide_init.nd (si_a (se_ix (hu_of hr) (se_v 1) se_int)) (blkOk_by (N := NN_m_Guide_init) (sc := defScope s_m_Guide_init) (own := [(("name" : Str), 5), (("form" : Str), 6)]) (by decide +kernel)) (fun _ _ _ _ _ => (sgs_cons (i := 5) sc_m_Guide_init.nd (sgs_cons (i := 6) sc_m_Guide_init.nd sgs_nil))) (fun _ _ _ _ _ => sts_nil) (fun _ _ _ _ _ => (se_v 6))))
    (ss_cons (ss_fl TX.f_Guide_numbers (se_v 0) se_diK)
    (ss_cons (ss_fo rfl (si_en TX.b_enumerate (se_ix (hu_of hr) (se_v 1) se_int)) (sg_t rfl (sgs_cons (i := 2) sc_m_Guide_init.nd (sgs_cons (i := 3) sc_m_Guide_init.nd sgs_nil))) (ss_one (ss_st (hu_of hr) (se_fld TX.f_Guide_numbers (se_v 0)) (se_ix (hu_of hr) (se_v 3) se_int) (se_v 2))))
    (ss_cons (ss_fl TX.f_Guide_limbs (se_v 0) se_diK)
    (ss_cons (ss_fo rfl (si_en TX.b_enumerate (se_ix (hu_of hr) (se_v 1) se_int)) (sg_t rfl (sgs_cons (i := 2) sc_m_Guide_init.nd (sgs_cons (i := 4) sc_m_Guide_init.nd sgs_nil))) (ss_one (ss_st (hu_of hr) (se_fld TX.f_Guide_limbs (se_v 0)) (se_ix (hu_of hr) (se_v 4) se_int) (se_v 2))))
    (ss_cons (ss_fl TX.f_Guide_lengths (se_v 0) (se_call A.a_lengths hr (sa_cons (se_v 1) sa_nil)))
    (ss_one (ss_fl TX.f_Guide_ends (se_v 0) (se_call A.a_ends hr (sa_cons (se_v 1) sa_nil))))))))))
abbrev NN_m_Guide_look_at : List Str := ["self", "beat"]
theorem sc_m_Guide_look_at : FnScope NN_m_Guide_look_at ["self", "beat"] (defScope s_m_Guide_look_at) := ⟨rfl, rfl, rfl, by decide +kernel, rfl, by decide +kernel, by decide +kernel⟩
theorem w_m_Guide_look_at {fa : Addr} {fd : FuncData} (TX : Txt K mg κ) (A : All P w K mg base κ n) (F : FunZ K "look_at" "Guide.look_at" s_m_Guide_look_at [] fa fd) : FnOk P w K mg base CX0 (n + 1) fa fd ["self", "beat"] (spD K κ (List.length (["self", "beat"] : List Str)) (runFn (ctx T n) f_m_Guide_look_at)) := by
  refine fnOk_of F sc_m_Guide_look_at rfl rfl fun cdv Ar outer s H E hr => ?_
  exact
    (ss_cons (ss_if (st_w (sw_or (st_cmp od_lt (se_v 1) se_int (nomark _)) (sw_or1 (st_cmp od_gt (se_v 1) (se_ix (hu_of hr) (se_fld TX.f_Guide_lengths (se_v 0)) (se_un od_neg se_int)) (nomark _))))) (ss_one ss_no) ss_nil)
    (ss_one (ss_rt (se_cmp (od_eq hr.units) (se_v 1) (se_ix (hu_of hr) (se_fld TX.f_Guide_lengths (se_v 0)) (se_un od_neg se_int)) (nomark _)))))
abbrev NN_m_Guide_leave : List Str := ["self", "number", "heights", "limb", "height"]
theorem sc_m_Guide_leave : FnScope NN_m_Guide_leave ["self", "number", "heights"] (defScope s_m_Guide_leave) := ⟨rfl, rfl, rfl, by decide +kernel, rfl, by decide +kernel, by decide +kernel⟩
theorem w_m_Guide_leave {fa : Addr} {fd : FuncData} (TX : Txt K mg κ) (A : All P w K mg base κ n) (F : FunZ K "leave" "Guide.leave" s_m_Guide_leave [] fa fd) : FnOk P w K mg base CX0 (n + 1) fa fd ["self", "number", "heights"] (spD K κ (List.length (["self", "number", "heights"] : List Str)) (runFn (ctx T n) f_m_Guide_leave)) := by
  refine fnOk_of F sc_m_Guide_leave rfl rfl fun cdv Ar outer s H E hr => ?_
  exact
    (ss_one (ss_fo rfl (si_a (se_ix (hu_of hr) (se_fld TX.f_Guide_ends (se_v 0)) (se_v 1))) (sg_t rfl (sgs_cons (i := 3) sc_m_Guide_leave.nd (sgs_cons (i := 4) sc_m_Guide_leave.nd sgs_nil))) (ss_one (ss_st (hu_of hr) (se_v 2) (se_v 3) (se_v 4)))))
abbrev NN_m_Guide_put : List Str := ["self", "number", "beat", "heights", "form", "limb", "name", "inner", "turn", "rest"]
theorem sc_m_Guide_put : FnScope NN_m_Guide_put ["self", "number", "beat", "heights"] (defScope s_m_Guide_put) := ⟨rfl, rfl, rfl, by decide +kernel, rfl, by decide +kernel, by decide +kernel⟩
theorem w_m_Guide_put {fa : Addr} {fd : FuncData} (TX : Txt K mg κ) (A : All P w K mg base κ n) (F : FunZ K "put" "Guide.put" s_m_Guide_put [] fa fd) : FnOk P w K mg base CX0 (n + 1) fa fd ["self", "number", "beat", "heights"] (spD K κ (List.length (["self", "number", "beat", "heights"] : List Str)) (runFn (ctx T n) f_m_Guide_put)) := by
  refine fnOk_of F sc_m_Guide_put rfl rfl fun cdv Ar outer s H E hr => ?_
  exact
    (ss_cons (ss_as (i := 4) sc_m_Guide_put.nd (se_ix (hu_of hr) (se_fld TX.f_Guide_forms (se_v 0)) (se_v 1)))
    (ss_one (ss_if (st_cmp (od_eq hr.units) (se_ix (hu_of hr) (se_v 4) se_int) se_str (nomark _)) (ss_cons (ss_as (i := 5) sc_m_Guide_put.nd (se_ix (hu_of hr) (se_fld TX.f_Guide_limbs (se_v 0)) (se_ix (hu_of hr) (se_v 4) se_int)))
    (ss_one (ss_st (hu_of hr) (se_v 3) (se_v 5) (se_call A.a_ramp hr (sa_cons (se_ix (hu_of hr) (se_v 3) (se_v 5)) (sa_cons (se_ix (hu_of hr) (se_v 4) se_int) (sa_cons (se_ix (hu_of hr) (se_v 4) se_int) (sa_cons (se_v 2) sa_nil)))))))) (ss_one (ss_if (st_cmp (od_eq hr.units) (se_ix (hu_of hr) (se_v 4) se_int) se_str (nomark _)) (ss_one (ss_fo rfl (si_a (se_ix (hu_of hr) (se_v 4) se_int)) (sg_n (i := 6) sc_m_Guide_put.nd) (ss_one (ss_ex (se_meth A.m_Guide_put_beside hr (se_v 0) (sa_cons (se_ix (hu_of hr) (se_fld TX.f_Guide_numbers (se_v 0)) (se_v 6)) (sa_cons (se_v 2) (sa_cons (se_v 3) sa_nil)))))))) (ss_one (ss_if (st_cmp (od_eq hr.units) (se_ix (hu_of hr) (se_v 4) se_int) se_str (nomark _)) (ss_one (ss_ex (se_meth A.m_Guide_put_in_row hr (se_v 0) (sa_cons (se_lc rfl sc_m_Guide_put.nd (si_a (se_ix (hu_of hr) (se_v 4) se_int)) (blkOk_by (N := NN_m_Guide_put) (sc := defScope s_m_Guide_put) (own := [(("name" : Str), 6)]) (by decide +kernel)) (fun _ _ _ _ _ => pg_name (i := 6) sc_m_Guide_put.nd rfl (by first | exact Or.inl rfl | exact Or.inr rfl)) (fun _ _ _ _ _ => sts_nil) (fun _ _ _ _ _ => (se_ix (hu_of hr) (se_fld TX.f_Guide_numbers (se_v 0)) (se_v 6)))) (sa_cons (se_v 2) (sa_cons (se_v 3) sa_nil)))))) (ss_one (ss_if (st_cmp (od_eq hr.units) (se_ix (hu_of hr) (se_v 4) se_int) se_str (nomark _)) (ss_cons (ss_as (i := 7) sc_m_Guide_put.nd (se_ix (hu_of hr) (se_fld TX.f_Guide_numbers (se_v 0)) (se_ix (hu_of hr) (se_v 4) se_int)))
    (ss_cons (ss_at (sg_t rfl (sgs_cons (i := 8) sc_m_Guide_put.nd (sgs_cons (i := 9) sc_m_Guide_put.nd sgs_nil))) (se_bf cd_dvm TX.b_divmod boot_divmod_ (sa_cons (se_v 2) (sa_cons (se_ix (hu_of hr) (se_fld TX.f_Guide_lengths (se_v 0)) (se_v 7)) sa_nil))))
    (ss_cons (ss_if (st_cmp od_gt (se_v 8) se_int (nomark _)) (ss_one (ss_ex (se_meth A.m_Guide_leave hr (se_v 0) (sa_cons (se_v 7) (sa_cons (se_v 3) sa_nil))))) ss_nil)
    (ss_one (ss_ex (se_meth A.m_Guide_put hr (se_v 0) (sa_cons (se_v 7) (sa_cons (se_v 9) (sa_cons (se_v 3) sa_nil))))))))) ss_nil)))))))))
abbrev NN_m_Guide_put_beside : List Str := ["self", "number", "beat", "heights"]
theorem sc_m_Guide_put_beside : FnScope NN_m_Guide_put_beside ["self", "number", "beat", "heights"] (defScope s_m_Guide_put_beside) := ⟨rfl, rfl, rfl, by decide +kernel, rfl, by decide +kernel, by decide +kernel⟩
theorem w_m_Guide_put_beside {fa : Addr} {fd : FuncData} (TX : Txt K mg κ) (A : All P w K mg base κ n) (F : FunZ K "put_beside" "Guide.put_beside" s_m_Guide_put_beside [] fa fd) : FnOk P w K mg base CX0 (n + 1) fa fd ["self", "number", "beat", "heights"] (spD K κ (List.length (["self", "number", "beat", "heights"] : List Str)) (runFn (ctx T n) f_m_Guide_put_beside)) := by
  refine fnOk_of F sc_m_Guide_put_beside rfl rfl fun cdv Ar outer s H E hr => ?_
  exact
    (ss_one (ss_if (st_cmp od_lt (se_v 2) (se_ix (hu_of hr) (se_fld TX.f_Guide_lengths (se_v 0)) (se_v 1)) (nomark _)) (ss_one (ss_ex (se_meth A.m_Guide_put hr (se_v 0) (sa_cons (se_v 1) (sa_cons (se_v 2) (sa_cons (se_v 3) sa_nil)))))) (ss_one (ss_ex (se_meth A.m_Guide_leave hr (se_v 0) (sa_cons (se_v 1) (sa_cons (se_v 3) sa_nil)))))))
abbrev NN_m_Guide_put_in_row : List Str := ["self", "numbers", "beat", "heights", "number"]
theorem sc_m_Guide_put_in_row : FnScope NN_m_Guide_put_in_row ["self", "numbers", "beat", "heights"] (defScope s_m_Guide_put_in_row) := ⟨rfl, rfl, rfl, by decide +kernel, rfl, by decide +kernel, by decide +kernel⟩
theorem w_m_Guide_put_in_row {fa : Addr} {fd : FuncData} (TX : Txt K mg κ) (A : All P w K mg base κ n) (F : FunZ K "put_in_row" "Guide.put_in_row" s_m_Guide_put_in_row [] fa fd) : FnOk P w K mg base CX0 (n + 1) fa fd ["self", "numbers", "beat", "heights"] (spD K κ (List.length (["self", "numbers", "beat", "heights"] : List Str)) (runFn (ctx T n) f_m_Guide_put_in_row)) := by
  refine fnOk_of F sc_m_Guide_put_in_row rfl rfl fun cdv Ar outer s H E hr => ?_
  exact
    (ss_one (ss_fo rfl (si_a (se_v 1)) (sg_n (i := 4) sc_m_Guide_put_in_row.nd) (ss_cons (ss_if (st_cmp od_lt (se_v 2) (se_ix (hu_of hr) (se_fld TX.f_Guide_lengths (se_v 0)) (se_v 4)) (nomark _)) (ss_cons (ss_ex (se_meth A.m_Guide_put hr (se_v 0) (sa_cons (se_v 4) (sa_cons (se_v 2) (sa_cons (se_v 3) sa_nil)))))
    (ss_one ss_rn)) ss_nil)
    (ss_cons (ss_as (i := 2) sc_m_Guide_put_in_row.nd (se_op od_sub (se_v 2) (se_ix (hu_of hr) (se_fld TX.f_Guide_lengths (se_v 0)) (se_v 4))))
    (ss_one (ss_ex (se_meth A.m_Guide_leave hr (se_v 0) (sa_cons (se_v 4) (sa_cons (se_v 3) sa_nil)))))))))
abbrev NN_m_Guide_words : List Str := ["self", "number", "beat", "form", "inner", "found", "name"]
theorem sc_m_Guide_words : FnScope NN_m_Guide_words ["self", "number", "beat"] (defScope s_m_Guide_words) := ⟨rfl, rfl, rfl, by decide +kernel, rfl, by decide +kernel, by decide +kernel⟩
theorem w_m_Guide_words {fa : Addr} {fd : FuncData} (TX : Txt K mg κ) (A : All P w K mg base κ n) (F : FunZ K "words" "Guide.words" s_m_Guide_words [] fa fd) : FnOk P w K mg base CX0 (n + 1) fa fd ["self", "number", "beat"] (spD K κ (List.length (["self", "number", "beat"] : List Str)) (runFn (ctx T n) f_m_Guide_words)) := by
  refine fnOk_of F sc_m_Guide_words rfl rfl fun cdv Ar outer s H E hr => ?_
  exact
    (ss_cons (ss_as (i := 3) sc_m_Guide_words.nd (se_ix (hu_of hr) (se_fld TX.f_Guide_forms (se_v 0)) (se_v 1)))
    (ss_cons (ss_if (st_w (sw_or (st_cmp od_ge (se_v 2) (se_ix (hu_of hr) (se_fld TX.f_Guide_lengths (se_v 0)) (se_v 1)) (nomark _)) (sw_or (st_cmp (od_eq hr.units) (se_ix (hu_of hr) (se_v 3) se_int) se_str (nomark _)) (sw_or1 (st_cmp (od_eq hr.units) (se_ix (hu_of hr) (se_v 3) se_int) se_str (nomark _)))))) (ss_one (ss_rt (se_lst sa_nil))) ss_nil)
    (ss_cons (ss_if (st_cmp (od_eq hr.units) (se_ix (hu_of hr) (se_v 3) se_int) se_str (nomark _)) (ss_one (ss_rt (se_if (st_cmp (od_eq hr.units) (se_v 2) se_int (nomark _)) (se_lst (sa_cons (se_ix (hu_of hr) (se_v 3) se_int) sa_nil)) (se_lst sa_nil)))) ss_nil)
    (ss_cons (ss_if (st_cmp (od_eq hr.units) (se_ix (hu_of hr) (se_v 3) se_int) se_str (nomark _)) (ss_cons (ss_as (i := 4) sc_m_Guide_words.nd (se_ix (hu_of hr) (se_fld TX.f_Guide_numbers (se_v 0)) (se_ix (hu_of hr) (se_v 3) se_int)))
    (ss_one (ss_rt (se_meth A.m_Guide_words hr (se_v 0) (sa_cons (se_v 4) (sa_cons (se_op od_mod (se_v 2) (se_ix (hu_of hr) (se_fld TX.f_Guide_lengths (se_v 0)) (se_v 4))) sa_nil)))))) ss_nil)
    (ss_cons (ss_as (i := 5) sc_m_Guide_words.nd (se_lst sa_nil))
    (ss_cons (ss_fo rfl (si_a (se_ix (hu_of hr) (se_v 3) se_int)) (sg_n (i := 6) sc_m_Guide_words.nd) (ss_cons (ss_as (i := 4) sc_m_Guide_words.nd (se_ix (hu_of hr) (se_fld TX.f_Guide_numbers (se_v 0)) (se_v 6)))
    (ss_cons (ss_if (st_cmp od_ge (se_v 2) se_int (nomark _)) (ss_one (ss_ex (se_bk PySem.F.plainAttrs_list PySem.F.slot_list_extend PySem.F.type_list_extend mt_extend okL_ok md_extend (se_v 5) (sa_cons (se_meth A.m_Guide_words hr (se_v 0) (sa_cons (se_v 4) (sa_cons (se_v 2) sa_nil))) sa_nil)))) ss_nil)
    (ss_one (ss_if (st_cmp (od_eq hr.units) (se_ix (hu_of hr) (se_v 3) se_int) se_str (nomark _)) (ss_one (ss_as (i := 2) sc_m_Guide_words.nd (se_op od_sub (se_v 2) (se_ix (hu_of hr) (se_fld TX.f_Guide_lengths (se_v 0)) (se_v 4))))) ss_nil)))))
    (ss_one (ss_rt (se_v 5)))))))))
abbrev NN_numbers_of : List Str := ["rows", "numbers", "number", "row"]
theorem sc_numbers_of : FnScope NN_numbers_of ["rows"] (defScope s_numbers_of) := ⟨rfl, rfl, rfl, by decide +kernel, rfl, by decide +kernel, by decide +kernel⟩
theorem w_numbers_of {fa : Addr} {fd : FuncData} (TX : Txt K mg κ) (A : All P w K mg base κ n) (F : FunZ K "numbers_of" "numbers_of" s_numbers_of [] fa fd) : FnOk P w K mg base CX0 (n + 1) fa fd ["rows"] (spD K κ (List.length (["rows"] : List Str)) (runFn (ctx T n) f_numbers_of)) := by
  refine fnOk_of F sc_numbers_of rfl rfl fun cdv Ar outer s H E hr => ?_
  exact
    (ss_cons (ss_as (i := 1) sc_numbers_of.nd se_diK)
    (ss_cons (ss_fo rfl (si_en TX.b_enumerate (se_v 0)) (sg_t rfl (sgs_cons (i := 2) sc_numbers_of.nd (sgs_cons (i := 3) sc_numbers_of.nd sgs_nil))) (ss_one (ss_st (hu_of hr) (se_v 1) (se_ix (hu_of hr) (se_v 3) se_int) (se_v 2))))
    (ss_one (ss_rt (se_v 1)))))
abbrev NN_named : List Str := ["form", "numbers", "name"]
theorem sc_named : FnScope NN_named ["form", "numbers"] (defScope s_named) := ⟨rfl, rfl, rfl, by decide +kernel, rfl, by decide +kernel, by decide +kernel⟩
theorem w_named {fa : Addr} {fd : FuncData} (TX : Txt K mg κ) (A : All P w K mg base κ n) (F : FunZ K "named" "named" s_named [] fa fd) : FnOk P w K mg base CX0 (n + 1) fa fd ["form", "numbers"] (spD K κ (List.length (["form", "numbers"] : List Str)) (runFn (ctx T n) f_named)) := by
  refine fnOk_of F sc_named rfl rfl fun cdv Ar outer s H E hr => ?_
  exact
    (ss_cons (ss_if (st_w (sw_or (st_cmp (od_eq hr.units) (se_ix (hu_of hr) (se_v 0) se_int) se_str (nomark _)) (sw_or1 (st_cmp (od_eq hr.units) (se_ix (hu_of hr) (se_v 0) se_int) se_str (nomark _))))) (ss_one (ss_rt (se_lc rfl sc_named.nd (si_a (se_ix (hu_of hr) (se_v 0) se_int)) (blkOk_by (N := NN_named) (sc := defScope s_named) (own := [(("name" : Str), 2)]) (by decide +kernel)) (fun _ _ _ _ _ => pg_name (i := 2) sc_named.nd rfl (by first | exact Or.inl rfl | exact Or.inr rfl)) (fun _ _ _ _ _ => sts_nil) (fun _ _ _ _ _ => (se_ix (hu_of hr) (se_v 1) (se_v 2)))))) ss_nil)
    (ss_cons (ss_if (st_cmp (od_eq hr.units) (se_ix (hu_of hr) (se_v 0) se_int) se_str (nomark _)) (ss_one (ss_rt (se_lst (sa_cons (se_ix (hu_of hr) (se_v 1) (se_ix (hu_of hr) (se_v 0) se_int)) sa_nil)))) ss_nil)
    (ss_one (ss_rt (se_lst sa_nil)))))
abbrev NN_moved : List Str := ["book", "hands", "numbers", "told", "name", "form", "limbs", "number"]
theorem sc_moved : FnScope NN_moved ["book"] (defScope s_moved) := ⟨rfl, rfl, rfl, by decide +kernel, rfl, by decide +kernel, by decide +kernel⟩
theorem w_moved {fa : Addr} {fd : FuncData} (TX : Txt K mg κ) (A : All P w K mg base κ n) (F : FunZ K "moved" "moved" s_moved [] fa fd) : FnOk P w K mg base CX0 (n + 1) fa fd ["book"] (spD K κ (List.length (["book"] : List Str)) (runFn (ctx T n) f_moved)) := by
  refine fnOk_of F sc_moved rfl rfl fun cdv Ar outer s H E hr => ?_
  exact
    (ss_cons (ss_as (i := 1) sc_moved.nd (se_call A.a_numbers_of hr (sa_cons (se_ix (hu_of hr) (se_v 0) se_int) sa_nil)))
    (ss_cons (ss_as (i := 2) sc_moved.nd (se_call A.a_numbers_of hr (sa_cons (se_ix (hu_of hr) (se_v 0) se_int) sa_nil)))
    (ss_cons (ss_as (i := 3) sc_moved.nd (se_lst sa_nil))
    (ss_cons (ss_fo rfl (si_a (se_ix (hu_of hr) (se_v 0) se_int)) (sg_t rfl (sgs_cons (i := 4) sc_moved.nd (sgs_cons (i := 5) sc_moved.nd sgs_nil))) (ss_cons (ss_as (i := 6) sc_moved.nd (se_lst sa_nil))
    (ss_cons (ss_if (st_cmp (od_eq hr.units) (se_ix (hu_of hr) (se_v 5) se_int) se_str (nomark _)) (ss_one (ss_ex (se_bk PySem.F.plainAttrs_list PySem.F.slot_list_append PySem.F.type_list_append mt_append okL_ok md_append (se_v 6) (sa_cons (se_ix (hu_of hr) (se_v 1) (se_ix (hu_of hr) (se_v 5) se_int)) sa_nil)))) ss_nil)
    (ss_cons (ss_fo rfl (si_a (se_call A.a_named hr (sa_cons (se_v 5) (sa_cons (se_v 2) sa_nil)))) (sg_n (i := 7) sc_moved.nd) (ss_one (ss_ex (se_bk PySem.F.plainAttrs_list PySem.F.slot_list_extend PySem.F.type_list_extend mt_extend okL_ok md_extend (se_v 6) (sa_cons (se_ix (hu_of hr) (se_v 3) (se_v 7)) sa_nil)))))
    (ss_one (ss_ex (se_bk PySem.F.plainAttrs_list PySem.F.slot_list_append PySem.F.type_list_append mt_append okL_ok md_append (se_v 3) (sa_cons (se_srs rfl TX.b_sorted TX.b_set (se_v 6)) sa_nil))))))))
    (ss_one (ss_rt (se_v 3)))))))
abbrev NN_length_of : List Str := ["form", "below"]
theorem sc_length_of : FnScope NN_length_of ["form", "below"] (defScope s_length_of) := ⟨rfl, rfl, rfl, by decide +kernel, rfl, by decide +kernel, by decide +kernel⟩
theorem w_length_of {fa : Addr} {fd : FuncData} (TX : Txt K mg κ) (A : All P w K mg base κ n) (F : FunZ K "length_of" "length_of" s_length_of [] fa fd) : FnOk P w K mg base CX0 (n + 1) fa fd ["form", "below"] (spD K κ (List.length (["form", "below"] : List Str)) (runFn (ctx T n) f_length_of)) := by
  refine fnOk_of F sc_length_of rfl rfl fun cdv Ar outer s H E hr => ?_
  exact
    (ss_cons (ss_if (st_cmp (od_eq hr.units) (se_ix (hu_of hr) (se_v 0) se_int) se_str (nomark _)) (ss_one (ss_rt (se_bf (cd_sum rfl) TX.b_sum boot_sum_ (sa_cons (se_v 1) sa_nil)))) ss_nil)
    (ss_cons (ss_if (st_cmp (od_eq hr.units) (se_ix (hu_of hr) (se_v 0) se_int) se_str (nomark _)) (ss_one (ss_rt (se_bf (cd_max rfl) TX.b_max boot_max_ (sa_cons (se_v 1) sa_nil)))) ss_nil)
    (ss_cons (ss_if (st_cmp (od_eq hr.units) (se_ix (hu_of hr) (se_v 0) se_int) se_str (nomark _)) (ss_one (ss_rt (se_op od_mul (se_ix (hu_of hr) (se_v 0) se_int) (se_ix (hu_of hr) (se_v 1) se_int)))) ss_nil)
    (ss_one (ss_rt (se_ix (hu_of hr) (se_v 0) (se_un od_neg se_int)))))))
abbrev NN_look_at_side : List Str := ["book", "number", "limbs", "limb", "some"]
theorem sc_look_at_side : FnScope NN_look_at_side ["book", "number", "limbs"] (defScope s_look_at_side) := ⟨rfl, rfl, rfl, by decide +kernel, rfl, by decide +kernel, by decide +kernel⟩
theorem w_look_at_side {fa : Addr} {fd : FuncData} (TX : Txt K mg κ) (A : All P w K mg base κ n) (F : FunZ K "look_at_side" "look_at_side" s_look_at_side [] fa fd) : FnOk P w K mg base CX0 (n + 1) fa fd ["book", "number", "limbs"] (spD K κ (List.length (["book", "number", "limbs"] : List Str)) (runFn (ctx T n) f_look_at_side)) := by
  refine fnOk_of F sc_look_at_side rfl rfl fun cdv Ar outer s H E hr => ?_
  exact
    (ss_cons (ss_if (st_cmp (od_in (hu65 hr)) (se_lst sa_nil) (se_v 2) (by rfl)) (ss_one ss_no) ss_nil)
    (ss_one (ss_fo rfl (si_r1 TX.b_range (se_bf cd_len TX.b_len boot_len_ (sa_cons (se_ix (hu_of hr) (se_v 0) se_int) sa_nil))) (sg_n (i := 3) sc_look_at_side.nd) (ss_one (ss_if (st_cmp od_gt (se_bf cd_len TX.b_len boot_len_ (sa_cons (se_lc rfl sc_look_at_side.nd (si_a (se_v 2)) (blkOk_by (N := NN_look_at_side) (sc := defScope s_look_at_side) (own := [(("some" : Str), 4)]) (by decide +kernel)) (fun _ _ _ _ _ => pg_name (i := 4) sc_look_at_side.nd rfl (by first | exact Or.inl rfl | exact Or.inr rfl)) (fun _ _ _ _ _ => sts_one (st_cmp (od_in (hu65 hr)) (se_v 3) (se_v 4) (by rfl))) (fun _ _ _ _ _ => (se_v 4))) sa_nil)) se_int (nomark _)) (ss_one ss_no) ss_nil)))))
abbrev NN_lengths : List Str := ["book", "numbers", "limbs", "told", "number", "part", "below", "one"]
theorem sc_lengths : FnScope NN_lengths ["book"] (defScope s_lengths) := ⟨rfl, rfl, rfl, by decide +kernel, rfl, by decide +kernel, by decide +kernel⟩
theorem w_lengths {fa : Addr} {fd : FuncData} (TX : Txt K mg κ) (A : All P w K mg base κ n) (F : FunZ K "lengths" "lengths" s_lengths [] fa fd) : FnOk P w K mg base CX0 (n + 1) fa fd ["book"] (spD K κ (List.length (["book"] : List Str)) (runFn (ctx T n) f_lengths)) := by
  refine fnOk_of F sc_lengths rfl rfl fun cdv Ar outer s H E hr => ?_
  exact
    (ss_cons (ss_as (i := 1) sc_lengths.nd (se_call A.a_numbers_of hr (sa_cons (se_ix (hu_of hr) (se_v 0) se_int) sa_nil)))
    (ss_cons (ss_as (i := 2) sc_lengths.nd (se_call A.a_moved hr (sa_cons (se_v 0) sa_nil)))
    (ss_cons (ss_as (i := 3) sc_lengths.nd (se_lst sa_nil))
    (ss_cons (ss_fo rfl (si_en TX.b_enumerate (se_ix (hu_of hr) (se_v 0) se_int)) (sg_t rfl (sgs_cons (i := 4) sc_lengths.nd (sgs_cons (i := 5) sc_lengths.nd sgs_nil))) (ss_cons (ss_as (i := 6) sc_lengths.nd (se_call A.a_named hr (sa_cons (se_ix (hu_of hr) (se_v 5) se_int) (sa_cons (se_v 1) sa_nil))))
    (ss_cons (ss_if (st_cmp (od_eq hr.units) (se_ix (hu_of hr) (se_ix (hu_of hr) (se_v 5) se_int) se_int) se_str (nomark _)) (ss_one (ss_ex (se_call A.a_look_at_side hr (sa_cons (se_v 0) (sa_cons (se_v 4) (sa_cons (se_lc rfl sc_lengths.nd (si_a (se_v 6)) (blkOk_by (N := NN_lengths) (sc := defScope s_lengths) (own := [(("one" : Str), 7)]) (by decide +kernel)) (fun _ _ _ _ _ => pg_name (i := 7) sc_lengths.nd rfl (by first | exact Or.inl rfl | exact Or.inr rfl)) (fun _ _ _ _ _ => sts_nil) (fun _ _ _ _ _ => (se_ix (hu_of hr) (se_v 2) (se_v 7)))) sa_nil)))))) ss_nil)
    (ss_cons (ss_ex (se_bk PySem.F.plainAttrs_list PySem.F.slot_list_append PySem.F.type_list_append mt_append okL_ok md_append (se_v 3) (sa_cons (se_call A.a_length_of hr (sa_cons (se_ix (hu_of hr) (se_v 5) se_int) (sa_cons (se_lc rfl sc_lengths.nd (si_a (se_v 6)) (blkOk_by (N := NN_lengths) (sc := defScope s_lengths) (own := [(("one" : Str), 7)]) (by decide +kernel)) (fun _ _ _ _ _ => pg_name (i := 7) sc_lengths.nd rfl (by first | exact Or.inl rfl | exact Or.inr rfl)) (fun _ _ _ _ _ => sts_nil) (fun _ _ _ _ _ => (se_ix (hu_of hr) (se_v 3) (se_v 7)))) sa_nil))) sa_nil)))
    (ss_one (ss_if (st_cmp od_gt (se_ix (hu_of hr) (se_v 3) (se_un od_neg se_int)) (se_gi TX.c_LONGEST.choose_spec) (nomark _)) (ss_one ss_no) ss_nil))))))
    (ss_one (ss_rt (se_v 3)))))))
abbrev NN_ends : List Str := ["book", "hands", "numbers", "told", "name", "form", "left", "number", "limb", "height"]
theorem sc_ends : FnScope NN_ends ["book"] (defScope s_ends) := ⟨rfl, rfl, rfl, by decide +kernel, rfl, by decide +kernel, by decide +kernel⟩
theorem w_ends {fa : Addr} {fd : FuncData} (TX : Txt K mg κ) (A : All P w K mg base κ n) (F : FunZ K "ends" "ends" s_ends [] fa fd) : FnOk P w K mg base CX0 (n + 1) fa fd ["book"] (spD K κ (List.length (["book"] : List Str)) (runFn (ctx T n) f_ends)) := by
  refine fnOk_of F sc_ends rfl rfl fun cdv Ar outer s H E hr => ?_
  exact
    (ss_cons (ss_as (i := 1) sc_ends.nd (se_call A.a_numbers_of hr (sa_cons (se_ix (hu_of hr) (se_v 0) se_int) sa_nil)))
    (ss_cons (ss_as (i := 2) sc_ends.nd (se_call A.a_numbers_of hr (sa_cons (se_ix (hu_of hr) (se_v 0) se_int) sa_nil)))
    (ss_cons (ss_as (i := 3) sc_ends.nd (se_lst sa_nil))
    (ss_cons (ss_fo rfl (si_a (se_ix (hu_of hr) (se_v 0) se_int)) (sg_t rfl (sgs_cons (i := 4) sc_ends.nd (sgs_cons (i := 5) sc_ends.nd sgs_nil))) (ss_cons (ss_as (i := 6) sc_ends.nd se_diK)
    (ss_cons (ss_if (st_cmp (od_eq hr.units) (se_ix (hu_of hr) (se_v 5) se_int) se_str (nomark _)) (ss_one (ss_st (hu_of hr) (se_v 6) (se_ix (hu_of hr) (se_v 1) (se_ix (hu_of hr) (se_v 5) se_int)) (se_ix (hu_of hr) (se_v 5) se_int))) ss_nil)
    (ss_cons (ss_fo rfl (si_a (se_call A.a_named hr (sa_cons (se_v 5) (sa_cons (se_v 2) sa_nil)))) (sg_n (i := 7) sc_ends.nd) (ss_one (ss_fo rfl (si_a (se_ix (hu_of hr) (se_v 3) (se_v 7))) (sg_t rfl (sgs_cons (i := 8) sc_ends.nd (sgs_cons (i := 9) sc_ends.nd sgs_nil))) (ss_one (ss_st (hu_of hr) (se_v 6) (se_v 8) (se_v 9))))))
    (ss_one (ss_ex (se_bk PySem.F.plainAttrs_list PySem.F.slot_list_append PySem.F.type_list_append mt_append okL_ok md_append (se_v 3) (sa_cons (se_lc rfl sc_ends.nd (si_a (se_bf (cd_sr2 rfl) TX.b_sorted boot_sorted_ (sa_cons (se_v 6) sa_nil))) (blkOk_by (N := NN_ends) (sc := defScope s_ends) (own := [(("limb" : Str), 8)]) (by decide +kernel)) (fun _ _ _ _ _ => pg_name (i := 8) sc_ends.nd rfl (by first | exact Or.inl rfl | exact Or.inr rfl)) (fun _ _ _ _ _ => sts_nil) (fun _ _ _ _ _ => (se_tup (sa_cons (se_v 8) (sa_cons (se_ix (hu_of hr) (se_v 6) (se_v 8)) sa_nil))))) sa_nil))))))))
    (ss_one (ss_rt (se_v 3)))))))
abbrev NN_ramp : List Str := ["start", "goal", "beats", "j"]
theorem sc_ramp : FnScope NN_ramp ["start", "goal", "beats", "j"] (defScope s_ramp) := ⟨rfl, rfl, rfl, by decide +kernel, rfl, by decide +kernel, by decide +kernel⟩
theorem w_ramp {fa : Addr} {fd : FuncData} (TX : Txt K mg κ) (A : All P w K mg base κ n) (F : FunZ K "ramp" "ramp" s_ramp [] fa fd) : FnOk P w K mg base CX0 (n + 1) fa fd ["start", "goal", "beats", "j"] (spD K κ (List.length (["start", "goal", "beats", "j"] : List Str)) (runFn (ctx T n) f_ramp)) := by
  refine fnOk_of F sc_ramp rfl rfl fun cdv Ar outer s H E hr => ?_
  exact
    (ss_one (ss_rt (se_op od_add (se_v 0) (se_op od_div (se_op od_mul (se_op od_sub (se_v 1) (se_v 0)) (se_v 3)) (se_v 2)))))
abbrev NN_stand : List Str := ["book", "beat", "guide", "heights", "name", "height"]
theorem sc_stand : FnScope NN_stand ["book", "beat"] (defScope s_stand) := ⟨rfl, rfl, rfl, by decide +kernel, rfl, by decide +kernel, by decide +kernel⟩
theorem w_stand {fa : Addr} {fd : FuncData} (TX : Txt K mg κ) (A : All P w K mg base κ n) (F : FunZ K "stand" "stand" s_stand [] fa fd) : FnOk P w K mg base CX0 (n + 1) fa fd ["book", "beat"] (spD K κ (List.length (["book", "beat"] : List Str)) (runFn (ctx T n) f_stand)) := by
  refine fnOk_of F sc_stand rfl rfl fun cdv Ar outer s H E hr => ?_
  exact
    (ss_cons (ss_as (i := 2) sc_stand.nd (se_makeA A.k_Guide hr (sa_cons (se_v 0) sa_nil)))
    (ss_cons (ss_lct (j := 3) rfl (sw_true rfl rfl rfl (by decide +kernel)) sc_stand.nd (si_a (se_ix (hu_of hr) (se_v 0) se_int)) (blkOk_by (N := NN_stand) (sc := defScope s_stand) (own := [(("name" : Str), 4), (("height" : Str), 5)]) (by decide +kernel)) (fun _ _ _ _ _ => (sgs_cons (i := 4) sc_stand.nd (sgs_cons (i := 5) sc_stand.nd sgs_nil))) (fun _ _ _ _ _ => sts_nil) (fun _ _ _ _ _ => (se_v 5)))
    (ss_cons (ss_if (st_v (se_meth A.m_Guide_look_at hr (se_v 2) (sa_cons (se_v 1) sa_nil))) (ss_one (ss_ex (se_meth A.m_Guide_leave hr (se_v 2) (sa_cons (se_op od_sub (se_bf cd_len TX.b_len boot_len_ (sa_cons (se_ix (hu_of hr) (se_v 0) se_int) sa_nil)) se_int) (sa_cons (se_v 3) sa_nil))))) (ss_one (ss_ex (se_meth A.m_Guide_put hr (se_v 2) (sa_cons (se_op od_sub (se_bf cd_len TX.b_len boot_len_ (sa_cons (se_ix (hu_of hr) (se_v 0) se_int) sa_nil)) se_int) (sa_cons (se_v 1) (sa_cons (se_v 3) sa_nil)))))))
    (ss_one (ss_rt (se_v 3))))))
abbrev NN_rings : List Str := ["book", "beat", "guide"]
theorem sc_rings : FnScope NN_rings ["book", "beat"] (defScope s_rings) := ⟨rfl, rfl, rfl, by decide +kernel, rfl, by decide +kernel, by decide +kernel⟩
theorem w_rings {fa : Addr} {fd : FuncData} (TX : Txt K mg κ) (A : All P w K mg base κ n) (F : FunZ K "rings" "rings" s_rings [] fa fd) : FnOk P w K mg base CX0 (n + 1) fa fd ["book", "beat"] (spD K κ (List.length (["book", "beat"] : List Str)) (runFn (ctx T n) f_rings)) := by
  refine fnOk_of F sc_rings rfl rfl fun cdv Ar outer s H E hr => ?_
  exact
    (ss_cons (ss_as (i := 2) sc_rings.nd (se_makeA A.k_Guide hr (sa_cons (se_v 0) sa_nil)))
    (ss_cons (ss_if (st_v (se_meth A.m_Guide_look_at hr (se_v 2) (sa_cons (se_v 1) sa_nil))) (ss_one (ss_rt (se_lst sa_nil))) ss_nil)
    (ss_one (ss_rt (se_meth A.m_Guide_words hr (se_v 2) (sa_cons (se_op od_sub (se_bf cd_len TX.b_len boot_len_ (sa_cons (se_ix (hu_of hr) (se_v 0) se_int) sa_nil)) se_int) (sa_cons (se_v 1) sa_nil)))))))
abbrev NN_l_cell : List Str := ["script", "k", "number"]
theorem sc_l_cell : FnScope NN_l_cell ["script", "k"] (defScope s_l_cell) := ⟨rfl, rfl, rfl, by decide +kernel, rfl, by decide +kernel, by decide +kernel⟩
theorem w_l_cell {fa : Addr} {fd : FuncData} (TX : Txt K mg κ) (A : All P w K mg base κ n) (F : FunZ K "_law_cell" "_law_cell" s_l_cell [] fa fd) : FnOk P w K mg base CX0 (n + 1) fa fd ["script", "k"] (spD K κ (List.length (["script", "k"] : List Str)) (runFn (ctx T n) f_l_cell)) := by
  refine fnOk_of F sc_l_cell rfl rfl fun cdv Ar outer s H E hr => ?_
  exact
    (ss_cons (ss_if (st_cmp od_lt (se_v 1) (se_bf cd_len TX.b_len boot_len_ (sa_cons (se_v 0) sa_nil)) (nomark _)) (ss_one (ss_rt (se_ix (hu_of hr) (se_v 0) (se_v 1)))) ss_nil)
    (ss_cons (ss_as (i := 2) sc_l_cell.nd (se_op od_add (se_op od_mul (se_v 1) (se_v 1)) se_int))
    (ss_cons (ss_if (st_cmp od_gt (se_bf cd_len TX.b_len boot_len_ (sa_cons (se_v 0) sa_nil)) se_int (nomark _)) (ss_one (ss_as (i := 2) sc_l_cell.nd (se_op od_add (se_v 2) (se_op od_mod (se_ix (hu_of hr) (se_v 0) (se_op od_mod (se_op od_mul (se_v 1) se_int) (se_bf cd_len TX.b_len boot_len_ (sa_cons (se_v 0) sa_nil)))) se_int)))) ss_nil)
    (ss_one (ss_rt (se_op od_mod (se_op od_mul (se_v 2) (se_v 2)) se_int))))))
abbrev NN_l_names : List Str := ["cell", "many", "letters", "long", "at", "seed", "rest", "base", "k", "spot", "names", "sign", "more"]
theorem sc_l_names : FnScope NN_l_names ["cell", "many"] (defScope s_l_names) := ⟨rfl, rfl, rfl, by decide +kernel, rfl, by decide +kernel, by decide +kernel⟩
theorem w_l_names {fa : Addr} {fd : FuncData} (TX : Txt K mg κ) (A : All P w K mg base κ n) (F : FunZ K "_law_names" "_law_names" s_l_names [] fa fd) : FnOk P w K mg base CX0 (n + 1) fa fd ["cell", "many"] (spD K κ (List.length (["cell", "many"] : List Str)) (runFn (ctx T n) f_l_names)) := by
  refine fnOk_of F sc_l_names rfl rfl fun cdv Ar outer s H E hr => ?_
  exact
    (ss_cons (ss_as (i := 2) sc_l_names.nd se_str)
    (ss_cons (ss_as (i := 3) sc_l_names.nd (se_op od_add se_int (se_op od_mod (se_v 0) se_int)))
    (ss_cons (ss_as (i := 4) sc_l_names.nd (se_op od_mod (se_op od_div (se_v 0) se_int) (se_v 3)))
    (ss_cons (ss_as (i := 5) sc_l_names.nd (se_op od_mod (se_v 0) se_int))
    (ss_cons (ss_as (i := 6) sc_l_names.nd (se_op od_div (se_v 0) se_int))
    (ss_cons (ss_as (i := 7) sc_l_names.nd se_str)
    (ss_cons (ss_fo rfl (si_r1 TX.b_range (se_v 3)) (sg_n (i := 8) sc_l_names.nd) (ss_cons (ss_as (i := 5) sc_l_names.nd (se_op od_mod (se_op od_add (se_op od_add (se_op od_add (se_op od_mul (se_v 5) (se_v 5)) (se_op od_mul se_int (se_v 5))) (se_v 8)) se_int) se_int))
    (ss_cons (ss_as (i := 7) sc_l_names.nd (se_op od_add (se_v 7) (se_ix (hu_of hr) (se_v 2) (se_op od_mod (se_ix (hu_of hr) (se_lst (sa_cons (se_op od_div (se_v 5) se_int) (sa_cons (se_v 6) sa_nil))) (se_bt cd_int TX.b_int boot_int_ (sa_cons (se_cmp od_ge (se_v 0) (se_op od_pow se_int se_int) (nomark _)) sa_nil))) se_int))))
    (ss_one (ss_as (i := 6) sc_l_names.nd (se_op od_div (se_v 6) se_int))))))
    (ss_cons (ss_as (i := 9) sc_l_names.nd (se_bk PySem.F.plainAttrs_str PySem.F.slot_str_index PySem.F.type_str_index mt_sindex okS_ok md_sindex (se_v 2) (sa_cons (se_ix (hu_of hr) (se_v 7) (se_v 4)) sa_nil)))
    (ss_cons (ss_as (i := 10) sc_l_names.nd (se_lst sa_nil))
    (ss_cons (ss_fo rfl (si_r1 TX.b_range (se_v 1)) (sg_n (i := 8) sc_l_names.nd) (ss_cons (ss_as (i := 11) sc_l_names.nd (se_ix (hu_of hr) (se_v 2) (se_op od_mod (se_op od_add (se_v 9) (se_op od_mul se_int (se_v 8))) se_int)))
    (ss_cons (ss_as (i := 12) sc_l_names.nd (se_op od_mul (se_op od_mod (se_v 8) se_int) (se_op od_mod (se_op od_div (se_v 0) se_int) se_int)))
    (ss_one (ss_ex (se_bk PySem.F.plainAttrs_list PySem.F.slot_list_append PySem.F.type_list_append mt_append okL_ok md_append (se_v 10) (sa_cons (se_op od_add (se_op od_add (se_op od_add (se_sl (se_v 7) so_n (so_s (se_v 4))) (se_v 11)) (se_sl (se_v 7) (so_s (se_op od_add (se_v 4) se_int)) so_n)) (se_sl se_str so_n (so_s (se_v 12)))) sa_nil)))))))
    (ss_one (ss_rt (se_v 10)))))))))))))
abbrev NN_l_alike : List Str := ["found", "due", "one", "other"]
theorem sc_l_alike : FnScope NN_l_alike ["found", "due"] (defScope s_l_alike) := ⟨rfl, rfl, rfl, by decide +kernel, rfl, by decide +kernel, by decide +kernel⟩
theorem w_l_alike {fa : Addr} {fd : FuncData} (TX : Txt K mg κ) (A : All P w K mg base κ n) (F : FunZ K "_law_alike" "_law_alike" s_l_alike [] fa fd) : FnOk P w K mg base CX0 (n + 1) fa fd ["found", "due"] (spD K κ (List.length (["found", "due"] : List Str)) (runFn (ctx T n) f_l_alike)) := by
  refine fnOk_of F sc_l_alike rfl rfl fun cdv Ar outer s H E hr => ?_
  exact
    (ss_cons (ss_if (st_w (sw_or (st_not (st_v (se_is (se_v 0) TX.b_isinstance TX.b_list boot_list_))) (sw_or1 (st_cmp (od_ne hr.units) (se_bf cd_len TX.b_len boot_len_ (sa_cons (se_v 0) sa_nil)) (se_bf cd_len TX.b_len boot_len_ (sa_cons (se_v 1) sa_nil)) (nomark _))))) (ss_one (ss_rt se_bl)) ss_nil)
    (ss_cons (ss_fo rfl (si_zp TX.b_zip (se_v 0) (se_v 1)) (sg_t rfl (sgs_cons (i := 2) sc_l_alike.nd (sgs_cons (i := 3) sc_l_alike.nd sgs_nil))) (ss_one (ss_if (st_v (se_is (se_v 3) TX.b_isinstance TX.b_str boot_str_)) (ss_one (ss_if (st_w (sw_or (st_not (st_v (se_is (se_v 2) TX.b_isinstance TX.b_str boot_str_))) (sw_or1 (st_cmp (od_ne hr.units) (se_v 2) (se_v 3) (nomark _))))) (ss_one (ss_rt se_bl)) ss_nil)) (ss_one (ss_if (st_w (sw_or (st_not (st_v (se_is (se_v 2) TX.b_isinstance TX.b_int boot_int_))) (sw_or (st_v (se_is (se_v 2) TX.b_isinstance TX.b_bool boot_bool_)) (sw_or1 (st_cmp (od_ne hr.units) (se_v 2) (se_v 3) (nomark _)))))) (ss_one (ss_rt se_bl)) ss_nil)))))
    (ss_one (ss_rt se_bl))))
abbrev NN_law : List Str := ["script", "names", "many", "height", "limbs", "beats", "goal", "at", "form", "way", "book", "parts", "beat", "due", "k", "cell", "name"]
theorem sc_law : FnScope NN_law ["script"] (defScope s_law) := ⟨rfl, rfl, rfl, by decide +kernel, rfl, by decide +kernel, by decide +kernel⟩
theorem w_law {fa : Addr} {fd : FuncData} (TX : Txt K mg κ) (A : All P w K mg base κ n) (F : FunZ K "law" "law" s_law [] fa fd) : FnOk P w K mg base CX0 (n + 1) fa fd ["script"] (spD K κ (List.length (["script"] : List Str)) (runFn (ctx T n) f_law)) := by
  refine fnOk_of F sc_law rfl rfl fun cdv Ar outer s H E hr => ?_
  exact
    (ss_cons (ss_as (i := 1) sc_law.nd (se_call A.a__law_names hr (sa_cons (se_call A.a__law_cell hr (sa_cons (se_v 0) (sa_cons se_int sa_nil))) (sa_cons se_int sa_nil))))
    (ss_cons (ss_as (i := 2) sc_law.nd (se_op od_add se_int (se_op od_mod (se_call A.a__law_cell hr (sa_cons (se_v 0) (sa_cons se_int sa_nil))) se_int)))
    (ss_cons (ss_as (i := 3) sc_law.nd (se_op od_mod (se_call A.a__law_cell hr (sa_cons (se_v 0) (sa_cons se_int sa_nil))) (se_op od_pow se_int se_int)))
    (ss_cons (ss_lc (j := 4) rfl (sw_true rfl rfl rfl (by decide +kernel)) sc_law.nd (si_r1 TX.b_range (se_v 2)) (blkOk_by (N := NN_law) (sc := defScope s_law) (own := [(("k" : Str), 14)]) (by decide +kernel)) (fun _ _ _ _ _ => pg_name (i := 14) sc_law.nd rfl (by first | exact Or.inl rfl | exact Or.inr rfl)) (fun _ _ _ _ _ => sts_nil) (fun _ _ _ _ _ => (se_tup (sa_cons (se_ix (hu_of hr) (se_v 1) (se_v 14)) (sa_cons (se_op od_mod (se_op od_mul (se_op od_mul (se_v 3) (se_op od_add (se_op od_mul se_int (se_v 14)) se_int)) se_int) (se_op od_add (se_op od_pow se_int se_int) se_int)) sa_nil)))))
    (ss_cons (ss_as (i := 5) sc_law.nd (se_op od_add se_int (se_op od_mod (se_op od_mul (se_op od_mod (se_call A.a__law_cell hr (sa_cons (se_v 0) (sa_cons se_int sa_nil))) (se_op od_pow se_int se_int)) (se_ix (hu_of hr) (se_lst (sa_cons se_int (sa_cons (se_op od_add (se_op od_pow se_int se_int) se_int) sa_nil))) (se_op od_mod (se_op od_div (se_call A.a__law_cell hr (sa_cons (se_v 0) (sa_cons se_int sa_nil))) se_int) se_int))) (se_op od_pow se_int se_int))))
    (ss_cons (ss_as (i := 6) sc_law.nd (se_op od_mod (se_op od_mul (se_op od_mod (se_call A.a__law_cell hr (sa_cons (se_v 0) (sa_cons se_int sa_nil))) (se_op od_pow se_int se_int)) (se_ix (hu_of hr) (se_lst (sa_cons se_int (sa_cons (se_op od_add (se_op od_pow se_int se_int) se_int) sa_nil))) (se_op od_mod (se_op od_div (se_call A.a__law_cell hr (sa_cons (se_v 0) (sa_cons se_int sa_nil))) se_int) se_int))) (se_op od_add (se_op od_pow se_int se_int) se_int)))
    (ss_cons (ss_as (i := 7) sc_law.nd (se_op od_mod (se_call A.a__law_cell hr (sa_cons (se_v 0) (sa_cons se_int sa_nil))) (se_v 2)))
    (ss_cons (ss_as (i := 8) sc_law.nd (se_lst (sa_cons (se_tup (sa_cons se_str (sa_cons (se_ix (hu_of hr) (se_v 1) (se_v 7)) (sa_cons (se_v 6) (sa_cons (se_v 5) sa_nil))))) (sa_cons (se_tup (sa_cons se_str (sa_cons (se_v 5) sa_nil))) (sa_cons (se_tup (sa_cons se_str (sa_cons (se_ix (hu_of hr) (se_v 1) se_int) (sa_cons (se_v 5) sa_nil)))) sa_nil)))))
    (ss_cons (ss_as (i := 9) sc_law.nd (se_ix (hu_of hr) (se_lst (sa_cons se_int (sa_cons se_int (sa_cons se_int (sa_cons se_int sa_nil))))) (se_op od_mod (se_op od_div (se_call A.a__law_cell hr (sa_cons (se_v 0) (sa_cons se_int sa_nil))) se_int) se_int)))
    (ss_cons (ss_as (i := 10) sc_law.nd (se_tup (sa_cons (se_bt cd_lst TX.b_list boot_list_ (sa_cons (se_v 4) sa_nil)) (sa_cons (se_lst (sa_cons (se_tup (sa_cons (se_ix (hu_of hr) (se_v 1) (se_op od_mod (se_op od_div (se_call A.a__law_cell hr (sa_cons (se_v 0) (sa_cons se_int sa_nil))) se_int) se_int)) (sa_cons (se_ix (hu_of hr) (se_v 8) (se_v 9)) sa_nil))) sa_nil)) sa_nil))))
    (ss_cons (ss_as (i := 11) sc_law.nd (se_bt cd_lst TX.b_list boot_list_ (sa_cons (se_ix (hu_of hr) (se_v 10) se_int) sa_nil)))
    (ss_cons (ss_fo rfl (si_a (se_op od_add (se_lst (sa_cons se_int (sa_cons (se_v 5) sa_nil))) (se_lc rfl sc_law.nd (si_a (se_sl (se_v 0) (so_s se_int) (so_s se_int))) (blkOk_by (N := NN_law) (sc := defScope s_law) (own := [(("cell" : Str), 15)]) (by decide +kernel)) (fun _ _ _ _ _ => pg_name (i := 15) sc_law.nd rfl (by first | exact Or.inl rfl | exact Or.inr rfl)) (fun _ _ _ _ _ => sts_nil) (fun _ _ _ _ _ => (se_op od_mod (se_op od_mul (se_op od_mod (se_v 15) (se_op od_pow se_int se_int)) (se_ix (hu_of hr) (se_lst (sa_cons se_int (sa_cons (se_op od_add (se_op od_pow se_int se_int) se_int) sa_nil))) (se_op od_mod (se_v 15) se_int))) (se_op od_add (se_v 5) se_int)))))) (sg_n (i := 12) sc_law.nd) (ss_cons (ss_lct (j := 13) rfl (sw_true rfl rfl rfl (by decide +kernel)) sc_law.nd (si_a (se_v 4)) (blkOk_by (N := NN_law) (sc := defScope s_law) (own := [(("name" : Str), 16), (("height" : Str), 3)]) (by decide +kernel)) (fun _ _ _ _ _ => (sgs_cons (i := 16) sc_law.nd (sgs_cons (i := 3) sc_law.nd sgs_nil))) (fun _ _ _ _ _ => sts_nil) (fun _ _ _ _ _ => (se_v 3)))
    (ss_cons (ss_if (st_cmp (od_eq hr.units) (se_v 9) se_int (nomark _)) (ss_one (ss_st (hu_of hr) (se_v 13) (se_v 7) (se_op od_add (se_ix (hu_of hr) (se_v 13) (se_v 7)) (se_op od_div (se_op od_mul (se_op od_sub (se_v 6) (se_ix (hu_of hr) (se_v 13) (se_v 7))) (se_v 12)) (se_v 5))))) ss_nil)
    (ss_cons (ss_if (st_not (st_v (se_call A.a__law_alike hr (sa_cons (se_call A.a_stand hr (sa_cons (se_v 10) (sa_cons (se_v 12) sa_nil))) (sa_cons (se_v 13) sa_nil))))) (ss_one (ss_rt se_bl)) ss_nil)
    (ss_one (ss_if (st_not (st_v (se_call A.a__law_alike hr (sa_cons (se_call A.a_rings hr (sa_cons (se_v 10) (sa_cons (se_v 12) sa_nil))) (sa_cons (se_op od_mul (se_lst (sa_cons (se_ix (hu_of hr) (se_v 1) se_int) sa_nil)) (se_bt cd_int TX.b_int boot_int_ (sa_cons (se_and (se_cmp (od_eq hr.units) (se_v 9) se_int (nomark _)) (se_one (se_cmp (od_eq hr.units) (se_v 12) se_int (nomark _)))) sa_nil))) sa_nil))))) (ss_one (ss_rt se_bl)) ss_nil))))))
    (ss_one (ss_rt (se_cmp (od_eq hr.units) (se_v 10) (se_tup (sa_cons (se_v 4) (sa_cons (se_v 11) sa_nil))) (nomark _))))))))))))))))
theorem all_n (TX : Txt K mg κ) (Fs : Funs K mg κ) : ∀ n, All P w K mg base κ n
  | 0 => ⟨fnF_zero Fs.m_numbers_of, fnF_zero Fs.m_named, fnF_zero Fs.m_moved, fnF_zero Fs.m_length_of, fnF_zero Fs.m_look_at_side, fnF_zero Fs.m_lengths, fnF_zero Fs.m_ends, fnF_zero Fs.m_ramp, fnF_zero Fs.m_stand, fnF_zero Fs.m_rings, fnF_zero Fs.m__law_cell, fnF_zero Fs.m__law_names, fnF_zero Fs.m__law_alike, (mem1 (meF_zero Fs.t_Guide_look_at)), (mem1 (meF_zero Fs.t_Guide_leave)), (mem1 (meF_zero Fs.t_Guide_put)), (mem1 (meF_zero Fs.t_Guide_words)), (mem1 (meF_zero Fs.t_Guide_put_beside)), (mem1 (meF_zero Fs.t_Guide_put_in_row)), mkF_zero Fs.j_Guide, ⟨.inl rfl⟩, trivial⟩
  | n + 1 =>
    let A := all_n TX Fs n
    ⟨fnF_succ Fs.m_numbers_of rfl rfl fun fa fd F => w_numbers_of TX A F,
    fnF_succ Fs.m_named rfl rfl fun fa fd F => w_named TX A F,
    fnF_succ Fs.m_moved rfl rfl fun fa fd F => w_moved TX A F,
    fnF_succ Fs.m_length_of rfl rfl fun fa fd F => w_length_of TX A F,
    fnF_succ Fs.m_look_at_side rfl rfl fun fa fd F => w_look_at_side TX A F,
    fnF_succ Fs.m_lengths rfl rfl fun fa fd F => w_lengths TX A F,
    fnF_succ Fs.m_ends rfl rfl fun fa fd F => w_ends TX A F,
    fnF_succ Fs.m_ramp rfl rfl fun fa fd F => w_ramp TX A F,
    fnF_succ Fs.m_stand rfl rfl fun fa fd F => w_stand TX A F,
    fnF_succ Fs.m_rings rfl rfl fun fa fd F => w_rings TX A F,
    fnF_succ Fs.m__law_cell rfl rfl fun fa fd F => w_l_cell TX A F,
    fnF_succ Fs.m__law_names rfl rfl fun fa fd F => w_l_names TX A F,
    fnF_succ Fs.m__law_alike rfl rfl fun fa fd F => w_l_alike TX A F,
    (mem1 (meF_succ Fs.t_Guide_look_at rfl rfl fun fa fd F => w_m_Guide_look_at TX A F)),
    (mem1 (meF_succ Fs.t_Guide_leave rfl rfl fun fa fd F => w_m_Guide_leave TX A F)),
    (mem1 (meF_succ Fs.t_Guide_put rfl rfl fun fa fd F => w_m_Guide_put TX A F)),
    (mem1 (meF_succ Fs.t_Guide_words rfl rfl fun fa fd F => w_m_Guide_words TX A F)),
    (mem1 (meF_succ Fs.t_Guide_put_beside rfl rfl fun fa fd F => w_m_Guide_put_beside TX A F)),
    (mem1 (meF_succ Fs.t_Guide_put_in_row rfl rfl fun fa fd F => w_m_Guide_put_in_row TX A F)),
    mkF_succ Fs.j_Guide rfl rfl fun fa fd F => w_m_Guide_init TX A F,
    ⟨.inr ⟨n, rfl, A.i_Guide⟩⟩,
    trivial⟩
end
abbrev kap (C_Guide : Addr) : Nat → Addr := fun c => match c with
  | 1 => C_Guide
  | _ => 0
theorem all_mk {l : PySem.W.OpenLaw} {w : World} {K : PySem.W.Frag} {h : Heap} {mg : Str → Option Value} {fa f1 f2 f3 f4 f5 f6 f7 f8 f9 f10 f11 f12 f13 f14 f15 f16 f17 f18 f19 f20 f21 C_Guide : Addr} (X : K.In h) (G : h.Ns mainGlobals mg) (hfa : mg "law" = some (.ref fa))
    {od1 an1 od2 an2 od3 an3 od4 an4 od5 an5 od6 an6 od7 an7 od8 an8 od9 an9 od10 an10 od11 an11 od12 an12 od13 an13 od14 an14 od15 an15 od16 an16 od17 an17 od18 an18 od19 an19 od20 an20 od21 an21 : Option Addr} {sl1 sl2 sl3 sl4 sl5 sl6 sl7 sl8 sl9 sl10 sl11 sl12 sl13 sl14 sl15 sl16 sl17 sl18 sl19 sl20 sl21 : Array (Option Value)} {oc1 kV1 dc1 pm1 cd1 ct1 oc2 kV2 dc2 pm2 cd2 ct2 oc3 kV3 dc3 pm3 cd3 ct3 oc4 kV4 dc4 pm4 cd4 ct4 oc5 kV5 dc5 pm5 cd5 ct5 oc6 kV6 dc6 pm6 cd6 ct6 oc7 kV7 dc7 pm7 cd7 ct7 oc8 kV8 dc8 pm8 cd8 ct8 oc9 kV9 dc9 pm9 cd9 ct9 oc10 kV10 dc10 pm10 cd10 ct10 oc11 kV11 dc11 pm11 cd11 ct11 oc12 kV12 dc12 pm12 cd12 ct12 oc13 kV13 dc13 pm13 cd13 ct13 oc14 kV14 dc14 pm14 cd14 ct14 oc15 kV15 dc15 pm15 cd15 ct15 oc16 kV16 dc16 pm16 cd16 ct16 oc17 kV17 dc17 pm17 cd17 ct17 oc18 kV18 dc18 pm18 cd18 ct18 oc19 kV19 dc19 pm19 cd19 ct19 oc20 kV20 dc20 pm20 cd20 ct20 oc21 kV21 dc21 pm21 cd21 ct21 : Value}
    (a1 : PySem.W.nsIn K mainGlobals "numbers_of" = some (some (.ref f1))) (l1 : K.lookup f1 = some ⟨oc1, od1, .func (PySem.W.fnOf "numbers_of" "numbers_of" (defArgs s_numbers_of) (defBody s_numbers_of) (defScope s_numbers_of) .none kV1 dc1 pm1 an1 cd1 ct1), sl1⟩) (c1 : PySem.W.codeIn K cd1 "numbers_of" = true) (k1 : PySem.W.keepIn K (.ref f1) = true)
    (a2 : PySem.W.nsIn K mainGlobals "named" = some (some (.ref f2))) (l2 : K.lookup f2 = some ⟨oc2, od2, .func (PySem.W.fnOf "named" "named" (defArgs s_named) (defBody s_named) (defScope s_named) .none kV2 dc2 pm2 an2 cd2 ct2), sl2⟩) (c2 : PySem.W.codeIn K cd2 "named" = true) (k2 : PySem.W.keepIn K (.ref f2) = true)
    (a3 : PySem.W.nsIn K mainGlobals "moved" = some (some (.ref f3))) (l3 : K.lookup f3 = some ⟨oc3, od3, .func (PySem.W.fnOf "moved" "moved" (defArgs s_moved) (defBody s_moved) (defScope s_moved) .none kV3 dc3 pm3 an3 cd3 ct3), sl3⟩) (c3 : PySem.W.codeIn K cd3 "moved" = true) (k3 : PySem.W.keepIn K (.ref f3) = true)
    (a4 : PySem.W.nsIn K mainGlobals "length_of" = some (some (.ref f4))) (l4 : K.lookup f4 = some ⟨oc4, od4, .func (PySem.W.fnOf "length_of" "length_of" (defArgs s_length_of) (defBody s_length_of) (defScope s_length_of) .none kV4 dc4 pm4 an4 cd4 ct4), sl4⟩) (c4 : PySem.W.codeIn K cd4 "length_of" = true) (k4 : PySem.W.keepIn K (.ref f4) = true)
    (a5 : PySem.W.nsIn K mainGlobals "look_at_side" = some (some (.ref f5))) (l5 : K.lookup f5 = some ⟨oc5, od5, .func (PySem.W.fnOf "look_at_side" "look_at_side" (defArgs s_look_at_side) (defBody s_look_at_side) (defScope s_look_at_side) .none kV5 dc5 pm5 an5 cd5 ct5), sl5⟩) (c5 : PySem.W.codeIn K cd5 "look_at_side" = true) (k5 : PySem.W.keepIn K (.ref f5) = true)
    (a6 : PySem.W.nsIn K mainGlobals "lengths" = some (some (.ref f6))) (l6 : K.lookup f6 = some ⟨oc6, od6, .func (PySem.W.fnOf "lengths" "lengths" (defArgs s_lengths) (defBody s_lengths) (defScope s_lengths) .none kV6 dc6 pm6 an6 cd6 ct6), sl6⟩) (c6 : PySem.W.codeIn K cd6 "lengths" = true) (k6 : PySem.W.keepIn K (.ref f6) = true)
    (a7 : PySem.W.nsIn K mainGlobals "ends" = some (some (.ref f7))) (l7 : K.lookup f7 = some ⟨oc7, od7, .func (PySem.W.fnOf "ends" "ends" (defArgs s_ends) (defBody s_ends) (defScope s_ends) .none kV7 dc7 pm7 an7 cd7 ct7), sl7⟩) (c7 : PySem.W.codeIn K cd7 "ends" = true) (k7 : PySem.W.keepIn K (.ref f7) = true)
    (a8 : PySem.W.nsIn K mainGlobals "ramp" = some (some (.ref f8))) (l8 : K.lookup f8 = some ⟨oc8, od8, .func (PySem.W.fnOf "ramp" "ramp" (defArgs s_ramp) (defBody s_ramp) (defScope s_ramp) .none kV8 dc8 pm8 an8 cd8 ct8), sl8⟩) (c8 : PySem.W.codeIn K cd8 "ramp" = true) (k8 : PySem.W.keepIn K (.ref f8) = true)
    (a9 : PySem.W.nsIn K mainGlobals "stand" = some (some (.ref f9))) (l9 : K.lookup f9 = some ⟨oc9, od9, .func (PySem.W.fnOf "stand" "stand" (defArgs s_stand) (defBody s_stand) (defScope s_stand) .none kV9 dc9 pm9 an9 cd9 ct9), sl9⟩) (c9 : PySem.W.codeIn K cd9 "stand" = true) (k9 : PySem.W.keepIn K (.ref f9) = true)
    (a10 : PySem.W.nsIn K mainGlobals "rings" = some (some (.ref f10))) (l10 : K.lookup f10 = some ⟨oc10, od10, .func (PySem.W.fnOf "rings" "rings" (defArgs s_rings) (defBody s_rings) (defScope s_rings) .none kV10 dc10 pm10 an10 cd10 ct10), sl10⟩) (c10 : PySem.W.codeIn K cd10 "rings" = true) (k10 : PySem.W.keepIn K (.ref f10) = true)
    (a11 : PySem.W.nsIn K mainGlobals "_law_cell" = some (some (.ref f11))) (l11 : K.lookup f11 = some ⟨oc11, od11, .func (PySem.W.fnOf "_law_cell" "_law_cell" (defArgs s_l_cell) (defBody s_l_cell) (defScope s_l_cell) .none kV11 dc11 pm11 an11 cd11 ct11), sl11⟩) (c11 : PySem.W.codeIn K cd11 "_law_cell" = true) (k11 : PySem.W.keepIn K (.ref f11) = true)
    (a12 : PySem.W.nsIn K mainGlobals "_law_names" = some (some (.ref f12))) (l12 : K.lookup f12 = some ⟨oc12, od12, .func (PySem.W.fnOf "_law_names" "_law_names" (defArgs s_l_names) (defBody s_l_names) (defScope s_l_names) .none kV12 dc12 pm12 an12 cd12 ct12), sl12⟩) (c12 : PySem.W.codeIn K cd12 "_law_names" = true) (k12 : PySem.W.keepIn K (.ref f12) = true)
    (a13 : PySem.W.nsIn K mainGlobals "_law_alike" = some (some (.ref f13))) (l13 : K.lookup f13 = some ⟨oc13, od13, .func (PySem.W.fnOf "_law_alike" "_law_alike" (defArgs s_l_alike) (defBody s_l_alike) (defScope s_l_alike) .none kV13 dc13 pm13 an13 cd13 ct13), sl13⟩) (c13 : PySem.W.codeIn K cd13 "_law_alike" = true) (k13 : PySem.W.keepIn K (.ref f13) = true)
    (a14 : PySem.W.nsIn K mainGlobals "law" = some (some (.ref f14))) (l14 : K.lookup f14 = some ⟨oc14, od14, .func (PySem.W.fnOf "law" "law" (defArgs s_law) (defBody s_law) (defScope s_law) .none kV14 dc14 pm14 an14 cd14 ct14), sl14⟩) (c14 : PySem.W.codeIn K cd14 "law" = true) (k14 : PySem.W.keepIn K (.ref f14) = true)
    (aC_Guide : PySem.W.nsIn K mainGlobals "Guide" = some (some (.ref C_Guide))) (pg_Guide : PySem.W.plainGet K C_Guide Str.empty = true) (hd_Guide : PySem.W.hasDictIn K C_Guide = true) (po_Guide : PySem.W.plainOver K C_Guide = true) (sa_Guide : PySem.W.findIn K (.ref C_Guide) "__setattr__" = some (some (.builtin "object.__setattr__")))
    (mk_Guide : PySem.W.makesIn K C_Guide = true) (kc_Guide : PySem.W.keepIn K (.ref C_Guide) = true)
    (n_Guide_forms : PySem.W.findIn K (.ref C_Guide) "forms" = some none)
    (n_Guide_numbers : PySem.W.findIn K (.ref C_Guide) "numbers" = some none)
    (n_Guide_limbs : PySem.W.findIn K (.ref C_Guide) "limbs" = some none)
    (n_Guide_lengths : PySem.W.findIn K (.ref C_Guide) "lengths" = some none)
    (n_Guide_ends : PySem.W.findIn K (.ref C_Guide) "ends" = some none)
    (a_Guide___init__ : PySem.W.findIn K (.ref C_Guide) "__init__" = some (some (.ref f15)))
    (a_Guide_look_at : PySem.W.findIn K (.ref C_Guide) "look_at" = some (some (.ref f16)))
    (a_Guide_leave : PySem.W.findIn K (.ref C_Guide) "leave" = some (some (.ref f17)))
    (a_Guide_put : PySem.W.findIn K (.ref C_Guide) "put" = some (some (.ref f18)))
    (a_Guide_put_beside : PySem.W.findIn K (.ref C_Guide) "put_beside" = some (some (.ref f19)))
    (a_Guide_put_in_row : PySem.W.findIn K (.ref C_Guide) "put_in_row" = some (some (.ref f20)))
    (a_Guide_words : PySem.W.findIn K (.ref C_Guide) "words" = some (some (.ref f21)))
    (i15 : PySem.W.isFn K (.ref f15) = true) (l15 : K.lookup f15 = some ⟨oc15, od15, .func (PySem.W.fnOf "__init__" "Guide.__init__" (defArgs s_m_Guide_init) (defBody s_m_Guide_init) (defScope s_m_Guide_init) .none kV15 dc15 pm15 an15 cd15 ct15), sl15⟩) (c15 : PySem.W.codeIn K cd15 "Guide.__init__" = true) (k15 : PySem.W.keepIn K (.ref f15) = true)
    (i16 : PySem.W.isFn K (.ref f16) = true) (l16 : K.lookup f16 = some ⟨oc16, od16, .func (PySem.W.fnOf "look_at" "Guide.look_at" (defArgs s_m_Guide_look_at) (defBody s_m_Guide_look_at) (defScope s_m_Guide_look_at) .none kV16 dc16 pm16 an16 cd16 ct16), sl16⟩) (c16 : PySem.W.codeIn K cd16 "Guide.look_at" = true) (k16 : PySem.W.keepIn K (.ref f16) = true)
    (i17 : PySem.W.isFn K (.ref f17) = true) (l17 : K.lookup f17 = some ⟨oc17, od17, .func (PySem.W.fnOf "leave" "Guide.leave" (defArgs s_m_Guide_leave) (defBody s_m_Guide_leave) (defScope s_m_Guide_leave) .none kV17 dc17 pm17 an17 cd17 ct17), sl17⟩) (c17 : PySem.W.codeIn K cd17 "Guide.leave" = true) (k17 : PySem.W.keepIn K (.ref f17) = true)
    (i18 : PySem.W.isFn K (.ref f18) = true) (l18 : K.lookup f18 = some ⟨oc18, od18, .func (PySem.W.fnOf "put" "Guide.put" (defArgs s_m_Guide_put) (defBody s_m_Guide_put) (defScope s_m_Guide_put) .none kV18 dc18 pm18 an18 cd18 ct18), sl18⟩) (c18 : PySem.W.codeIn K cd18 "Guide.put" = true) (k18 : PySem.W.keepIn K (.ref f18) = true)
    (i19 : PySem.W.isFn K (.ref f19) = true) (l19 : K.lookup f19 = some ⟨oc19, od19, .func (PySem.W.fnOf "put_beside" "Guide.put_beside" (defArgs s_m_Guide_put_beside) (defBody s_m_Guide_put_beside) (defScope s_m_Guide_put_beside) .none kV19 dc19 pm19 an19 cd19 ct19), sl19⟩) (c19 : PySem.W.codeIn K cd19 "Guide.put_beside" = true) (k19 : PySem.W.keepIn K (.ref f19) = true)
    (i20 : PySem.W.isFn K (.ref f20) = true) (l20 : K.lookup f20 = some ⟨oc20, od20, .func (PySem.W.fnOf "put_in_row" "Guide.put_in_row" (defArgs s_m_Guide_put_in_row) (defBody s_m_Guide_put_in_row) (defScope s_m_Guide_put_in_row) .none kV20 dc20 pm20 an20 cd20 ct20), sl20⟩) (c20 : PySem.W.codeIn K cd20 "Guide.put_in_row" = true) (k20 : PySem.W.keepIn K (.ref f20) = true)
    (i21 : PySem.W.isFn K (.ref f21) = true) (l21 : K.lookup f21 = some ⟨oc21, od21, .func (PySem.W.fnOf "words" "Guide.words" (defArgs s_m_Guide_words) (defBody s_m_Guide_words) (defScope s_m_Guide_words) .none kV21 dc21 pm21 an21 cd21 ct21), sl21⟩) (c21 : PySem.W.codeIn K cd21 "Guide.words" = true) (k21 : PySem.W.keepIn K (.ref f21) = true)
    (z_bool : PySem.W.nsIn K mainGlobals "bool" = some none)
    (z_divmod : PySem.W.nsIn K mainGlobals "divmod" = some none)
    (z_enumerate : PySem.W.nsIn K mainGlobals "enumerate" = some none)
    (z_int : PySem.W.nsIn K mainGlobals "int" = some none)
    (z_isinstance : PySem.W.nsIn K mainGlobals "isinstance" = some none)
    (z_len : PySem.W.nsIn K mainGlobals "len" = some none)
    (z_list : PySem.W.nsIn K mainGlobals "list" = some none)
    (z_max : PySem.W.nsIn K mainGlobals "max" = some none)
    (z_range : PySem.W.nsIn K mainGlobals "range" = some none)
    (z_set : PySem.W.nsIn K mainGlobals "set" = some none)
    (z_sorted : PySem.W.nsIn K mainGlobals "sorted" = some none)
    (z_str : PySem.W.nsIn K mainGlobals "str" = some none)
    (z_sum : PySem.W.nsIn K mainGlobals "sum" = some none)
    (z_zip : PySem.W.nsIn K mainGlobals "zip" = some none)
    {tk_LONGEST : Tok} (g_LONGEST : PySem.W.nsIn K mainGlobals "LONGEST" = some (some (.int 1000000000000000000000000000000000000000000000000000000000000 tk_LONGEST))) :
    ∃ fd : FuncData, (∀ (s : Shared) (v : Value), BindsTo s fd ⟨[v], []⟩ [("script", v)]) ∧ ∀ base : Heap, K.In base → base.Ns mainGlobals mg → FnOk l.prog w K mg base CX0 13 fa fd ["script"] (spL K (runFn (ctx T 12) f_law)) := by
  have e := hfa.symm.trans (PySem.W.mg_of X G a14)
  cases e
  have TX : Txt K mg (kap C_Guide) := ⟨(mem1 ⟨⟨pg_Guide, hd_Guide, po_Guide, sa_Guide⟩, n_Guide_forms⟩), (mem1 ⟨⟨pg_Guide, hd_Guide, po_Guide, sa_Guide⟩, n_Guide_numbers⟩), (mem1 ⟨⟨pg_Guide, hd_Guide, po_Guide, sa_Guide⟩, n_Guide_limbs⟩), (mem1 ⟨⟨pg_Guide, hd_Guide, po_Guide, sa_Guide⟩, n_Guide_lengths⟩), (mem1 ⟨⟨pg_Guide, hd_Guide, po_Guide, sa_Guide⟩, n_Guide_ends⟩), PySem.W.mg_none_of X G z_bool, PySem.W.mg_none_of X G z_divmod, PySem.W.mg_none_of X G z_enumerate, PySem.W.mg_none_of X G z_int, PySem.W.mg_none_of X G z_isinstance, PySem.W.mg_none_of X G z_len, PySem.W.mg_none_of X G z_list, PySem.W.mg_none_of X G z_max, PySem.W.mg_none_of X G z_range, PySem.W.mg_none_of X G z_set, PySem.W.mg_none_of X G z_sorted, PySem.W.mg_none_of X G z_str, PySem.W.mg_none_of X G z_sum, PySem.W.mg_none_of X G z_zip, ⟨_, PySem.W.mg_of X G g_LONGEST⟩, trivial⟩
  have Fs : Funs K mg (kap C_Guide) := ⟨⟨f15, _, (funZ_mk (st := s_m_Guide_init) l15 c15 k15), ⟨pg_Guide, hd_Guide, po_Guide, sa_Guide⟩, ⟨a_Guide___init__, i15, k15⟩, (FunD.bindsN (funZ_mk (st := s_m_Guide_init) l15 c15 k15) (ps := ["self", "book"]) fun _ _ _ _ _ _ us hl => match us, hl with | [_, _], _ => rfl)⟩,
    ⟨f16, _, (funZ_mk (st := s_m_Guide_look_at) l16 c16 k16), ⟨pg_Guide, hd_Guide, po_Guide, sa_Guide⟩, ⟨a_Guide_look_at, i16, k16⟩, (FunD.bindsN (funZ_mk (st := s_m_Guide_look_at) l16 c16 k16) (ps := ["self", "beat"]) fun _ _ _ _ _ _ us hl => match us, hl with | [_, _], _ => rfl)⟩,
    ⟨f17, _, (funZ_mk (st := s_m_Guide_leave) l17 c17 k17), ⟨pg_Guide, hd_Guide, po_Guide, sa_Guide⟩, ⟨a_Guide_leave, i17, k17⟩, (FunD.bindsN (funZ_mk (st := s_m_Guide_leave) l17 c17 k17) (ps := ["self", "number", "heights"]) fun _ _ _ _ _ _ us hl => match us, hl with | [_, _, _], _ => rfl)⟩,
    ⟨f18, _, (funZ_mk (st := s_m_Guide_put) l18 c18 k18), ⟨pg_Guide, hd_Guide, po_Guide, sa_Guide⟩, ⟨a_Guide_put, i18, k18⟩, (FunD.bindsN (funZ_mk (st := s_m_Guide_put) l18 c18 k18) (ps := ["self", "number", "beat", "heights"]) fun _ _ _ _ _ _ us hl => match us, hl with | [_, _, _, _], _ => rfl)⟩,
    ⟨f19, _, (funZ_mk (st := s_m_Guide_put_beside) l19 c19 k19), ⟨pg_Guide, hd_Guide, po_Guide, sa_Guide⟩, ⟨a_Guide_put_beside, i19, k19⟩, (FunD.bindsN (funZ_mk (st := s_m_Guide_put_beside) l19 c19 k19) (ps := ["self", "number", "beat", "heights"]) fun _ _ _ _ _ _ us hl => match us, hl with | [_, _, _, _], _ => rfl)⟩,
    ⟨f20, _, (funZ_mk (st := s_m_Guide_put_in_row) l20 c20 k20), ⟨pg_Guide, hd_Guide, po_Guide, sa_Guide⟩, ⟨a_Guide_put_in_row, i20, k20⟩, (FunD.bindsN (funZ_mk (st := s_m_Guide_put_in_row) l20 c20 k20) (ps := ["self", "numbers", "beat", "heights"]) fun _ _ _ _ _ _ us hl => match us, hl with | [_, _, _, _], _ => rfl)⟩,
    ⟨f21, _, (funZ_mk (st := s_m_Guide_words) l21 c21 k21), ⟨pg_Guide, hd_Guide, po_Guide, sa_Guide⟩, ⟨a_Guide_words, i21, k21⟩, (FunD.bindsN (funZ_mk (st := s_m_Guide_words) l21 c21 k21) (ps := ["self", "number", "beat"]) fun _ _ _ _ _ _ us hl => match us, hl with | [_, _, _], _ => rfl)⟩,
    ⟨f15, _, (funZ_mk (st := s_m_Guide_init) l15 c15 k15), PySem.W.mg_of X G aC_Guide, ⟨mk_Guide, a_Guide___init__, i15, kc_Guide⟩, (FunD.bindsN (funZ_mk (st := s_m_Guide_init) l15 c15 k15) (ps := ["self", "book"]) fun _ _ _ _ _ _ us hl => match us, hl with | [_, _], _ => rfl)⟩,
    (by
      have F := funZ_mk (st := s_numbers_of) l1 c1 k1
      have b := FunD.bindsN F (ps := ["rows"]) fun _ _ _ _ _ _ us hl => match us, hl with | [_], _ => rfl
      exact ⟨f1, _, [], F, PySem.W.mg_of X G a1, b, b, .nil⟩),
    (by
      have F := funZ_mk (st := s_named) l2 c2 k2
      have b := FunD.bindsN F (ps := ["form", "numbers"]) fun _ _ _ _ _ _ us hl => match us, hl with | [_, _], _ => rfl
      exact ⟨f2, _, [], F, PySem.W.mg_of X G a2, b, b, .nil⟩),
    (by
      have F := funZ_mk (st := s_moved) l3 c3 k3
      have b := FunD.bindsN F (ps := ["book"]) fun _ _ _ _ _ _ us hl => match us, hl with | [_], _ => rfl
      exact ⟨f3, _, [], F, PySem.W.mg_of X G a3, b, b, .nil⟩),
    (by
      have F := funZ_mk (st := s_length_of) l4 c4 k4
      have b := FunD.bindsN F (ps := ["form", "below"]) fun _ _ _ _ _ _ us hl => match us, hl with | [_, _], _ => rfl
      exact ⟨f4, _, [], F, PySem.W.mg_of X G a4, b, b, .nil⟩),
    (by
      have F := funZ_mk (st := s_look_at_side) l5 c5 k5
      have b := FunD.bindsN F (ps := ["book", "number", "limbs"]) fun _ _ _ _ _ _ us hl => match us, hl with | [_, _, _], _ => rfl
      exact ⟨f5, _, [], F, PySem.W.mg_of X G a5, b, b, .nil⟩),
    (by
      have F := funZ_mk (st := s_lengths) l6 c6 k6
      have b := FunD.bindsN F (ps := ["book"]) fun _ _ _ _ _ _ us hl => match us, hl with | [_], _ => rfl
      exact ⟨f6, _, [], F, PySem.W.mg_of X G a6, b, b, .nil⟩),
    (by
      have F := funZ_mk (st := s_ends) l7 c7 k7
      have b := FunD.bindsN F (ps := ["book"]) fun _ _ _ _ _ _ us hl => match us, hl with | [_], _ => rfl
      exact ⟨f7, _, [], F, PySem.W.mg_of X G a7, b, b, .nil⟩),
    (by
      have F := funZ_mk (st := s_ramp) l8 c8 k8
      have b := FunD.bindsN F (ps := ["start", "goal", "beats", "j"]) fun _ _ _ _ _ _ us hl => match us, hl with | [_, _, _, _], _ => rfl
      exact ⟨f8, _, [], F, PySem.W.mg_of X G a8, b, b, .nil⟩),
    (by
      have F := funZ_mk (st := s_stand) l9 c9 k9
      have b := FunD.bindsN F (ps := ["book", "beat"]) fun _ _ _ _ _ _ us hl => match us, hl with | [_, _], _ => rfl
      exact ⟨f9, _, [], F, PySem.W.mg_of X G a9, b, b, .nil⟩),
    (by
      have F := funZ_mk (st := s_rings) l10 c10 k10
      have b := FunD.bindsN F (ps := ["book", "beat"]) fun _ _ _ _ _ _ us hl => match us, hl with | [_, _], _ => rfl
      exact ⟨f10, _, [], F, PySem.W.mg_of X G a10, b, b, .nil⟩),
    (by
      have F := funZ_mk (st := s_l_cell) l11 c11 k11
      have b := FunD.bindsN F (ps := ["script", "k"]) fun _ _ _ _ _ _ us hl => match us, hl with | [_, _], _ => rfl
      exact ⟨f11, _, [], F, PySem.W.mg_of X G a11, b, b, .nil⟩),
    (by
      have F := funZ_mk (st := s_l_names) l12 c12 k12
      have b := FunD.bindsN F (ps := ["cell", "many"]) fun _ _ _ _ _ _ us hl => match us, hl with | [_, _], _ => rfl
      exact ⟨f12, _, [], F, PySem.W.mg_of X G a12, b, b, .nil⟩),
    (by
      have F := funZ_mk (st := s_l_alike) l13 c13 k13
      have b := FunD.bindsN F (ps := ["found", "due"]) fun _ _ _ _ _ _ us hl => match us, hl with | [_, _], _ => rfl
      exact ⟨f13, _, [], F, PySem.W.mg_of X G a13, b, b, .nil⟩),
    trivial⟩
  have F := funZ_mk (st := s_law) l14 c14 k14
  exact ⟨_, fun s v => .of_eq rfl, fun base _ _ => spL_of (κ := (kap C_Guide)) rfl (w_law TX (all_n TX Fs 12) F)⟩
end Z.k16
open PySem PySem.W PyProof.Rows
set_option maxRecDepth 100000 in
set_option maxHeartbeats 0 in
theorem PySem.Challenge.cw_camplay_k16_one_part_far_holds : PySem.Challenge.rw_camplay_k16_one_part_far.Holds := by
  w_on; o_law; k_head; (case hw => w_witness2)
  k_fill
  refine Z.law_end (l := PySem.Challenge.rw_camplay_k16_one_part_far) (k := 13) rfl rfl ⟨rfl, by decide, by decide⟩ (fun w h Y => PySem.W.kIn_of Y) ?F Z.k16.law_true
  case F =>
    intro w mg fa h KX G hmg
    refine' Z.k16.all_mk KX G hmg ?a1 ?l1 ?c1 ?k1 ?a2 ?l2 ?c2 ?k2 ?a3 ?l3 ?c3 ?k3 ?a4 ?l4 ?c4 ?k4 ?a5 ?l5 ?c5 ?k5 ?a6 ?l6 ?c6 ?k6 ?a7 ?l7 ?c7 ?k7 ?a8 ?l8 ?c8 ?k8 ?a9 ?l9 ?c9 ?k9 ?a10 ?l10 ?c10 ?k10 ?a11 ?l11 ?c11 ?k11 ?a12 ?l12 ?c12 ?k12 ?a13 ?l13 ?c13 ?k13 ?a14 ?l14 ?c14 ?k14 ?aC_Guide ?pg_Guide ?hd_Guide ?po_Guide ?sa_Guide ?mk_Guide ?kc_Guide ?n_Guide_forms ?n_Guide_numbers ?n_Guide_limbs ?n_Guide_lengths ?n_Guide_ends ?a_Guide___init__ ?a_Guide_look_at ?a_Guide_leave ?a_Guide_put ?a_Guide_put_beside ?a_Guide_put_in_row ?a_Guide_words ?i15 ?l15 ?c15 ?k15 ?i16 ?l16 ?c16 ?k16 ?i17 ?l17 ?c17 ?k17 ?i18 ?l18 ?c18 ?k18 ?i19 ?l19 ?c19 ?k19 ?i20 ?l20 ?c20 ?k20 ?i21 ?l21 ?c21 ?k21 ?z_bool ?z_divmod ?z_enumerate ?z_int ?z_isinstance ?z_len ?z_list ?z_max ?z_range ?z_set ?z_sorted ?z_str ?z_sum ?z_zip ?g_LONGEST
    (case a1 => k_is)
    (case l1 => k_is)
    (case c1 => k_is)
    (case k1 => k_is)
    (case a2 => k_is)
    (case l2 => k_is)
    (case c2 => k_is)
    (case k2 => k_is)
    (case a3 => k_is)
    (case l3 => k_is)
    (case c3 => k_is)
    (case k3 => k_is)
    (case a4 => k_is)
    (case l4 => k_is)
    (case c4 => k_is)
    (case k4 => k_is)
    (case a5 => k_is)
    (case l5 => k_is)
    (case c5 => k_is)
    (case k5 => k_is)
    (case a6 => k_is)
    (case l6 => k_is)
    (case c6 => k_is)
    (case k6 => k_is)
    (case a7 => k_is)
    (case l7 => k_is)
    (case c7 => k_is)
    (case k7 => k_is)
    (case a8 => k_is)
    (case l8 => k_is)
    (case c8 => k_is)
    (case k8 => k_is)
    (case a9 => k_is)
    (case l9 => k_is)
    (case c9 => k_is)
    (case k9 => k_is)
    (case a10 => k_is)
    (case l10 => k_is)
    (case c10 => k_is)
    (case k10 => k_is)
    (case a11 => k_is)
    (case l11 => k_is)
    (case c11 => k_is)
    (case k11 => k_is)
    (case a12 => k_is)
    (case l12 => k_is)
    (case c12 => k_is)
    (case k12 => k_is)
    (case a13 => k_is)
    (case l13 => k_is)
    (case c13 => k_is)
    (case k13 => k_is)
    (case a14 => k_is)
    (case l14 => k_is)
    (case c14 => k_is)
    (case k14 => k_is)
    (case aC_Guide => k_is)
    (case pg_Guide => k_is)
    (case hd_Guide => k_is)
    (case po_Guide => k_is)
    (case sa_Guide => k_is)
    (case mk_Guide => k_is)
    (case kc_Guide => k_is)
    (case n_Guide_forms => k_is)
    (case n_Guide_numbers => k_is)
    (case n_Guide_limbs => k_is)
    (case n_Guide_lengths => k_is)
    (case n_Guide_ends => k_is)
    (case a_Guide___init__ => k_is)
    (case a_Guide_look_at => k_is)
    (case a_Guide_leave => k_is)
    (case a_Guide_put => k_is)
    (case a_Guide_put_beside => k_is)
    (case a_Guide_put_in_row => k_is)
    (case a_Guide_words => k_is)
    (case i15 => k_is)
    (case l15 => k_is)
    (case c15 => k_is)
    (case k15 => k_is)
    (case i16 => k_is)
    (case l16 => k_is)
    (case c16 => k_is)
    (case k16 => k_is)
    (case i17 => k_is)
    (case l17 => k_is)
    (case c17 => k_is)
    (case k17 => k_is)
    (case i18 => k_is)
    (case l18 => k_is)
    (case c18 => k_is)
    (case k18 => k_is)
    (case i19 => k_is)
    (case l19 => k_is)
    (case c19 => k_is)
    (case k19 => k_is)
    (case i20 => k_is)
    (case l20 => k_is)
    (case c20 => k_is)
    (case k20 => k_is)
    (case i21 => k_is)
    (case l21 => k_is)
    (case c21 => k_is)
    (case k21 => k_is)
    (case z_bool => k_is)
    (case z_divmod => k_is)
    (case z_enumerate => k_is)
    (case z_int => k_is)
    (case z_isinstance => k_is)
    (case z_len => k_is)
    (case z_list => k_is)
    (case z_max => k_is)
    (case z_range => k_is)
    (case z_set => k_is)
    (case z_sorted => k_is)
    (case z_str => k_is)
    (case z_sum => k_is)
    (case z_zip => k_is)
    (case g_LONGEST => k_is)
