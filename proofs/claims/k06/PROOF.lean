import PyProof.Rows.All
import Wide.All
import OpenK.AllK
import Wide.FinOn
import HandS.ForMost
import HandS.Wide
import HandS.IsInst
import HandS.Deep
import HandS.TupAny
import PyProof.MaxThree
import HandS.WideBits
import HandS.SetFor
import HandS.SortInts
import HandS.RaiseMore
import HandS.Defaults
import HandS.RevRange
import HandS.Comp
import HandS.Text
import HandS.EndBits
import KE.IntTextLaws
import PyProof.Rows.StrFirst
import PySem.Challenge.RW_camplay_k06_words_and_numbers
set_option Elab.async false
set_option linter.all false
set_option maxRecDepth 100000
set_option maxHeartbeats 4000000
/-! Z0: values, heaps and results of a plain evaluator; its combinators. -/
namespace Z
open PySem L2

inductive D where
  | non | bl (b : Bool) | int (i : Int) | str (x : Str) | tup (ds : List D) | ref (i : Nat)

inductive O where
  | lst (xs : List D) | fz (xs : List D) | dic (kvs : List (Key × D)) | dct (kvs : List (List Key × D)) | ins (c : Nat) (fs : List (Str × D))

def O.mu : O → Bool
  | .fz _ => false
  | _ => true

abbrev HP := List O

inductive R (α : Type) where
  | ok (a : α) (h : HP) | ex (c : Nat) (fs : List (Str × D)) (h : HP) | no

def R.bind {α β : Type} (r : R α) (f : α → HP → R β) : R β := match r with
  | .ok a h => f a h
  | .ex c fs h => .ex c fs h
  | .no => .no
@[simp] theorem R.bind_ok {α β : Type} (a : α) (h : HP) (f : α → HP → R β) : R.bind (.ok a h) f = f a h := rfl
@[simp] theorem R.bind_ex {α β : Type} (c : Nat) (fs : List (Str × D)) (h : HP) (f : α → HP → R β) : R.bind (.ex c fs h) f = .ex c fs h := rfl
@[simp] theorem R.bind_no {α β : Type} (f : α → HP → R β) : R.bind .no f = .no := rfl

abbrev Ev := List (Option D)
/-- turns enough for every loop -/
def FUEL : Nat := 10 ^ 70

structure Ctx where
  call : Nat → List D → HP → R D
  meth : Nat → Nat → List D → HP → R D
  make : Nat → List D → HP → R D
  fuel : Nat

abbrev ME := Ctx → Ev → HP → R D
abbrev MA := Ctx → Ev → HP → R (List D)
abbrev MT := Ctx → Ev → HP → R Bool
abbrev MO := Ctx → Ev → HP → R (Option Int)

/-! ### expressions -/
def eV (i : Nat) : ME := fun _ e h => match e[i]? with
  | some (some d) => .ok d h
  | _ => .no
def eC (d : D) : ME := fun _ _ h => .ok d h
def eOp (op : D → D → HP → R D) (a b : ME) : ME := fun C e h => (a C e h).bind fun x h => (b C e h).bind fun y h => op x y h
def eUn (op : D → HP → R D) (a : ME) : ME := fun C e h => (a C e h).bind fun x h => op x h
/-- a value as a test -/
def tV (a : ME) : MT := fun C e h => (a C e h).bind fun x h => match x with
  | .bl b => .ok b h
  | _ => .no
def tAn (a b : MT) : MT := fun C e h => (a C e h).bind fun x h => if x = true then b C e h else .ok false h
def tOr (a b : MT) : MT := fun C e h => (a C e h).bind fun x h => if x = true then .ok true h else b C e h
def tNt (a : MT) : MT := fun C e h => (a C e h).bind fun x h => .ok (!x) h
def eAn (a b : ME) : ME := fun C e h => (a C e h).bind fun x h => match x with
  | .bl k => if k = true then b C e h else .ok (.bl false) h
  | _ => .no
def eOr (a b : ME) : ME := fun C e h => (a C e h).bind fun x h => match x with
  | .bl k => if k = true then .ok (.bl true) h else b C e h
  | _ => .no
def eNt (a : ME) : ME := fun C e h => (a C e h).bind fun x h => match x with
  | .bl k => .ok (.bl (!k)) h
  | _ => .no
def eIf (t : MT) (a b : ME) : ME := fun C e h => (t C e h).bind fun x h => if x = true then a C e h else b C e h
def aN : MA := fun _ _ h => .ok [] h
def aC (a : ME) (as : MA) : MA := fun C e h => (a C e h).bind fun x h => (as C e h).bind fun xs h => .ok (x :: xs) h
def eTup (as : MA) : ME := fun C e h => (as C e h).bind fun xs h => if xs.length ≤ sizeLine then .ok (.tup xs) h else .no
def eLst (as : MA) : ME := fun C e h => (as C e h).bind fun xs h => if xs.length ≤ sizeLine then .ok (.ref h.length) (h ++ [.lst xs]) else .no
/-- f(..): a def of the text; ds: the defaults that fill up -/
def eCall (f : Nat) (as : MA) (ds : List D) : ME := fun C e h => (as C e h).bind fun xs h => C.call f (xs ++ ds) h
/-- o.m(..) of an own instance -/
def eMeth (cs : List Nat) (o : ME) (m : Nat) (nm : Str) (as : MA) : ME := fun C e h => (o C e h).bind fun x h => match x with
  | .ref i => match h[i]? with
    | some (.ins c fs) => if c ∈ cs ∧ (fs.lookup nm).isNone = true then (as C e h).bind fun xs h => C.meth c m (.ref i :: xs) h else .no
    | _ => .no
  | _ => .no
/-- C(..) -/
def eMake (c : Nat) (as : MA) : ME := fun C e h => (as C e h).bind fun xs h => C.make c xs h
def mkBy (me : Nat → Nat → List D → HP → R D) (c : Nat) (xs : List D) (h : HP) : R D := (me c 0 (.ref h.length :: xs) (h ++ [.ins c []])).bind fun v h' => match v with
  | .non => .ok (.ref h.length) h'
  | _ => .no
def eFld (cs : List Nat) (a : ME) (f : Str) : ME := fun C e h => (a C e h).bind fun x h => match x with
  | .ref i => match h[i]? with
    | some (.ins c fs) => if c ∈ cs then match fs.lookup f with
        | some d => .ok d h
        | none => .no
      else .no
    | _ => .no
  | _ => .no
/-- f(..), f a built-in function -/
def eBf (f : List D → HP → R D) (as : MA) : ME := fun C e h => (as C e h).bind fun xs h => f xs h
/-- o.m(..) of a built-in type -/
def eBm (f : D → List D → HP → R D) (o : ME) (as : MA) : ME := fun C e h => (o C e h).bind fun x h => (as C e h).bind fun xs h => f x xs h
def oN : MO := fun _ _ h => .ok none h
def oS (a : ME) : MO := fun C e h => (a C e h).bind fun x h => match x with
  | .int i => .ok (some i) h
  | _ => .no
def eSl (f : D → Option Int → Option Int → HP → R D) (a : ME) (lo hi : MO) : ME := fun C e h => (a C e h).bind fun x h => (lo C e h).bind fun l h => (hi C e h).bind fun u h => f x l u h

/-! ### what is walked -/
/-- at turn j: none: it can't be told; some none: it is over -/
abbrev Itr := Nat → HP → Option (Option D)
abbrev MI := Ctx → Ev → HP → R Itr
def itL (i : Nat) : Itr := fun j h => match h[i]? with
  | some (.lst xs) => some xs[j]?
  | some (.fz xs) => some xs[j]?
  | _ => none
def itT (ds : List D) : Itr := fun j _ => some ds[j]?
def itS (x : Str) : Itr := fun j _ => some ((x.cps[j]?).map fun c => .str ⟨#[c]⟩)
def itR (lo : Int) (n : Nat) : Itr := fun j _ => if j < n then some (some (.int (lo + j))) else some none
def itRc (lo c : Int) (n : Nat) : Itr := fun j _ => if j < n then some (some (.int (lo + j * c))) else some none
def itE (i : Nat) : Itr := fun j h => (itL i j h).map fun o => o.map fun d => .tup [.int j, d]
def itZ (a b : Nat) : Itr := fun j h => match itL a j h, itL b j h with
  | some (some x), some (some y) => some (some (.tup [x, y]))
  | some _, some _ => some none
  | _, _ => none
def itV (i n : Nat) : Itr := fun j h => if j < n then match itL i (n - 1 - j) h with
    | some (some d) => some (some d)
    | _ => none
  else some none
def isL (i : Nat) (h : HP) : Option (List D) := match h[i]? with
  | some (.lst xs) => some xs
  | some (.fz xs) => some xs
  | _ => none
/-- for .. in e: a list, a tuple, a text -/
def iA (a : ME) : MI := fun C e h => (a C e h).bind fun x h => match x with
  | .ref i => match isL i h with
    | some _ => .ok (itL i) h
    | none => .no
  | .tup ds => .ok (itT ds) h
  | .str z => .ok (itS z) h
  | _ => .no
def iR1 (a : ME) : MI := fun C e h => (a C e h).bind fun x h => match x with
  | .int n => if -(2 ^ 62) ≤ n ∧ n < 2 ^ 62 then .ok (itR 0 n.toNat) h else .no
  | _ => .no
def iR2 (a b : ME) : MI := fun C e h => (a C e h).bind fun x h => (b C e h).bind fun y h => match x, y with
  | .int i, .int j => if -(2 ^ 62) ≤ i ∧ i < 2 ^ 62 ∧ -(2 ^ 62) ≤ j ∧ j < 2 ^ 62 then .ok (itR i (j - i).toNat) h else .no
  | _, _ => .no
def iEn (a : ME) : MI := fun C e h => (a C e h).bind fun x h => match x with
  | .ref i => match isL i h with
    | some _ => .ok (itE i) h
    | none => .no
  | _ => .no
def iZp (a b : ME) : MI := fun C e h => (a C e h).bind fun x h => (b C e h).bind fun y h => match x, y with
  | .ref i, .ref j => match isL i h, isL j h with
    | some _, some _ => .ok (itZ i j) h
    | _, _ => .no
  | _, _ => .no
def iRv (a : ME) : MI := fun C e h => (a C e h).bind fun x h => match x with
  | .ref i => match isL i h with
    | some xs => .ok (itV i xs.length) h
    | none => .no
  | _ => .no
/-- reversed(range(a)), reversed(range(a, b)) -/
def iRr1 (a : ME) : MI := fun C e h => (a C e h).bind fun x h => match x with
  | .int n => if -(2 ^ 62) ≤ n ∧ n < 2 ^ 62 then .ok (itRc (n.toNat - 1) (-1) n.toNat) h else .no
  | _ => .no

/-! ### targets -/
abbrev Tg := Ev → D → Option Ev
def gN (i : Nat) : Tg := fun e d => some (e.set i (some d))
def gT (is : List Nat) : Tg := fun e d => match d with
  | .tup ds => if ds.length = is.length then some ((is.zip ds).foldl (fun e p => e.set p.1 (some p.2)) e) else none
  | _ => none

/-! ### statements -/
inductive FL where
  | nx (e : Ev) | rt (d : D) | bk (e : Ev) | ct (e : Ev)
abbrev MS := Ctx → Ev → HP → R FL
def sSk : MS := fun _ e h => .ok (.nx e) h
def sSq (a b : MS) : MS := fun C e h => (a C e h).bind fun f h => match f with
  | .nx e => b C e h
  | f => .ok f h
def sBk : MS := fun _ e h => .ok (.bk e) h
def sCt : MS := fun _ e h => .ok (.ct e) h
def sEx (a : ME) : MS := fun C e h => (a C e h).bind fun _ h => .ok (.nx e) h
def sRt (a : ME) : MS := fun C e h => (a C e h).bind fun d h => .ok (.rt d) h
def sRN : MS := fun _ _ h => .ok (.rt .non) h
def sAs (g : Tg) (a : ME) : MS := fun C e h => (a C e h).bind fun d h => match g e d with
  | some e => .ok (.nx e) h
  | none => .no
/-- x, y = a, b -/
def sPr (i j : Nat) (a b : ME) : MS := fun C e h => (a C e h).bind fun x h => (b C e h).bind fun y h => .ok (.nx ((e.set i (some x)).set j (some y))) h
def sAu (i : Nat) (op : D → D → HP → R D) (a : ME) : MS := fun C e h => match e[i]? with
  | some (some x) => (a C e h).bind fun y h => (op x y h).bind fun z h => .ok (.nx (e.set i (some z))) h
  | _ => .no
def sIf (t : MT) (a b : MS) : MS := fun C e h => (t C e h).bind fun x h => if x = true then a C e h else b C e h
/-- o[i] = a -/
def sSt (f : D → D → D → HP → R Unit) (o i a : ME) : MS := fun C e h => (a C e h).bind fun v h => (o C e h).bind fun x h => (i C e h).bind fun y h => (f x y v h).bind fun _ h => .ok (.nx e) h
def putD (f : Str) (v : D) : List (Str × D) → List (Str × D)
  | [] => [(f, v)]
  | (g, x) :: r => if g = f then (g, v) :: r else (g, x) :: putD f v r
/-- o.f = a -/
def sFl (cs : List Nat) (o : ME) (f : Str) (a : ME) : MS := fun C e h => (a C e h).bind fun v h => (o C e h).bind fun x h => match x with
  | .ref i => match h[i]? with
    | some (.ins c fs) => if c ∈ cs ∧ fs.length < 1000 then .ok (.nx e) (h.set i (.ins c (putD f v fs))) else .no
    | _ => .no
  | _ => .no
/-- o.f op= a -/
def sFa (cs : List Nat) (o : ME) (f : Str) (op : D → D → HP → R D) (a : ME) : MS := fun C e h => (o C e h).bind fun x h => match x with
  | .ref i => match h[i]? with
    | some (.ins c2 fs) => match fs.lookup f with
      | some v => (a C e h).bind fun y h => (op v y h).bind fun z h => match h[i]? with
        | some (.ins c fs) => if c ∈ cs ∧ c2 = c ∧ fs.length < 1000 then .ok (.nx e) (h.set i (.ins c (putD f z fs))) else .no
        | _ => .no
      | none => .no
    | _ => .no
  | _ => .no
def whileN (t : MT) (b : MS) : Nat → MS
  | 0 => fun _ _ _ => .no
  | n + 1 => fun C e h => (t C e h).bind fun x h => if x = true then (b C e h).bind fun f h => match f with
      | .nx e => whileN t b n C e h
      | .ct e => whileN t b n C e h
      | .bk e => .ok (.nx e) h
      | .rt d => .ok (.rt d) h
    else .ok (.nx e) h
def sWh (t : MT) (b : MS) : MS := fun C e h => whileN t b C.fuel C e h
def forN (it : Itr) (g : Tg) (b : MS) : Nat → Nat → MS
  | 0, _ => fun _ _ _ => .no
  | n + 1, j => fun C e h => match it j h with
    | some none => .ok (.nx e) h
    | some (some d) => match g e d with
      | some e => (b C e h).bind fun f h => match f with
        | .nx e => forN it g b n (j + 1) C e h
        | .ct e => forN it g b n (j + 1) C e h
        | .bk e => .ok (.nx e) h
        | .rt d => .ok (.rt d) h
      | none => .no
    | none => .no
def sFo (g : Tg) (it : MI) (b : MS) : MS := fun C e h => (it C e h).bind fun i h => forN i g b C.fuel 0 C e h
/-- what can't be told: a raise that is never come to -/
def sNo : MS := fun _ _ _ => .no

/-! ### comprehensions: the items of the new list -/
def cmpN (it : Itr) (g : Tg) (t : MT) (a : ME) (e0 : Ev) (C : Ctx) : Nat → Nat → List D → HP → R (List D)
  | 0, _, _, _ => .no
  | n + 1, j, acc, h => match it j h with
    | some none => .ok acc h
    | some (some d) => match g e0 d with
      | some e => (t C e h).bind fun x h => if x = true then (a C e h).bind fun y h => if acc.length < sizeLine then cmpN it g t a e0 C n (j + 1) (acc ++ [y]) h else .no
          else cmpN it g t a e0 C n (j + 1) acc h
      | none => .no
    | none => .no
def wipeE (e : Ev) : List Nat → Ev
  | [] => e
  | v :: vs => (wipeE e vs).set v none
def tY : MT := fun _ _ h => .ok true h
def eLc (vs : List Nat) (g : Tg) (it : MI) (t : MT) (a : ME) : ME := fun C e h => (it C e h).bind fun i h => (cmpN i g t a (wipeE e vs) C C.fuel 0 [] h).bind fun xs h => .ok (.ref h.length) (h ++ [.lst xs])

/-! ### a text's defs -/
structure Fn where
  np : Nat
  nn : Nat
  body : MS
def runFn (C : Ctx) (fn : Fn) (ds : List D) (h : HP) : R D :=
  if ds.length = fn.np then (fn.body C (ds.map some ++ List.replicate (fn.nn - ds.length) none) h).bind fun f h => match f with
    | .rt d => .ok d h
    | .nx _ => .ok .non h
    | _ => .no
  else .no
structure Tbl where
  fn : Nat → Option Fn
  me : Nat → Nat → Option Fn
  fuel : Nat
def ctx (T : Tbl) : Nat → Ctx
  | 0 => ⟨fun _ _ _ => .no, fun _ _ _ _ => .no, fun _ _ _ => .no, T.fuel⟩
  | n + 1 => ⟨fun f ds h => match T.fn f with
      | some fn => runFn (ctx T n) fn ds h
      | none => .no,
    fun c m ds h => match T.me c m with
      | some fn => runFn (ctx T n) fn ds h
      | none => .no,
    mkBy (ctx T n).meth, T.fuel⟩
end Z
/-! Z1: what the plain evaluator's values, heaps and results stand for in the hand layer. -/
namespace Z
open PySem L2

/-! ### values -/
mutual
def RV (φ : Nat → Addr) (n : Nat) (H : Hp) : D → V → Prop
  | .non, v => v = .non
  | .bl b, v => v = .bl b
  | .int i, v => v = .int i
  | .str x, v => v = .str x
  | .ref i, v => i < n ∧ v = .ref (φ i)
  | .tup ds, v => ∃ p vs, v = .ref p ∧ H p = some (.tup vs) ∧ RVs φ n H ds vs
def RVs (φ : Nat → Addr) (n : Nat) (H : Hp) : List D → List V → Prop
  | [], vs => vs = []
  | d :: ds, vs => ∃ v r, vs = v :: r ∧ RV φ n H d v ∧ RVs φ n H ds r
end
def RKs {κ : Type} (φ : Nat → Addr) (n : Nat) (H : Hp) : List (κ × D) → List (κ × V) → Prop
  | [], vs => vs = []
  | (k, d) :: ds, vs => ∃ v r, vs = (k, v) :: r ∧ RV φ n H d v ∧ RKs φ n H ds r
section
variable {φ φ' : Nat → Addr} {n m : Nat} {H H' : Hp}
theorem RVs.len : ∀ {ds : List D} {vs : List V}, RVs φ n H ds vs → vs.length = ds.length
  | [], vs, h => by simp only [RVs] at h; subst h; rfl
  | d :: ds, vs, h => by
    simp only [RVs] at h
    obtain ⟨v, r, rfl, _, h⟩ := h
    simp [RVs.len h]
theorem RVs.get : ∀ {ds : List D} {vs : List V} {i : Nat} {d : D}, RVs φ n H ds vs → ds[i]? = some d → ∃ v, vs[i]? = some v ∧ RV φ n H d v
  | [], vs, i, d, h, e => by simp at e
  | d :: ds, vs, 0, d', h, e => by
    simp only [RVs] at h
    obtain ⟨v, r, rfl, h1, h⟩ := h
    simp at e; subst e
    exact ⟨v, rfl, h1⟩
  | d :: ds, vs, i + 1, d', h, e => by
    simp only [RVs] at h
    obtain ⟨v, r, rfl, h1, h⟩ := h
    obtain ⟨v', e1, e2⟩ := RVs.get (i := i) (d := d') h (by simpa using e)
    exact ⟨v', by simpa using e1, e2⟩
theorem RVs.append : ∀ {ds es : List D} {vs us : List V}, RVs φ n H ds vs → RVs φ n H es us → RVs φ n H (ds ++ es) (vs ++ us)
  | [], es, vs, us, h, q => by simp only [RVs] at h; subst h; exact q
  | d :: ds, es, vs, us, h, q => by
    simp only [RVs] at h
    obtain ⟨v, r, rfl, h1, h⟩ := h
    simp only [List.cons_append, RVs]
    exact ⟨v, r ++ us, rfl, h1, RVs.append h q⟩
theorem RVs.set : ∀ {ds : List D} {vs : List V} (i : Nat) {d : D} {v : V}, RVs φ n H ds vs → RV φ n H d v → RVs φ n H (ds.set i d) (vs.set i v)
  | [], vs, i, d, v, h, q => by simp only [RVs] at h; subst h; simp [RVs]
  | d :: ds, vs, 0, d', v', h, q => by
    simp only [RVs] at h
    obtain ⟨v, r, rfl, h1, h⟩ := h
    simp only [List.set_cons_zero, RVs]
    exact ⟨v', r, rfl, q, h⟩
  | d :: ds, vs, i + 1, d', v', h, q => by
    simp only [RVs] at h
    obtain ⟨v, r, rfl, h1, h⟩ := h
    simp only [List.set_cons_succ, RVs]
    exact ⟨v, r.set i v', rfl, h1, RVs.set i h q⟩
theorem RVs.take : ∀ {ds : List D} {vs : List V} (i : Nat), RVs φ n H ds vs → RVs φ n H (ds.take i) (vs.take i)
  | [], vs, i, h => by simp only [RVs] at h; subst h; simp [RVs]
  | d :: ds, vs, 0, h => by simp [RVs]
  | d :: ds, vs, i + 1, h => by
    simp only [RVs] at h
    obtain ⟨v, r, rfl, h1, h⟩ := h
    simp only [List.take_succ_cons, RVs]
    exact ⟨v, r.take i, rfl, h1, RVs.take i h⟩
theorem RVs.drop : ∀ {ds : List D} {vs : List V} (i : Nat), RVs φ n H ds vs → RVs φ n H (ds.drop i) (vs.drop i)
  | [], vs, i, h => by simp only [RVs] at h; subst h; simp [RVs]
  | d :: ds, vs, 0, h => by simpa using h
  | d :: ds, vs, i + 1, h => by
    simp only [RVs] at h
    obtain ⟨v, r, rfl, h1, h⟩ := h
    simpa using RVs.drop i h
theorem RVs.nil_iff {vs : List V} : RVs φ n H [] vs ↔ vs = [] := by simp [RVs]
theorem RVs.one {d : D} {v : V} (h : RV φ n H d v) : RVs φ n H [d] [v] := by
  simp only [RVs]; exact ⟨v, [], rfl, h, rfl⟩
theorem RVs.cons {d : D} {v : V} {ds : List D} {vs : List V} (h : RV φ n H d v) (q : RVs φ n H ds vs) : RVs φ n H (d :: ds) (v :: vs) := by
  simp only [RVs]; exact ⟨v, vs, rfl, h, q⟩
theorem RVs.reverse : ∀ {ds : List D} {vs : List V}, RVs φ n H ds vs → RVs φ n H ds.reverse vs.reverse
  | [], vs, h => by simp only [RVs] at h; subst h; simp [RVs]
  | d :: ds, vs, h => by
    simp only [RVs] at h
    obtain ⟨v, r, rfl, h1, h⟩ := h
    simp only [List.reverse_cons]
    exact RVs.append (RVs.reverse h) (RVs.one h1)
/-- all values of a list of ints -/
theorem RVs.ints : ∀ {ns : List Int} {vs : List V}, RVs φ n H (ns.map D.int) vs → vs = ns.map V.int
  | [], vs, h => by simpa [RVs] using h
  | i :: ns, vs, h => by
    simp only [List.map_cons, RVs] at h
    obtain ⟨v, r, rfl, h1, h⟩ := h
    simp only [RV] at h1
    subst h1
    rw [RVs.ints h]; rfl
theorem RVs.of_ints : ∀ {ns : List Int}, RVs φ n H (ns.map D.int) (ns.map V.int)
  | [] => by simp [RVs]
  | i :: ns => by
    simp only [List.map_cons, RVs]
    exact ⟨_, _, rfl, by simp [RV], RVs.of_ints⟩
end

/-! ### objects, heaps -/
def RO (K : PySem.W.Frag) (κ : Nat → Addr) (φ : Nat → Addr) (n : Nat) (H : Hp) (a : Addr) : O → Prop
  | .lst ds => ∃ vs, H a = some (.lst vs) ∧ RVs φ n H ds vs
  | .fz ds => ∃ vs, ((∃ o, H a = some (.frz o (.lst vs))) ∨ ∃ (o : Obj) (its : Array Value) (n : Nat), K.lookup a = some o ∧ o.cls = .type "list" ∧ o.dict = none ∧ o.data = .seq its n ∧ its.size ≤ sizeLine ∧ Vals vs its.toList) ∧ RVs φ n H ds vs
  | .dic kvs => ∃ us, H a = some (.dK us) ∧ RKs φ n H kvs us
  | .dct kvs => ∃ us, H a = some (.dT us) ∧ RKs φ n H kvs us
  | .ins c fs => ∃ dx us, H a = some (.ins (κ c) dx us) ∧ RKs φ n H fs us
def Own (φ : Nat → Addr) (h : HP) (b : Addr) : Prop := ∃ i o, h[i]? = some o ∧ o.mu = true ∧ φ i = b
structure Sim (K : PySem.W.Frag) (κ : Nat → Addr) (φ : Nat → Addr) (h : HP) (H : Hp) : Prop where
  inj : ∀ i j o o', h[i]? = some o → h[j]? = some o' → o.mu = true → o'.mu = true → φ i = φ j → i = j
  obj : ∀ i o, h[i]? = some o → RO K κ φ h.length H (φ i) o
structure Step (φ : Nat → Addr) (h : HP) (H : Hp) (φ' : Nat → Addr) (h' : HP) (H' : Hp) : Prop where
  len : h.length ≤ h'.length
  agree : ∀ i, i < h.length → φ' i = φ i
  frame : ∀ b, H b ≠ none → ¬ Own φ h b → H' b = H b ∧ ¬ Own φ' h' b
def isMut : HO → Bool
  | .lst _ => true
  | .dK _ => true
  | .dT _ => true
  | .ins _ _ _ => true
  | _ => false
section
variable {K : PySem.W.Frag} {κ φ φ' φ2 : Nat → Addr} {h h' h2 : HP} {H H' H2 : Hp}
theorem Sim.own (S : Sim K κ φ h H) {b : Addr} (o : Own φ h b) : ∃ u, H b = some u ∧ isMut u = true := by
  obtain ⟨i, o, e, m, rfl⟩ := o
  have q := S.obj i o e
  cases o with
  | lst ds => obtain ⟨vs, e, _⟩ := q; exact ⟨_, e, rfl⟩
  | fz ds => cases m
  | dic ds => obtain ⟨vs, e, _⟩ := q; exact ⟨_, e, rfl⟩
  | dct ds => obtain ⟨vs, e, _⟩ := q; exact ⟨_, e, rfl⟩
  | ins c fs => obtain ⟨dx, vs, e, _⟩ := q; exact ⟨_, e, rfl⟩
theorem Step.refl : Step φ h H φ h H := ⟨Nat.le_refl _, fun _ _ => rfl, fun _ _ q => ⟨rfl, q⟩⟩
theorem Step.trans (a : Step φ h H φ' h' H') (b : Step φ' h' H' φ2 h2 H2) : Step φ h H φ2 h2 H2 :=
  ⟨Nat.le_trans a.len b.len, fun i hi => (b.agree i (Nat.lt_of_lt_of_le hi a.len)).trans (a.agree i hi), fun x e q => by
    obtain ⟨e1, q1⟩ := a.frame x e q
    obtain ⟨e2, q2⟩ := b.frame x (by rw [e1]; exact e) q1
    exact ⟨e2.trans e1, q2⟩⟩
theorem Sim.tup (S : Sim K κ φ h H) (st : Step φ h H φ' h' H') {p : Addr} {vs : List V} (e : H p = some (.tup vs)) : H' p = some (.tup vs) := by
  have n : ¬ Own φ h p := fun o => by
    obtain ⟨u, e', m⟩ := S.own o
    rw [e] at e'; cases e'; cases m
  rw [(st.frame p (by rw [e]; simp) n).1, e]
mutual
theorem RV.step (S : Sim K κ φ h H) (st : Step φ h H φ' h' H') : ∀ {d : D} {v : V}, RV φ h.length H d v → RV φ' h'.length H' d v
  | .non, v, q => by simpa only [RV] using q
  | .bl b, v, q => by simpa only [RV] using q
  | .int i, v, q => by simpa only [RV] using q
  | .str x, v, q => by simpa only [RV] using q
  | .ref i, v, q => by
    simp only [RV] at q ⊢
    exact ⟨Nat.lt_of_lt_of_le q.1 st.len, by rw [st.agree i q.1]; exact q.2⟩
  | .tup ds, v, q => by
    simp only [RV] at q ⊢
    obtain ⟨p, vs, e, e2, r⟩ := q
    exact ⟨p, vs, e, S.tup st e2, RVs.step S st r⟩
theorem RVs.step (S : Sim K κ φ h H) (st : Step φ h H φ' h' H') : ∀ {ds : List D} {vs : List V}, RVs φ h.length H ds vs → RVs φ' h'.length H' ds vs
  | [], vs, q => by simpa only [RVs] using q
  | d :: ds, vs, q => by
    simp only [RVs] at q ⊢
    obtain ⟨v, r, e, q1, q2⟩ := q
    exact ⟨v, r, e, RV.step S st q1, RVs.step S st q2⟩
end
theorem RKs.step {κ' : Type} (S : Sim K κ φ h H) (st : Step φ h H φ' h' H') : ∀ {ds : List (κ' × D)} {vs : List (κ' × V)}, RKs φ h.length H ds vs → RKs φ' h'.length H' ds vs
  | [], vs, q => by simpa only [RKs] using q
  | (k, d) :: ds, vs, q => by
    simp only [RKs] at q ⊢
    obtain ⟨v, r, e, q1, q2⟩ := q
    exact ⟨v, r, e, RV.step S st q1, RKs.step S st q2⟩
/-- objects other than the one changed -/
theorem RO.step (S : Sim K κ φ h H) (st : Step φ h H φ' h' H') {i : Nat} {o : O} (hi : h[i]? = some o) (e : H' (φ i) = H (φ i)) : RO K κ φ' h'.length H' (φ' i) o := by
  have q := S.obj i o hi
  have hl : i < h.length := (List.getElem?_eq_some_iff.mp hi).1
  rw [st.agree i hl]
  cases o with
  | lst ds => obtain ⟨vs, e1, r⟩ := q; exact ⟨vs, by rw [e]; exact e1, r.step S st⟩
  | fz ds =>
    obtain ⟨vs, e1, r⟩ := q
    refine ⟨vs, ?_, r.step S st⟩
    rcases e1 with ⟨o, e1⟩ | e1
    · exact .inl ⟨o, by rw [e]; exact e1⟩
    · exact .inr e1
  | dic ds => obtain ⟨vs, e1, r⟩ := q; exact ⟨vs, by rw [e]; exact e1, r.step S st⟩
  | dct ds => obtain ⟨vs, e1, r⟩ := q; exact ⟨vs, by rw [e]; exact e1, r.step S st⟩
  | ins c fs => obtain ⟨dx, vs, e1, r⟩ := q; exact ⟨dx, vs, by rw [e]; exact e1, r.step S st⟩
theorem RO.stepF (S : Sim K κ φ h H) (st : Step φ h H φ' h' H') {i : Nat} {ds : List D} (hi : h[i]? = some (.fz ds)) (e : ∀ o vs, H (φ i) = some (.frz o (.lst vs)) → H' (φ i) = some (.frz o (.lst vs))) : RO K κ φ' h'.length H' (φ' i) (.fz ds) := by
  obtain ⟨vs, e1, r⟩ := S.obj i _ hi
  have hl : i < h.length := (List.getElem?_eq_some_iff.mp hi).1
  rw [st.agree i hl]
  refine ⟨vs, ?_, r.step S st⟩
  rcases e1 with ⟨o, e1⟩ | e1
  · exact .inl ⟨o, e _ _ e1⟩
  · exact .inr e1
/-- a new thing that the evaluator does not name (a tuple, an instance's dict) -/
theorem step_temp (S : Sim K κ φ h H) {p : Addr} {u : HO} (hp : H p = none) : Step φ h H φ h (upd H p u) :=
  ⟨Nat.le_refl _, fun _ _ => rfl, fun b e q => ⟨upd_ne (fun z => by subst z; exact e hp), q⟩⟩
theorem Sim.temp (S : Sim K κ φ h H) {p : Addr} {u : HO} (hp : H p = none) : Sim K κ φ h (upd H p u) := by
  refine ⟨S.inj, fun i o hi => ?_⟩
  have st := step_temp S (u := u) hp
  by_cases m : o.mu = true
  · obtain ⟨u', e, _⟩ := S.own ⟨i, o, hi, m, rfl⟩
    exact RO.step S st hi (upd_ne (ne_of_none e hp))
  · cases o with
    | fz ds => exact RO.stepF S st hi fun o vs e => by rw [upd_ne (ne_of_none e hp)]; exact e
    | lst _ => exact absurd rfl m
    | dic _ => exact absurd rfl m
    | dct _ => exact absurd rfl m
    | ins _ _ => exact absurd rfl m
/-- a new object of the evaluator's -/
def ext (φ : Nat → Addr) (n : Nat) (p : Addr) : Nat → Addr := fun i => if i = n then p else φ i
theorem ext_at {n : Nat} {p : Addr} : ext φ n p n = p := by unfold ext; rw [if_pos rfl]
theorem ext_lt {n i : Nat} {p : Addr} (h : i < n) : ext φ n p i = φ i := by unfold ext; rw [if_neg (Nat.ne_of_lt h)]
theorem get_snoc {h : HP} {o o' : O} {i : Nat} (e : (h ++ [o])[i]? = some o') : (i < h.length ∧ h[i]? = some o') ∨ (i = h.length ∧ o' = o) := by
  by_cases hi : i < h.length
  · rw [List.getElem?_append_left hi] at e
    exact .inl ⟨hi, e⟩
  · rw [List.getElem?_append_right (by omega)] at e
    have : i - h.length = 0 := by
      cases q : i - h.length with
      | zero => rfl
      | succ k => rw [q] at e; simp at e
    rw [this] at e
    simp at e
    exact .inr ⟨by omega, e.symm⟩
theorem step_new (S : Sim K κ φ h H) {p : Addr} {o : O} {u : HO} (hp : H p = none) : Step φ h H (ext φ h.length p) (h ++ [o]) (upd H p u) := by
  refine ⟨by simp, fun i hi => ext_lt hi, fun b e q => ⟨upd_ne (fun z => by subst z; exact e hp), fun z => ?_⟩⟩
  obtain ⟨i, o', hi, m, rfl⟩ := z
  rcases get_snoc hi with ⟨hl, hi⟩ | ⟨rfl, rfl⟩
  · exact q ⟨i, o', hi, m, (ext_lt hl).symm⟩
  · rw [ext_at] at e; exact e hp
theorem Sim.new (S : Sim K κ φ h H) {p : Addr} {o : O} {u : HO} (hp : H p = none) (new : ∀ st : Step φ h H (ext φ h.length p) (h ++ [o]) (upd H p u), RO K κ (ext φ h.length p) (h ++ [o]).length (upd H p u) p o) : Sim K κ (ext φ h.length p) (h ++ [o]) (upd H p u) := by
  have st := step_new S (o := o) (u := u) hp
  refine ⟨fun i j oi oj hi hj mi mj e => ?_, fun i o' hi => ?_⟩
  · rcases get_snoc hi with ⟨li, hi2⟩ | ⟨ei, eoi⟩ <;> rcases get_snoc hj with ⟨lj, hj2⟩ | ⟨ej, eoj⟩
    · rw [ext_lt li, ext_lt lj] at e
      exact S.inj i j oi oj hi2 hj2 mi mj e
    · rw [ext_lt li, ej, ext_at] at e
      obtain ⟨u', e', _⟩ := S.own ⟨i, oi, hi2, mi, rfl⟩
      rw [e, hp] at e'; cases e'
    · rw [ext_lt lj, ei, ext_at] at e
      obtain ⟨u', e', _⟩ := S.own ⟨j, oj, hj2, mj, rfl⟩
      rw [← e, hp] at e'; cases e'
    · rw [ei, ej]
  · rcases get_snoc hi with ⟨li, hi⟩ | ⟨rfl, rfl⟩
    · by_cases m : o'.mu = true
      · obtain ⟨u', e, _⟩ := S.own ⟨i, o', hi, m, rfl⟩
        exact RO.step S st hi (upd_ne (ne_of_none e hp))
      · cases o' with
        | fz ds => exact RO.stepF S st hi fun o vs e => by rw [upd_ne (ne_of_none e hp)]; exact e
        | lst _ => exact absurd rfl m
        | dic _ => exact absurd rfl m
        | dct _ => exact absurd rfl m
        | ins _ _ => exact absurd rfl m
    · rw [ext_at]; exact new st
/-- an object of the evaluator's changed -/
theorem step_set (S : Sim K κ φ h H) {i : Nat} {o o' : O} {u : HO} (hi : h[i]? = some o) (m : o.mu = true) (m' : o'.mu = true) : Step φ h H φ (h.set i o') (upd H (φ i) u) := by
  refine ⟨by simp, fun _ _ => rfl, fun b e q => ⟨upd_ne (fun z => q ⟨i, o, hi, m, z.symm⟩), fun z => ?_⟩⟩
  obtain ⟨j, oj, hj, mj, rfl⟩ := z
  by_cases hij : i = j
  · subst hij; exact q ⟨i, o, hi, m, rfl⟩
  · rw [List.getElem?_set_ne hij] at hj
    exact q ⟨j, oj, hj, mj, rfl⟩
theorem Sim.set (S : Sim K κ φ h H) {i : Nat} {o o' : O} {u : HO} (hi : h[i]? = some o) (m : o.mu = true) (m' : o'.mu = true)
    (new : ∀ st : Step φ h H φ (h.set i o') (upd H (φ i) u), RO K κ φ (h.set i o').length (upd H (φ i) u) (φ i) o') : Sim K κ φ (h.set i o') (upd H (φ i) u) := by
  have st := step_set S (u := u) hi m m'
  have hl : i < h.length := (List.getElem?_eq_some_iff.mp hi).1
  have mu_of : ∀ (j : Nat) (oj : O), (h.set i o')[j]? = some oj → oj.mu = true → ∃ ob : O, h[j]? = some ob ∧ ob.mu = true := fun j oj hj mj => by
    by_cases hij : i = j
    · subst hij; exact ⟨o, hi, m⟩
    · rw [List.getElem?_set_ne hij] at hj; exact ⟨oj, hj, mj⟩
  refine ⟨fun j k oj ok hj hk mj mk e => ?_, fun j oj hj => ?_⟩
  · obtain ⟨o1, e1, m1⟩ := mu_of j oj hj mj
    obtain ⟨o2, e2, m2⟩ := mu_of k ok hk mk
    exact S.inj j k o1 o2 e1 e2 m1 m2 e
  · by_cases hij : i = j
    · subst hij
      rw [List.getElem?_set_self hl] at hj
      cases hj
      exact new st
    · rw [List.getElem?_set_ne hij] at hj
      by_cases mj : oj.mu = true
      · have ne : φ j ≠ φ i := fun e => hij (S.inj j i oj o hj hi mj m e).symm
        exact RO.step S st hj (upd_ne ne)
      · obtain ⟨u', e', mu'⟩ := S.own ⟨i, o, hi, m, rfl⟩
        cases oj with
        | fz ds =>
          refine RO.stepF S st hj fun ob vs e => ?_
          have ne : φ j ≠ φ i := fun z => by
            rw [z, e'] at e
            cases e
            cases mu'
          rw [upd_ne ne]
          exact e
        | lst _ => exact absurd rfl mj
        | dic _ => exact absurd rfl mj
        | dct _ => exact absurd rfl mj
        | ins _ _ => exact absurd rfl mj
end

/-! ### results -/
def Post (K : PySem.W.Frag) (κ φ : Nat → Addr) (h : HP) (H : Hp) (r : R D) (Q : VK) : Prop := match r with
  | .ok d h' => ∀ φ' H' v, Step φ h H φ' h' H' → Sim K κ φ' h' H' → RV φ' h'.length H' d v → Q v H'
  | _ => False
def PostA (K : PySem.W.Frag) (κ φ : Nat → Addr) (h : HP) (H : Hp) (r : R (List D)) (Q : List V → Hp → Prop) : Prop := match r with
  | .ok ds h' => ∀ φ' H' vs, Step φ h H φ' h' H' → Sim K κ φ' h' H' → RVs φ' h'.length H' ds vs → Q vs H'
  | _ => False
def PostT (K : PySem.W.Frag) (κ φ : Nat → Addr) (h : HP) (H : Hp) (r : R Bool) (Q : Bool → Hp → Prop) : Prop := match r with
  | .ok b h' => ∀ φ' H', Step φ h H φ' h' H' → Sim K κ φ' h' H' → Q b H'
  | _ => False
def PostO (K : PySem.W.Frag) (κ φ : Nat → Addr) (h : HP) (H : Hp) (r : R (Option Int)) (Q : Option Int → Hp → Prop) : Prop := match r with
  | .ok b h' => ∀ φ' H', Step φ h H φ' h' H' → Sim K κ φ' h' H' → Q b H'
  | _ => False
/-- the frame's slots -/
structure EnvR (φ : Nat → Addr) (n : Nat) (H : Hp) (e : Ev) (σ : L2.St) : Prop where
  len : e.length = σ.length
  get : ∀ (i : Nat) (d : D), e[i]? = some (some d) → ∃ v, σ[i]? = some (some v) ∧ RV φ n H d v
def PostS (K : PySem.W.Frag) (κ φ : Nat → Addr) (h : HP) (H : Hp) (r : R FL) (Dn : Ends) : Prop := match r with
  | .ok (.nx e) h' => ∀ φ' H' σ', Step φ h H φ' h' H' → Sim K κ φ' h' H' → EnvR φ' h'.length H' e σ' → Dn.nx σ' H'
  | .ok (.bk e) h' => ∀ φ' H' σ', Step φ h H φ' h' H' → Sim K κ φ' h' H' → EnvR φ' h'.length H' e σ' → Dn.bk σ' H'
  | .ok (.ct e) h' => ∀ φ' H' σ', Step φ h H φ' h' H' → Sim K κ φ' h' H' → EnvR φ' h'.length H' e σ' → Dn.ct σ' H'
  | .ok (.rt d) h' => ∀ φ' H' v, Step φ h H φ' h' H' → Sim K κ φ' h' H' → RV φ' h'.length H' d v → Dn.rt v H'
  | _ => False
section
variable {K : PySem.W.Frag} {κ φ φ' φ2 : Nat → Addr} {h h' h2 : HP} {H H' H2 : Hp}
theorem EnvR.step {e : Ev} {σ : L2.St} (r : EnvR φ h.length H e σ) (S : Sim K κ φ h H) (st : Step φ h H φ' h' H') : EnvR φ' h'.length H' e σ :=
  ⟨r.len, fun i d q => by obtain ⟨v, e, rv⟩ := r.get i d q; exact ⟨v, e, rv.step S st⟩⟩
theorem EnvR.set {n : Nat} {e : Ev} {σ : L2.St} (r : EnvR φ n H e σ) {d : D} {v : V} (q : RV φ n H d v) (i : Nat) : EnvR φ n H (e.set i (some d)) (σ.set i (some v)) := by
  refine ⟨by simpa using r.len, fun j d' e' => ?_⟩
  by_cases hij : i = j
  · subst hij
    by_cases hl : i < e.length
    · rw [List.getElem?_set_self hl] at e'
      cases e'
      exact ⟨v, by rw [List.getElem?_set_self (by rw [← r.len]; exact hl)], q⟩
    · rw [List.getElem?_eq_none (by simpa using hl)] at e'; cases e'
  · rw [List.getElem?_set_ne hij] at e'
    obtain ⟨v', e1, q1⟩ := r.get j d' e'
    exact ⟨v', by rw [List.getElem?_set_ne hij]; exact e1, q1⟩
theorem EnvR.wipe {n : Nat} {e : Ev} {σ : L2.St} (r : EnvR φ n H e σ) : ∀ vs : List Nat, EnvR φ n H (wipeE e vs) (wipe σ vs)
  | [] => r
  | i :: vs => by
    have q := EnvR.wipe r vs
    refine ⟨by simpa [wipeE, L2.wipe] using q.len, fun j d e' => ?_⟩
    show ∃ v, ((L2.wipe σ vs).set i none)[j]? = some (some v) ∧ _
    have e' : ((wipeE e vs).set i none)[j]? = some (some d) := e'
    by_cases hij : i = j
    · subst hij
      by_cases hl : i < (wipeE e vs).length
      · rw [List.getElem?_set_self hl] at e'; cases e'
      · rw [List.getElem?_eq_none (by simpa using hl)] at e'; cases e'
    · rw [List.getElem?_set_ne hij] at e' ⊢
      exact q.get j d e'
theorem Post.step {r : R D} {Q : VK} (p : Post K κ φ h H r Q) (st : Step φ h H φ' h' H') : Post K κ φ' h' H' r Q := by
  cases r with
  | ok d h2 => exact fun φ2 H2 v s2 => p φ2 H2 v (st.trans s2)
  | ex c fs h2 => exact p
  | no => exact p
theorem PostA.step {r : R (List D)} {Q : List V → Hp → Prop} (p : PostA K κ φ h H r Q) (st : Step φ h H φ' h' H') : PostA K κ φ' h' H' r Q := by
  cases r with
  | ok d h2 => exact fun φ2 H2 v s2 => p φ2 H2 v (st.trans s2)
  | ex c fs h2 => exact p
  | no => exact p
theorem PostT.step {r : R Bool} {Q : Bool → Hp → Prop} (p : PostT K κ φ h H r Q) (st : Step φ h H φ' h' H') : PostT K κ φ' h' H' r Q := by
  cases r with
  | ok d h2 => exact fun φ2 H2 s2 => p φ2 H2 (st.trans s2)
  | ex c fs h2 => exact p
  | no => exact p
theorem PostO.step {r : R (Option Int)} {Q : Option Int → Hp → Prop} (p : PostO K κ φ h H r Q) (st : Step φ h H φ' h' H') : PostO K κ φ' h' H' r Q := by
  cases r with
  | ok d h2 => exact fun φ2 H2 s2 => p φ2 H2 (st.trans s2)
  | ex c fs h2 => exact p
  | no => exact p
theorem PostS.step {r : R FL} {Dn : Ends} (p : PostS K κ φ h H r Dn) (st : Step φ h H φ' h' H') : PostS K κ φ' h' H' r Dn := by
  cases r with
  | ok f h2 => cases f <;> exact fun φ2 H2 v s2 => p φ2 H2 v (st.trans s2)
  | ex c fs h2 => exact p
  | no => exact p
theorem Post.of {d : D} {h' : HP} {Q : VK} (p : Post K κ φ h H (.ok d h') Q) {v : V} (st : Step φ h H φ' h' H') (S : Sim K κ φ' h' H') (r : RV φ' h'.length H' d v) : Q v H' := p φ' H' v st S r
theorem Post.of0 {d : D} {Q : VK} (p : Post K κ φ h H (.ok d h) Q) {v : V} (S : Sim K κ φ h H) (r : RV φ h.length H d v) : Q v H := p φ H v Step.refl S r
end
end Z
/-! Z2: the hand layer's judgements with the plain evaluator as reading: expressions. -/
namespace Z
open PySem L2 PyProof.Rows

section
variable {K : PySem.W.Frag} {κ φ φ' φ2 : Nat → Addr} {h h' h2 : HP} {H H' H2 : Hp}
theorem Post.bind {α : Type} {r : R α} {f : α → HP → R D} {Q : VK} (p : Post K κ φ h H (r.bind f) Q) : ∃ a h1, r = .ok a h1 ∧ Post K κ φ h H (f a h1) Q := by
  cases r with
  | ok a h1 => exact ⟨a, h1, rfl, p⟩
  | ex c fs h1 => exact False.elim p
  | no => exact False.elim p
theorem PostA.bind {α : Type} {r : R α} {f : α → HP → R (List D)} {Q : List V → Hp → Prop} (p : PostA K κ φ h H (r.bind f) Q) : ∃ a h1, r = .ok a h1 ∧ PostA K κ φ h H (f a h1) Q := by
  cases r with
  | ok a h1 => exact ⟨a, h1, rfl, p⟩
  | ex c fs h1 => exact False.elim p
  | no => exact False.elim p
theorem PostT.bind {α : Type} {r : R α} {f : α → HP → R Bool} {Q : Bool → Hp → Prop} (p : PostT K κ φ h H (r.bind f) Q) : ∃ a h1, r = .ok a h1 ∧ PostT K κ φ h H (f a h1) Q := by
  cases r with
  | ok a h1 => exact ⟨a, h1, rfl, p⟩
  | ex c fs h1 => exact False.elim p
  | no => exact False.elim p
theorem PostO.bind {α : Type} {r : R α} {f : α → HP → R (Option Int)} {Q : Option Int → Hp → Prop} (p : PostO K κ φ h H (r.bind f) Q) : ∃ a h1, r = .ok a h1 ∧ PostO K κ φ h H (f a h1) Q := by
  cases r with
  | ok a h1 => exact ⟨a, h1, rfl, p⟩
  | ex c fs h1 => exact False.elim p
  | no => exact False.elim p
theorem PostS.bind {α : Type} {r : R α} {f : α → HP → R FL} {Dn : Ends} (p : PostS K κ φ h H (r.bind f) Dn) : ∃ a h1, r = .ok a h1 ∧ PostS K κ φ h H (f a h1) Dn := by
  cases r with
  | ok a h1 => exact ⟨a, h1, rfl, p⟩
  | ex c fs h1 => exact False.elim p
  | no => exact False.elim p
end

/-! ### readings -/
def tD (K : PySem.W.Frag) (κ : Nat → Addr) (C : Ctx) (m : ME) : TE := fun σ H Q => ∃ φ e h, Sim K κ φ h H ∧ EnvR φ h.length H e σ ∧ Post K κ φ h H (m C e h) Q
def tQ (K : PySem.W.Frag) (κ : Nat → Addr) (C : Ctx) (m : MT) : TT := fun σ H Q => ∃ φ e h, Sim K κ φ h H ∧ EnvR φ h.length H e σ ∧ PostT K κ φ h H (m C e h) Q
def tA (K : PySem.W.Frag) (κ : Nat → Addr) (C : Ctx) (m : MA) : TA := fun σ H Q => ∃ φ e h, Sim K κ φ h H ∧ EnvR φ h.length H e σ ∧ PostA K κ φ h H (m C e h) Q
def tO (K : PySem.W.Frag) (κ : Nat → Addr) (C : Ctx) (m : MO) : TO := fun σ H Q => ∃ φ e h, Sim K κ φ h H ∧ EnvR φ h.length H e σ ∧ PostO K κ φ h H (m C e h) Q
def tS (K : PySem.W.Frag) (κ : Nat → Addr) (C : Ctx) (m : MS) : TS := fun Dn σ H => ∃ φ e h, Sim K κ φ h H ∧ EnvR φ h.length H e σ ∧ PostS K κ φ h H (m C e h) Dn

structure SE (X : Cx) (κ : Nat → Addr) (C : Ctx) (e : Expr) (m : ME) : Prop where
  pe : PE X e (tD X.K κ C m)
structure ST (X : Cx) (κ : Nat → Addr) (C : Ctx) (e : Expr) (m : MT) : Prop where
  pt : PT X e (tQ X.K κ C m)
/-- a chain of and, or -/
structure SW (X : Cx) (κ : Nat → Addr) (C : Ctx) (e : Expr) (m : MT) : Prop where
  pw : PW X e (tQ X.K κ C m)
structure SA (X : Cx) (κ : Nat → Addr) (C : Ctx) (es : List Expr) (m : MA) : Prop where
  pa : PA X es (tA X.K κ C m)
structure SO (X : Cx) (κ : Nat → Addr) (C : Ctx) (e : Option Expr) (m : MO) : Prop where
  po : PO X e (tO X.K κ C m)
structure SS (X : Cx) (κ : Nat → Addr) (C : Ctx) (s : Stmt) (m : MS) : Prop where
  ps : PS X s (tS X.K κ C m)
structure SSs (X : Cx) (κ : Nat → Addr) (C : Ctx) (s : List Stmt) (m : MS) : Prop where
  pss : PSs X s (tS X.K κ C m)

section
variable {K : PySem.W.Frag} {κ φ : Nat → Addr} {h h1 : HP} {H : Hp} {C : Ctx} {e : Ev} {σ : L2.St}
theorem td_of {m : ME} {d : D} {Q : VK} (S : Sim K κ φ h H) (r : EnvR φ h.length H e σ) (q : m C e h = .ok d h1)
    (k : ∀ φ1 H1 v, Step φ h H φ1 h1 H1 → Sim K κ φ1 h1 H1 → EnvR φ1 h1.length H1 e σ → RV φ1 h1.length H1 d v → Q v H1) : tD K κ C m σ H Q :=
  ⟨φ, e, h, S, r, by rw [q]; exact fun φ1 H1 v st S1 rv => k φ1 H1 v st S1 (r.step S st) rv⟩
theorem tq_of {m : MT} {b : Bool} {Q : Bool → Hp → Prop} (S : Sim K κ φ h H) (r : EnvR φ h.length H e σ) (q : m C e h = .ok b h1)
    (k : ∀ φ1 H1, Step φ h H φ1 h1 H1 → Sim K κ φ1 h1 H1 → EnvR φ1 h1.length H1 e σ → Q b H1) : tQ K κ C m σ H Q :=
  ⟨φ, e, h, S, r, by rw [q]; exact fun φ1 H1 st S1 => k φ1 H1 st S1 (r.step S st)⟩
theorem ta_of {m : MA} {ds : List D} {Q : List V → Hp → Prop} (S : Sim K κ φ h H) (r : EnvR φ h.length H e σ) (q : m C e h = .ok ds h1)
    (k : ∀ φ1 H1 vs, Step φ h H φ1 h1 H1 → Sim K κ φ1 h1 H1 → EnvR φ1 h1.length H1 e σ → RVs φ1 h1.length H1 ds vs → Q vs H1) : tA K κ C m σ H Q :=
  ⟨φ, e, h, S, r, by rw [q]; exact fun φ1 H1 v st S1 rv => k φ1 H1 v st S1 (r.step S st) rv⟩
theorem to_of {m : MO} {b : Option Int} {Q : Option Int → Hp → Prop} (S : Sim K κ φ h H) (r : EnvR φ h.length H e σ) (q : m C e h = .ok b h1)
    (k : ∀ φ1 H1, Step φ h H φ1 h1 H1 → Sim K κ φ1 h1 H1 → EnvR φ1 h1.length H1 e σ → Q b H1) : tO K κ C m σ H Q :=
  ⟨φ, e, h, S, r, by rw [q]; exact fun φ1 H1 st S1 => k φ1 H1 st S1 (r.step S st)⟩
theorem ts_of {m : MS} {Dn : Ends} (S : Sim K κ φ h H) (r : EnvR φ h.length H e σ) (p : PostS K κ φ h H (m C e h) Dn) : tS K κ C m Dn σ H := ⟨φ, e, h, S, r, p⟩
end

section
variable {X : Cx} {κ : Nat → Addr} {C : Ctx} {a b : Expr} {ma mb : ME} {pos : Pos}
theorem SE.mk' {e : Expr} {m : ME} {t : TE} (hp : PE X e t) (k : ∀ φ ev h σ H Q, Sim X.K κ φ h H → EnvR φ h.length H ev σ → Post X.K κ φ h H (m C ev h) Q → t σ H Q) : SE X κ C e m :=
  ⟨⟨fun pins s σ H Q I ⟨φ, ev, h, S, r, p⟩ => hp.run pins s σ H Q I (k φ ev h σ H Q S r p)⟩⟩
theorem ST.mk' {e : Expr} {m : MT} {t : TT} (hp : PT X e t) (k : ∀ φ ev h σ H Q, Sim X.K κ φ h H → EnvR φ h.length H ev σ → PostT X.K κ φ h H (m C ev h) Q → t σ H Q) : ST X κ C e m :=
  ⟨⟨fun pins s σ H Q I ⟨φ, ev, h, S, r, p⟩ => hp.run pins s σ H Q I (k φ ev h σ H Q S r p)⟩⟩
theorem SW.mk' {e : Expr} {m : MT} {t : TT} (hp : PW X e t) (k : ∀ φ ev h σ H Q, Sim X.K κ φ h H → EnvR φ h.length H ev σ → PostT X.K κ φ h H (m C ev h) Q → t σ H Q) : SW X κ C e m :=
  ⟨⟨fun whole pins s σ H Q I ⟨φ, ev, h, S, r, p⟩ => hp.run whole pins s σ H Q I (k φ ev h σ H Q S r p)⟩⟩
theorem SA.mk' {es : List Expr} {m : MA} {t : TA} (hp : PA X es t) (k : ∀ φ ev h σ H Q, Sim X.K κ φ h H → EnvR φ h.length H ev σ → PostA X.K κ φ h H (m C ev h) Q → t σ H Q) : SA X κ C es m :=
  ⟨⟨fun pos pins s σ H Q I ⟨φ, ev, h, S, r, p⟩ => hp.run pos pins s σ H Q I (k φ ev h σ H Q S r p)⟩⟩
theorem SO.mk' {e : Option Expr} {m : MO} {t : TO} (hp : PO X e t) (k : ∀ φ ev h σ H Q, Sim X.K κ φ h H → EnvR φ h.length H ev σ → PostO X.K κ φ h H (m C ev h) Q → t σ H Q) : SO X κ C e m := by
  constructor
  constructor
  intro pins s σ H Q I ⟨φ, ev, h, S, r, p⟩
  exact hp.run pins s σ H Q I (k φ ev h σ H Q S r p)
theorem SS.mk' {st : Stmt} {m : MS} {t : TS} (hp : PS X st t) (k : ∀ φ ev h σ H Dn, Sim X.K κ φ h H → EnvR φ h.length H ev σ → PostS X.K κ φ h H (m C ev h) Dn → t Dn σ H) : SS X κ C st m :=
  ⟨⟨fun pins s σ H Dn I ⟨φ, ev, h, S, r, p⟩ => hp.run pins s σ H Dn I (k φ ev h σ H Dn S r p)⟩⟩
theorem SSs.mk' {st : List Stmt} {m : MS} {t : TS} (hp : PSs X st t) (k : ∀ φ ev h σ H Dn, Sim X.K κ φ h H → EnvR φ h.length H ev σ → PostS X.K κ φ h H (m C ev h) Dn → t Dn σ H) : SSs X κ C st m :=
  ⟨⟨fun pins s σ H Dn I ⟨φ, ev, h, S, r, p⟩ => hp.run pins s σ H Dn I (k φ ev h σ H Dn S r p)⟩⟩

/-! ### names, constants -/
theorem se_v (i : Nat) {x : Str} {pos : Pos} (hN : X.N[i]? = some x := by rfl) (hv : Vis X.env.scope x := by first | exact Or.inl rfl | exact Or.inr (Or.inl rfl) | exact Or.inr (Or.inr rfl)) (hd : (x == ("__debug__" : Str)) = false := by decide)
    (hcd : (x == ("__classdict__" : Str)) = false := by decide) : SE X κ C (.Name x pos) (eV i) :=
  SE.mk' (pe_var hN hv hd hcd) fun φ ev h σ H Q S r p => by
    unfold eV at p
    split at p
    · rename_i d e
      obtain ⟨v, e1, q⟩ := r.get i d e
      exact ⟨v, e1, p.of0 S q⟩
    · exact False.elim p
theorem se_int {i : Int} {j : Nat} {pos : Pos} : SE X κ C (.Constant (.int i) j pos) (eC (.int i)) := SE.mk' pe_int fun φ ev h σ H Q S r p => p.of0 S (by simp [RV])
theorem se_bl {b : Bool} {j : Nat} {pos : Pos} : SE X κ C (.Constant (.bool b) j pos) (eC (.bl b)) := SE.mk' pe_bl fun φ ev h σ H Q S r p => p.of0 S (by simp [RV])
theorem se_non {j : Nat} {pos : Pos} : SE X κ C (.Constant .none j pos) (eC .non) := SE.mk' pe_non fun φ ev h σ H Q S r p => p.of0 S (by simp [RV])
theorem se_str {x : Str} {j : Nat} {pos : Pos} : SE X κ C (.Constant (.str x) j pos) (eC (.str x)) := SE.mk' pe_str fun φ ev h σ H Q S r p => p.of0 S (by simp [RV])
theorem se_gi {x : Str} {i : Int} {pos : Pos} {t : Tok} (hm : X.mg x = some (.int i t)) (hg : Gl X x := by rfl) (hd : (x == ("__debug__" : Str)) = false := by decide) : SE X κ C (.Name x pos) (eC (.int i)) :=
  SE.mk' (pe_glob (v := .int i) hg hm ⟨_, rfl⟩ hd) fun φ ev h σ H Q S r p => p.of0 S (by simp [RV])
theorem se_gs {x z : Str} {pos : Pos} {t : Tok} (hm : X.mg x = some (.str z t)) (hg : Gl X x := by rfl) (hd : (x == ("__debug__" : Str)) = false := by decide) : SE X κ C (.Name x pos) (eC (.str z)) :=
  SE.mk' (pe_glob (v := .str z) hg hm ⟨_, rfl⟩ hd) fun φ ev h σ H Q S r p => p.of0 S (by simp [RV])

/-! ### operators -/
def rD (K : PySem.W.Frag) (κ : Nat → Addr) (op : D → D → HP → R D) : R2 := fun x y H Q => ∃ φ h dx dy, Sim K κ φ h H ∧ RV φ h.length H dx x ∧ RV φ h.length H dy y ∧ Post K κ φ h H (op dx dy h) Q
def rDU (K : PySem.W.Frag) (κ : Nat → Addr) (op : D → HP → R D) : V → Hp → VK → Prop := fun x H Q => ∃ φ h dx, Sim K κ φ h H ∧ RV φ h.length H dx x ∧ Post K κ φ h H (op dx h) Q
theorem se_op {o : Operator} {op : D → D → HP → R D} (ho : OpR X (binaryOp o) (rD X.K κ op)) (ha : SE X κ C a ma) (hb : SE X κ C b mb) : SE X κ C (.BinOp a o b pos) (eOp op ma mb) :=
  SE.mk' (pe_op ho ha.pe hb.pe) fun φ ev h σ H Q S r p => by
    obtain ⟨dx, h1, e1, p⟩ := Post.bind p
    obtain ⟨dy, h2, e2, p⟩ := Post.bind p
    exact td_of S r e1 fun φ1 H1 v st S1 r1 q1 => td_of S1 r1 e2 fun φ2 H2 w st2 S2 r2 q2 => ⟨φ2, h2, dx, dy, S2, q1.step S1 st2, q2, p.step (st.trans st2)⟩
theorem se_un {o : UnaryOp} {op : D → HP → R D} (ho : UnR X (unaryOp o) (rDU X.K κ op)) (ha : SE X κ C a ma) : SE X κ C (.UnaryOp o a pos) (eUn op ma) :=
  SE.mk' (pe_un ho ha.pe) fun φ ev h σ H Q S r p => by
    obtain ⟨dx, h1, e1, p⟩ := Post.bind p
    exact td_of S r e1 fun φ1 H1 v st S1 r1 q1 => ⟨φ1, h1, dx, S1, q1, p.step st⟩
theorem se_cmp {o : CmpOp} {op : D → D → HP → R D} (ho : OpR X (compareOp o) (rD X.K κ op)) (ha : SE X κ C a ma) (hb : SE X κ C b mb) (hm : behindInMarks o b = false) : SE X κ C (.Compare a [o] [b] pos) (eOp op ma mb) :=
  SE.mk' (pe_cmpR ho ha.pe hb.pe hm) fun φ ev h σ H Q S r p => by
    obtain ⟨dx, h1, e1, p⟩ := Post.bind p
    obtain ⟨dy, h2, e2, p⟩ := Post.bind p
    exact td_of S r e1 fun φ1 H1 v st S1 r1 q1 => td_of S1 r1 e2 fun φ2 H2 w st2 S2 r2 q2 => ⟨φ2, h2, dx, dy, S2, q1.step S1 st2, q2, p.step (st.trans st2)⟩
end

/-! ### what the operators do -/
def opAdd : D → D → HP → R D := fun x y h => match x, y with
  | .int i, .int j => .ok (.int (i + j)) h
  | .str a, .str b => if a.length + b.length ≤ sizeLine then .ok (.str (a ++ b)) h else .no
  | .tup a, .tup b => if a.length + b.length ≤ sizeLine then .ok (.tup (a ++ b)) h else .no
  | .ref i, .ref j => match h[i]?, h[j]? with
    | some (.lst a), some (.lst b) => if a.length + b.length ≤ sizeLine then .ok (.ref h.length) (h ++ [.lst (a ++ b)]) else .no
    | _, _ => .no
  | _, _ => .no
def opSub : D → D → HP → R D := fun x y h => match x, y with
  | .int i, .int j => .ok (.int (i - j)) h
  | _, _ => .no
def mulOk (i j : Int) : Bool := decide (i.natAbs.log2 + j.natAbs.log2 < 100000000)
def opMul : D → D → HP → R D := fun x y h => match x, y with
  | .int i, .int j => if mulOk i j = true then .ok (.int (i * j)) h else .no
  | .ref i, .int k => match h[i]? with
    | some (.lst a) => if -(2 ^ 63) ≤ k ∧ k < 2 ^ 63 ∧ a.length * k.toNat ≤ sizeLine then .ok (.ref h.length) (h ++ [.lst (List.replicate k.toNat a).flatten]) else .no
    | _ => .no
  | _, _ => .no
def divOk (j : Int) : Bool := decide (j ≠ 0) && decide (j.natAbs.log2 < 9000)
def opDiv : D → D → HP → R D := fun x y h => match x, y with
  | .int i, .int j => if divOk j = true then .ok (.int (i.fdiv j)) h else .no
  | _, _ => .no
def opMod : D → D → HP → R D := fun x y h => match x, y with
  | .int i, .int j => if j ≠ 0 then .ok (.int (i.fmod j)) h else .no
  | _, _ => .no
def opPow : D → D → HP → R D := fun x y h => match x, y with
  | .int i, .int j => if 0 ≤ j ∧ j ≤ 1000000 ∧ i.natAbs < 2 ^ 64 then .ok (.int (i ^ j.toNat)) h else .no
  | _, _ => .no
def opNeg : D → HP → R D := fun x h => match x with
  | .int i => .ok (.int (-i)) h
  | _ => .no
def opLt : D → D → HP → R D := fun x y h => match x, y with
  | .int i, .int j => .ok (.bl (decide (i < j))) h
  | _, _ => .no
def opLe : D → D → HP → R D := fun x y h => match x, y with
  | .int i, .int j => .ok (.bl (decide (i ≤ j))) h
  | _, _ => .no
def opGt : D → D → HP → R D := fun x y h => match x, y with
  | .int i, .int j => .ok (.bl (decide (j < i))) h
  | _, _ => .no
def opGe : D → D → HP → R D := fun x y h => match x, y with
  | .int i, .int j => .ok (.bl (decide (j ≤ i))) h
  | _, _ => .no
def isNon : D → Bool
  | .non => true
  | _ => false
def opIsN : D → D → HP → R D := fun x y h => match y with
  | .non => .ok (.bl (isNon x)) h
  | _ => .no
def opNotN : D → D → HP → R D := fun x y h => match y with
  | .non => .ok (.bl (!isNon x)) h
  | _ => .no

section
variable {X : Cx} {κ : Nat → Addr}
theorem RV.int_iff {φ : Nat → Addr} {n : Nat} {H : Hp} {i : Int} {v : V} : RV φ n H (.int i) v ↔ v = .int i := by simp [RV]
theorem RV.bl_iff {φ : Nat → Addr} {n : Nat} {H : Hp} {i : Bool} {v : V} : RV φ n H (.bl i) v ↔ v = .bl i := by simp [RV]
theorem RV.str_iff {φ : Nat → Addr} {n : Nat} {H : Hp} {i : Str} {v : V} : RV φ n H (.str i) v ↔ v = .str i := by simp [RV]
theorem RV.non_iff {φ : Nat → Addr} {n : Nat} {H : Hp} {v : V} : RV φ n H .non v ↔ v = .non := by simp [RV]
theorem RV.ref_iff {φ : Nat → Addr} {n i : Nat} {H : Hp} {v : V} : RV φ n H (.ref i) v ↔ i < n ∧ v = .ref (φ i) := by simp [RV]
theorem RV.tup_iff {φ : Nat → Addr} {n : Nat} {H : Hp} {ds : List D} {v : V} : RV φ n H (.tup ds) v ↔ ∃ p vs, v = .ref p ∧ H p = some (.tup vs) ∧ RVs φ n H ds vs := by simp [RV]
/-- a new list is laid -/
theorem Post.newL {K : PySem.W.Frag} {φ : Nat → Addr} {h : HP} {H : Hp} {ds : List D} {vs : List V} {Q : VK} {p : Addr} (q : Post K κ φ h H (.ok (.ref h.length) (h ++ [.lst ds])) Q) (S : Sim K κ φ h H) (hp : H p = none) (r : RVs φ h.length H ds vs) : Q (.ref p) (upd H p (.lst vs)) := by
  have st := step_new S (o := .lst ds) (u := .lst vs) hp
  exact q _ _ _ st (S.new hp fun st => ⟨vs, upd_same, r.step S st⟩) (RV.ref_iff.mpr ⟨by simp, by rw [ext_at]⟩)
/-- a new tuple is laid -/
theorem Post.newT {K : PySem.W.Frag} {φ : Nat → Addr} {h : HP} {H : Hp} {ds : List D} {vs : List V} {Q : VK} {p : Addr} (q : Post K κ φ h H (.ok (.tup ds) h) Q) (S : Sim K κ φ h H) (hp : H p = none) (r : RVs φ h.length H ds vs) : Q (.ref p) (upd H p (.tup vs)) := by
  have st := step_temp S (u := .tup vs) hp
  exact q _ _ _ st (S.temp hp) (RV.tup_iff.mpr ⟨p, vs, rfl, upd_same, r.step S st⟩)
theorem Sim.lst {K : PySem.W.Frag} {φ : Nat → Addr} {h : HP} {H : Hp} {i : Nat} {ds : List D} (S : Sim K κ φ h H) (e : h[i]? = some (.lst ds)) : ∃ vs, H (φ i) = some (.lst vs) ∧ RVs φ h.length H ds vs := S.obj i _ e
theorem Sim.dic {K : PySem.W.Frag} {φ : Nat → Addr} {h : HP} {H : Hp} {i : Nat} {ds : List (Key × D)} (S : Sim K κ φ h H) (e : h[i]? = some (.dic ds)) : ∃ vs, H (φ i) = some (.dK vs) ∧ RKs φ h.length H ds vs := S.obj i _ e
theorem Sim.dct {K : PySem.W.Frag} {φ : Nat → Addr} {h : HP} {H : Hp} {i : Nat} {ds : List (List Key × D)} (S : Sim K κ φ h H) (e : h[i]? = some (.dct ds)) : ∃ vs, H (φ i) = some (.dT vs) ∧ RKs φ h.length H ds vs := S.obj i _ e
theorem Sim.ins {K : PySem.W.Frag} {φ : Nat → Addr} {h : HP} {H : Hp} {i c : Nat} {ds : List (Str × D)} (S : Sim K κ φ h H) (e : h[i]? = some (.ins c ds)) : ∃ dx vs, H (φ i) = some (.ins (κ c) dx vs) ∧ RKs φ h.length H ds vs := S.obj i _ e
theorem Sim.isL {K : PySem.W.Frag} {φ : Nat → Addr} {h : HP} {H : Hp} {i : Nat} {ds : List D} (S : Sim K κ φ h H) (e : isL i h = some ds) : ∃ vs, SqL K H (φ i) vs ∧ RVs φ h.length H ds vs := by
  unfold Z.isL at e
  split at e
  · rename_i xs e1
    cases e
    obtain ⟨vs, e2, r⟩ := S.lst e1
    exact ⟨vs, SqL.of e2, r⟩
  · rename_i xs e1
    cases e
    obtain ⟨vs, e2, r⟩ := S.obj i _ e1
    refine ⟨vs, ?_, r⟩
    rcases e2 with ⟨o, e2⟩ | e2
    · exact .inl (.inr ⟨o, e2⟩)
    · exact .inr e2
  · cases e
theorem od_add : OpR X (binaryOp .Add) (rD X.K κ opAdd) := by
  intro pins s σ H x y v u Q I rx ry ⟨φ, h, dx, dy, S, qx, qy, p⟩
  unfold opAdd at p
  split at p
  · rw [RV.int_iff] at qx qy
    exact op_add pins s σ H _ _ v u Q I rx ry ⟨_, _, qx, qy, p.of0 S (RV.int_iff.mpr rfl)⟩
  · split at p
    · rename_i hz
      rw [RV.str_iff] at qx qy
      exact op_add_str pins s σ H _ _ v u Q I rx ry ⟨_, _, qx, qy, hz, p.of0 S (RV.str_iff.mpr rfl)⟩
    · exact False.elim p
  · split at p
    · rename_i hz
      rw [RV.tup_iff] at qx qy
      obtain ⟨a, vs, rfl, ha, ra⟩ := qx
      obtain ⟨b, us, rfl, hb, rb⟩ := qy
      have la := ra.len
      have lb := rb.len
      refine op_catA pins s σ H _ _ v u Q I rx ry ⟨a, b, vs, us, rfl, rfl, SqT.of ha, SqT.of hb, by omega, fun z => ?_, fun _ z => ?_, fun _ _ q hq => ?_⟩
      · subst z
        refine p.of0 S (RV.tup_iff.mpr ⟨b, us, rfl, hb, ?_⟩)
        have : RVs φ h.length H _ ([] ++ us) := ra.append rb
        simpa using this
      · subst z
        refine p.of0 S (RV.tup_iff.mpr ⟨a, vs, rfl, ha, ?_⟩)
        have : RVs φ h.length H _ (vs ++ []) := ra.append rb
        simpa using this
      · exact p.newT S hq (ra.append rb)
    · exact False.elim p
  · rw [RV.ref_iff] at qx qy
    split at p
    · rename_i e1 e2
      split at p
      · rename_i hz
        obtain ⟨vs, ha, ra⟩ := S.lst e1
        obtain ⟨us, hb, rb⟩ := S.lst e2
        have la := ra.len
        have lb := rb.len
        exact op_cat pins s σ H _ _ v u Q I rx ry ⟨_, _, vs, us, qx.2, qy.2, ha, hb, by omega, fun q hq => p.newL S hq (ra.append rb)⟩
      · exact False.elim p
    · exact False.elim p
  · exact False.elim p
theorem od_sub : OpR X (binaryOp .Sub) (rD X.K κ opSub) := by
  intro pins s σ H x y v u Q I rx ry ⟨φ, h, dx, dy, S, qx, qy, p⟩
  unfold opSub at p
  split at p
  · rw [RV.int_iff] at qx qy
    exact op_sub pins s σ H _ _ v u Q I rx ry ⟨_, _, qx, qy, p.of0 S (RV.int_iff.mpr rfl)⟩
  · exact False.elim p
theorem mul_ok {i j : Int} (h : mulOk i j = true) : IntMulOk i j := by
  have b : ∀ x : Int, Builtin.Int.intBits x ≤ x.natAbs.log2 + 1 := fun x => by
    unfold Builtin.Int.intBits
    split <;> omega
  have h1 := b i
  have h2 := b j
  have h3 : i.natAbs.log2 + j.natAbs.log2 < 100000000 := of_decide_eq_true h
  have e : bitsLine = 134217728 := by decide
  unfold IntMulOk
  intro z
  rw [Bool.and_eq_true] at z
  have z2 := z.2
  unfold Builtin.Int.intTooBig at z2
  have z3 := of_decide_eq_true z2
  rw [e] at z3
  omega
theorem RVs.flat {φ : Nat → Addr} {n : Nat} {H : Hp} {ds : List D} {vs : List V} (r : RVs φ n H ds vs) : ∀ k : Nat, RVs φ n H (List.replicate k ds).flatten (List.replicate k vs).flatten
  | 0 => by simp [RVs]
  | k + 1 => by
    simp only [List.replicate_succ, List.flatten_cons]
    exact r.append (RVs.flat r k)
theorem od_mul : OpR X (binaryOp .Mult) (rD X.K κ opMul) := by
  intro pins s σ H x y v u Q I rx ry ⟨φ, h, dx, dy, S, qx, qy, p⟩
  unfold opMul at p
  split at p
  · split at p
    · rename_i hz
      rw [RV.int_iff] at qx qy
      exact (opI (C := fun i j => mulOk i j = true) (g := fun i j => i * j) fun _ _ _ _ _ _ _ hc q => mul_int q (mul_ok hc)) pins s σ H _ _ v u Q I rx ry ⟨_, _, qx, qy, hz, p.of0 S (RV.int_iff.mpr rfl)⟩
    · exact False.elim p
  · split at p
    · rename_i e1
      split at p
      · rename_i hz
        rw [RV.ref_iff] at qx
        rw [RV.int_iff] at qy
        obtain ⟨vs, ha, ra⟩ := S.lst e1
        have la := ra.len
        exact op_rep pins s σ H _ _ v u Q I rx ry ⟨_, _, vs, qx.2, qy, ha, hz.1, hz.2.1, by rw [la]; exact hz.2.2, fun q hq => p.newL S hq (ra.flat _)⟩
      · exact False.elim p
    · exact False.elim p
  · exact False.elim p
theorem od_div : OpR X (binaryOp .FloorDiv) (rD X.K κ opDiv) := by
  intro pins s σ H x y v u Q I rx ry ⟨φ, h, dx, dy, S, qx, qy, p⟩
  unfold opDiv at p
  split at p
  · split at p
    · rename_i hz
      rw [RV.int_iff] at qx qy
      exact (opI (C := fun _ j => divOk j = true) (g := fun i j => i.fdiv j) fun _ _ _ _ _ _ _ hc q => by
        unfold divOk at hc
        rw [Bool.and_eq_true] at hc
        exact floordiv_int (of_decide_eq_true hc.1) q (.inl (PyProof.noPylong_of_log2 (of_decide_eq_true hc.2)))) pins s σ H _ _ v u Q I rx ry ⟨_, _, qx, qy, hz, p.of0 S (RV.int_iff.mpr rfl)⟩
    · exact False.elim p
  · exact False.elim p
theorem od_mod : OpR X (binaryOp .Mod) (rD X.K κ opMod) := by
  intro pins s σ H x y v u Q I rx ry ⟨φ, h, dx, dy, S, qx, qy, p⟩
  unfold opMod at p
  split at p
  · split at p
    · rename_i hz
      rw [RV.int_iff] at qx qy
      exact op_modN pins s σ H _ _ v u Q I rx ry ⟨_, _, qx, qy, hz, p.of0 S (RV.int_iff.mpr rfl)⟩
    · exact False.elim p
  · exact False.elim p
theorem od_pow : OpR X (binaryOp .Pow) (rD X.K κ opPow) := by
  intro pins s σ H x y v u Q I rx ry ⟨φ, h, dx, dy, S, qx, qy, p⟩
  unfold opPow at p
  split at p
  · split at p
    · rename_i hz
      rw [RV.int_iff] at qx qy
      exact op_pow pins s σ H _ _ v u Q I rx ry ⟨_, _, qx, qy, hz, p.of0 S (RV.int_iff.mpr rfl)⟩
    · exact False.elim p
  · exact False.elim p
theorem od_neg : UnR X (unaryOp .USub) (rDU X.K κ opNeg) := by
  intro pins s σ H x v Q I rx ⟨φ, h, dx, S, qx, p⟩
  unfold opNeg at p
  split at p
  · rw [RV.int_iff] at qx
    exact un_neg pins s σ H _ v Q I rx ⟨_, qx, p.of0 S (RV.int_iff.mpr rfl)⟩
  · exact False.elim p
theorem od_lt : OpR X (compareOp .Lt) (rD X.K κ opLt) := by
  intro pins s σ H x y v u Q I rx ry ⟨φ, h, dx, dy, S, qx, qy, p⟩
  unfold opLt at p
  split at p
  · rw [RV.int_iff] at qx qy
    exact op_lt pins s σ H _ _ v u Q I rx ry ⟨_, _, qx, qy, p.of0 S (RV.bl_iff.mpr rfl)⟩
  · exact False.elim p
theorem od_le : OpR X (compareOp .LtE) (rD X.K κ opLe) := by
  intro pins s σ H x y v u Q I rx ry ⟨φ, h, dx, dy, S, qx, qy, p⟩
  unfold opLe at p
  split at p
  · rw [RV.int_iff] at qx qy
    exact op_le pins s σ H _ _ v u Q I rx ry ⟨_, _, qx, qy, p.of0 S (RV.bl_iff.mpr rfl)⟩
  · exact False.elim p
theorem od_gt : OpR X (compareOp .Gt) (rD X.K κ opGt) := by
  intro pins s σ H x y v u Q I rx ry ⟨φ, h, dx, dy, S, qx, qy, p⟩
  unfold opGt at p
  split at p
  · rw [RV.int_iff] at qx qy
    exact op_gt pins s σ H _ _ v u Q I rx ry ⟨_, _, qx, qy, p.of0 S (RV.bl_iff.mpr rfl)⟩
  · exact False.elim p
theorem od_ge : OpR X (compareOp .GtE) (rD X.K κ opGe) := by
  intro pins s σ H x y v u Q I rx ry ⟨φ, h, dx, dy, S, qx, qy, p⟩
  unfold opGe at p
  split at p
  · rw [RV.int_iff] at qx qy
    exact op_ge pins s σ H _ _ v u Q I rx ry ⟨_, _, qx, qy, p.of0 S (RV.bl_iff.mpr rfl)⟩
  · exact False.elim p
theorem isNon_eq {φ : Nat → Addr} {n : Nat} {H : Hp} {d : D} {v : V} (q : RV φ n H d v) : decide (v = .non) = isNon d := by
  cases d with
  | non => rw [RV.non_iff] at q; subst q; rfl
  | bl b => rw [RV.bl_iff] at q; subst q; rfl
  | int b => rw [RV.int_iff] at q; subst q; rfl
  | str b => rw [RV.str_iff] at q; subst q; rfl
  | ref b => rw [RV.ref_iff] at q; rw [q.2]; rfl
  | tup b => rw [RV.tup_iff] at q; obtain ⟨p, vs, rfl, _⟩ := q; rfl
theorem od_isN : OpR X (compareOp .Is) (rD X.K κ opIsN) := by
  intro pins s σ H x y v u Q I rx ry ⟨φ, h, dx, dy, S, qx, qy, p⟩
  unfold opIsN at p
  split at p
  · rw [RV.non_iff] at qy
    exact op_isN pins s σ H _ _ v u Q I rx ry ⟨qy, p.of0 S (RV.bl_iff.mpr (by rw [isNon_eq qx]))⟩
  · exact False.elim p
theorem od_notN : OpR X (compareOp .IsNot) (rD X.K κ opNotN) := by
  intro pins s σ H x y v u Q I rx ry ⟨φ, h, dx, dy, S, qx, qy, p⟩
  unfold opNotN at p
  split at p
  · rw [RV.non_iff] at qy
    exact op_notN pins s σ H _ _ v u Q I rx ry ⟨qy, p.of0 S (RV.bl_iff.mpr (by rw [isNon_eq qx]))⟩
  · exact False.elim p
end
end Z
/-! Z3: equality, tests, displays, subscripts, calls. -/
namespace Z
open PySem L2 PyProof.Rows

/-! ### data of any depth -/
def seqO {α : Type} : List (Option α) → Option (List α)
  | [] => some []
  | none :: _ => none
  | some a :: r => (seqO r).map fun l => a :: l
def toPy : Nat → HP → D → Option PyData
  | _, _, .non => some .none
  | _, _, .bl b => some (.bool b)
  | _, _, .int i => some (.int i)
  | _, _, .str x => some (.str x)
  | 0, _, _ => none
  | n + 1, h, .tup ds => (seqO (ds.map (toPy n h))).map .tuple
  | n + 1, h, .ref i => match isL i h with
    | some ds => (seqO (ds.map (toPy n h))).map .list
    | none => none
def deepN : Nat := 70
def eqFlat : D → D → Option Bool
  | .int i, .int j => some (decide (i = j))
  | .str a, .str b => some (decide (a = b))
  | .bl a, .bl b => some (decide (a = b))
  | .non, .non => some true
  | .non, .int _ => some false
  | .int _, .non => some false
  | .non, .str _ => some false
  | .str _, .non => some false
  | .non, .bl _ => some false
  | .bl _, .non => some false
  | .int _, .str _ => some false
  | .str _, .int _ => some false
  | _, _ => none
def deepEq (x y : D) (h : HP) : Option Bool := match toPy deepN h x, toPy deepN h y with
  | some a, some b => if SeqAt.shaped a = true ∧ SeqAt.shaped b = true then some (PyData.eqv a b) else none
  | _, _ => none
def eqD (x y : D) (h : HP) : Option Bool := match eqFlat x y with
  | some b => some b
  | none => deepEq x y h
def opEq : D → D → HP → R D := fun x y h => match eqD x y h with
  | some b => .ok (.bl b) h
  | none => .no
def opNe : D → D → HP → R D := fun x y h => match eqD x y h with
  | some b => .ok (.bl (!b)) h
  | none => .no
/-- x in a list, a tuple of flat things, one sign in a text, a key in a dict -/
def flatD : D → Bool
  | .non => true
  | .bl _ => true
  | .int _ => true
  | .str _ => true
  | _ => false
def keyD : D → Option Key
  | .int i => some (.inl i)
  | .str x => some (.inr x)
  | _ => none
def keysD : List D → Option (List Key) := fun ds => seqO (ds.map keyD)
section
variable {κ : Type} [DecidableEq κ]
def valD (kvs : List (κ × D)) (k : κ) : Option D := (kvs.find? fun kv => decide (kv.1 = k)).map (·.2)
def putKD (kvs : List (κ × D)) (k : κ) (v : D) : List (κ × D) := if (kvs.any fun kv => decide (kv.1 = k)) = true then kvs.map (fun kv => if kv.1 = k then (kv.1, v) else kv) else kvs ++ [(k, v)]
end
def inFlat (x : D) : List D → Option Bool
  | [] => some false
  | y :: r => match eqFlat y x with
    | some true => some true
    | some false => inFlat x r
    | none => none
def inDeep (x : D) (ds : List D) (h : HP) : Option Bool := match toPy deepN h x, seqO (ds.map (toPy deepN h)) with
  | some a, some bs => if SeqAt.shaped a = true ∧ SeqAt.shaped (.list bs) = true then some (bs.any fun z => PyData.eqv z a) else none
  | _, _ => none
def inD (x y : D) (h : HP) : Option Bool := match y with
  | .ref i => match h[i]? with
    | some (.dic kvs) => match keyD x with
      | some k => some (valD kvs k).isSome
      | none => none
    | some (.dct kvs) => match x with
      | .tup ds => match keysD ds with
        | some k => some (valD kvs k).isSome
        | none => none
      | _ => none
    | _ => match isL i h with
      | some ds => if flatD x = true ∧ ds.all flatD = true then inFlat x ds else inDeep x ds h
      | none => none
  | .tup ds => if flatD x = true ∧ ds.all flatD = true then inFlat x ds else none
  | .str z => match x with
    | .str c => match c.cps.toList with
      | [k] => some (decide (k ∈ z.cps.toList))
      | _ => none
    | _ => none
  | _ => none
def opIn : D → D → HP → R D := fun x y h => match inD x y h with
  | some b => .ok (.bl b) h
  | none => .no
def opNin : D → D → HP → R D := fun x y h => match inD x y h with
  | some b => .ok (.bl (!b)) h
  | none => .no

section
variable {K : PySem.W.Frag} {κ φ : Nat → Addr} {h : HP} {H : Hp}
theorem dpAll_of {n : Nat} (ih : ∀ d v a, toPy n h d = some a → RV φ h.length H d v → Dp K H v a) : ∀ {ds : List D} {vs : List V} {as : List PyData}, seqO (ds.map (toPy n h)) = some as → RVs φ h.length H ds vs → DpAll K H vs as
  | [], vs, as, e, r => by
    simp only [List.map_nil, seqO, Option.some.injEq] at e
    simp only [RVs] at r
    subst e r
    exact .nil
  | d :: ds, vs, as, e, r => by
    simp only [List.map_cons] at e
    simp only [RVs] at r
    obtain ⟨v, r', rfl, q1, q2⟩ := r
    cases e1 : toPy n h d with
    | none => rw [e1] at e; simp [seqO] at e
    | some a =>
      rw [e1] at e
      simp only [seqO] at e
      cases e2 : seqO (ds.map (toPy n h)) with
      | none => rw [e2] at e; simp at e
      | some as' =>
        rw [e2] at e
        simp only [Option.map_some, Option.some.injEq] at e
        subst e
        exact .cons (ih d v a e1 q1) (dpAll_of ih e2 q2)
theorem dp_of (S : Sim K κ φ h H) : ∀ (n : Nat) (d : D) (v : V) (a : PyData), toPy n h d = some a → RV φ h.length H d v → Dp K H v a
  | n, .non, v, a, e, r => by
    rw [RV.non_iff] at r; subst r
    cases n <;> (simp only [toPy, Option.some.injEq] at e; subst e; exact .non)
  | n, .bl b, v, a, e, r => by
    rw [RV.bl_iff] at r; subst r
    cases n <;> (simp only [toPy, Option.some.injEq] at e; subst e; exact .bl b)
  | n, .int b, v, a, e, r => by
    rw [RV.int_iff] at r; subst r
    cases n <;> (simp only [toPy, Option.some.injEq] at e; subst e; exact .int b)
  | n, .str b, v, a, e, r => by
    rw [RV.str_iff] at r; subst r
    cases n <;> (simp only [toPy, Option.some.injEq] at e; subst e; exact .str b)
  | 0, .tup ds, v, a, e, r => by simp [toPy] at e
  | 0, .ref i, v, a, e, r => by simp [toPy] at e
  | n + 1, .tup ds, v, a, e, r => by
    rw [RV.tup_iff] at r
    obtain ⟨p, vs, rfl, hp, r⟩ := r
    simp only [toPy] at e
    cases e2 : seqO (ds.map (toPy n h)) with
    | none => rw [e2] at e; simp at e
    | some as =>
      rw [e2] at e
      simp only [Option.map_some, Option.some.injEq] at e
      subst e
      exact .tup (SqT.of hp) (dpAll_of (fun d v a => dp_of S n d v a) e2 r)
  | n + 1, .ref i, v, a, e, r => by
    rw [RV.ref_iff] at r
    obtain ⟨hi, rfl⟩ := r
    simp only [toPy] at e
    split at e
    · rename_i ds hl
      obtain ⟨vs, hs, r⟩ := S.isL hl
      cases e2 : seqO (ds.map (toPy n h)) with
      | none => rw [e2] at e; simp at e
      | some as =>
        rw [e2] at e
        simp only [Option.map_some, Option.some.injEq] at e
        subst e
        exact .lst hs (dpAll_of (fun d v a => dp_of S n d v a) e2 r)
    · cases e
theorem eqFlat_of {n : Nat} {x y : D} {v u : V} {b : Bool} (e : eqFlat x y = some b) (rx : RV φ n H x v) (ry : RV φ n H y u) : scal v u = true ∧ decide (v = u) = b := by
  unfold eqFlat at e
  split at e <;> first
    | (simp only [RV.int_iff, RV.str_iff, RV.bl_iff, RV.non_iff] at rx ry
       subst rx ry
       cases e
       simp [scal])
    | cases e
theorem flat_eq {n : Nat} {x y : D} {v u : V} {b : Bool} (e : eqFlat x y = some b) (rx : RV φ n H x v) (ry : RV φ n H y u) : eqV v u = b := by
  unfold eqFlat at e
  split at e <;> first
    | (simp only [RV.int_iff, RV.str_iff, RV.bl_iff, RV.non_iff] at rx ry
       subst rx ry
       cases e
       simp [eqV, Bool.beq_eq_decide_eq])
    | cases e
theorem flat_of {n : Nat} {x : D} {v : V} (f : flatD x = true) (rx : RV φ n H x v) : flatV v = true := by
  cases x with
  | non => rw [RV.non_iff] at rx; subst rx; rfl
  | bl _ => rw [RV.bl_iff] at rx; subst rx; rfl
  | int _ => rw [RV.int_iff] at rx; subst rx; rfl
  | str _ => rw [RV.str_iff] at rx; subst rx; rfl
  | tup _ => cases f
  | ref _ => cases f
theorem flat_all {n : Nat} : ∀ {ds : List D} {vs : List V}, ds.all flatD = true → RVs φ n H ds vs → vs.all flatV = true
  | [], vs, f, r => by simp only [RVs] at r; subst r; rfl
  | d :: ds, vs, f, r => by
    simp only [RVs] at r
    obtain ⟨v, r', rfl, q1, q2⟩ := r
    simp only [List.all_cons, Bool.and_eq_true] at f ⊢
    exact ⟨flat_of f.1 q1, flat_all f.2 q2⟩
theorem inFlat_of {n : Nat} {x : D} {v : V} (rx : RV φ n H x v) : ∀ {ds : List D} {vs : List V} {b : Bool}, inFlat x ds = some b → RVs φ n H ds vs → inV v vs = b
  | [], vs, b, e, r => by
    simp only [RVs] at r
    subst r
    simp only [inFlat, Option.some.injEq] at e
    subst e; rfl
  | d :: ds, vs, b, e, r => by
    simp only [RVs] at r
    obtain ⟨u, r', rfl, q1, q2⟩ := r
    simp only [inFlat] at e
    split at e
    · rename_i e1
      cases e
      have := flat_eq e1 q1 rx
      simp [inV, this]
    · rename_i e1
      have h1 := flat_eq e1 q1 rx
      have h2 := inFlat_of rx e q2
      simp only [inV, List.any_cons, h1, Bool.false_or]
      exact h2
    · cases e
theorem key_of' {n : Nat} {x : D} {v : V} {k : Key} (e : keyD x = some k) (rx : RV φ n H x v) : v = kV k := by
  cases x with
  | int i => simp only [keyD, Option.some.injEq] at e; subst e; rw [RV.int_iff] at rx; exact rx
  | str i => simp only [keyD, Option.some.injEq] at e; subst e; rw [RV.str_iff] at rx; exact rx
  | non => cases e
  | bl _ => cases e
  | tup _ => cases e
  | ref _ => cases e
theorem keys_of' {n : Nat} : ∀ {ds : List D} {vs : List V} {k : List Key}, keysD ds = some k → RVs φ n H ds vs → vs = k.map kV
  | [], vs, k, e, r => by
    simp only [keysD, List.map_nil, seqO, Option.some.injEq] at e
    simp only [RVs] at r
    subst e r; rfl
  | d :: ds, vs, k, e, r => by
    simp only [RVs] at r
    obtain ⟨v, r', rfl, q1, q2⟩ := r
    simp only [keysD, List.map_cons] at e
    cases e1 : keyD d with
    | none => rw [e1] at e; simp [seqO] at e
    | some a =>
      rw [e1] at e
      simp only [seqO] at e
      cases e2 : seqO (ds.map keyD) with
      | none => rw [e2] at e; simp at e
      | some as =>
        rw [e2] at e
        simp only [Option.map_some, Option.some.injEq] at e
        subst e
        rw [key_of' e1 q1, keys_of' (ds := ds) (k := as) e2 q2]; rfl
theorem RKs.val {κ' : Type} [DecidableEq κ'] {n : Nat} : ∀ {kvs : List (κ' × D)} {us : List (κ' × V)} (k : κ'), RKs φ n H kvs us → match valD kvs k with
    | some d => ∃ v, valV us k = some v ∧ RV φ n H d v
    | none => valV us k = none
  | [], us, k, r => by simp only [RKs] at r; subst r; rfl
  | (k', d) :: kvs, us, k, r => by
    simp only [RKs] at r
    obtain ⟨v, r', rfl, q1, q2⟩ := r
    by_cases hk : k' = k
    · simp only [valD, valV, List.find?_cons, hk, decide_true, Option.map_some]
      exact ⟨v, rfl, q1⟩
    · have := RKs.val k q2
      simpa only [valD, valV, List.find?_cons, hk, decide_false] using this
theorem RKs.len {κ' : Type} {n : Nat} : ∀ {kvs : List (κ' × D)} {us : List (κ' × V)}, RKs φ n H kvs us → us.length = kvs.length
  | [], us, r => by simp only [RKs] at r; subst r; rfl
  | (k', d) :: kvs, us, r => by
    simp only [RKs] at r
    obtain ⟨v, r', rfl, q1, q2⟩ := r
    simp [RKs.len q2]
theorem RKs.any {κ' : Type} [DecidableEq κ'] {n : Nat} (k : κ') : ∀ {kvs : List (κ' × D)} {us : List (κ' × V)}, RKs φ n H kvs us → (us.any fun kv => decide (kv.1 = k)) = kvs.any fun kv => decide (kv.1 = k)
  | [], us, r => by simp only [RKs] at r; subst r; rfl
  | (k', d) :: kvs, us, r => by
    simp only [RKs] at r
    obtain ⟨v, r', rfl, q1, q2⟩ := r
    simp only [List.any_cons, RKs.any k q2]
theorem RKs.repl {κ' : Type} [DecidableEq κ'] {n : Nat} (k : κ') {d : D} {v : V} (q : RV φ n H d v) : ∀ {kvs : List (κ' × D)} {us : List (κ' × V)}, RKs φ n H kvs us →
    RKs φ n H (kvs.map fun kv => if kv.1 = k then (kv.1, d) else kv) (us.map fun kv => if kv.1 = k then (kv.1, v) else kv)
  | [], us, r => by simp only [RKs] at r; subst r; simp [RKs]
  | (k', d') :: kvs, us, r => by
    simp only [RKs] at r
    obtain ⟨v', r', rfl, q1, q2⟩ := r
    have ih := RKs.repl k q q2
    by_cases hk : k' = k
    · simp only [List.map_cons, hk, if_true, RKs]
      exact ⟨v, _, rfl, q, ih⟩
    · simp only [List.map_cons, hk, if_false, RKs]
      exact ⟨v', _, rfl, q1, ih⟩
theorem RKs.snoc {κ' : Type} {n : Nat} (k : κ') {d : D} {v : V} (q : RV φ n H d v) : ∀ {kvs : List (κ' × D)} {us : List (κ' × V)}, RKs φ n H kvs us → RKs φ n H (kvs ++ [(k, d)]) (us ++ [(k, v)])
  | [], us, r => by simp only [RKs] at r; subst r; simp only [List.nil_append, RKs]; exact ⟨v, [], rfl, q, rfl⟩
  | (k', d') :: kvs, us, r => by
    simp only [RKs] at r
    obtain ⟨v', r', rfl, q1, q2⟩ := r
    simp only [List.cons_append, RKs]
    exact ⟨v', _, rfl, q1, RKs.snoc k q q2⟩
theorem RKs.put {κ' : Type} [DecidableEq κ'] {n : Nat} {kvs : List (κ' × D)} {us : List (κ' × V)} (r : RKs φ n H kvs us) (k : κ') {d : D} {v : V} (q : RV φ n H d v) : RKs φ n H (putKD kvs k d) (putK us k v) := by
  unfold putKD putK
  rw [RKs.any k r]
  split
  · exact RKs.repl k q r
  · exact RKs.snoc k q r
theorem RKs.look {n : Nat} : ∀ {kvs : List (Str × D)} {us : List (Str × V)} {f : Str} {d : D}, RKs φ n H kvs us → kvs.lookup f = some d → ∃ v, us.lookup f = some v ∧ RV φ n H d v
  | [], us, f, d, r, e => by cases e
  | (k', d') :: kvs, us, f, d, r, e => by
    simp only [RKs] at r
    obtain ⟨v', r', rfl, q1, q2⟩ := r
    rw [List.lookup_cons] at e ⊢
    cases hb : f == k' with
    | true => rw [hb] at e; simp only [Option.some.injEq] at e; subst e; exact ⟨v', rfl, q1⟩
    | false => rw [hb] at e; exact RKs.look q2 e
theorem RKs.look0 {n : Nat} : ∀ {kvs : List (Str × D)} {us : List (Str × V)} {f : Str}, RKs φ n H kvs us → kvs.lookup f = none → us.lookup f = none
  | [], us, f, r, e => by simp only [RKs] at r; subst r; rfl
  | (k', d') :: kvs, us, f, r, e => by
    simp only [RKs] at r
    obtain ⟨v', r', rfl, q1, q2⟩ := r
    rw [List.lookup_cons] at e ⊢
    cases hb : f == k' with
    | true => rw [hb] at e; cases e
    | false => rw [hb] at e; exact RKs.look0 q2 e
theorem RKs.putF {n : Nat} {f : Str} {d : D} {v : V} (q : RV φ n H d v) : ∀ {kvs : List (Str × D)} {us : List (Str × V)}, RKs φ n H kvs us → RKs φ n H (putD f d kvs) (L2.putF f v us)
  | [], us, r => by simp only [RKs] at r; subst r; simp only [putD, L2.putF, RKs]; exact ⟨v, [], rfl, q, rfl⟩
  | (k', d') :: kvs, us, r => by
    simp only [RKs] at r
    obtain ⟨v', r', rfl, q1, q2⟩ := r
    simp only [putD, L2.putF]
    split
    · simp only [RKs]; exact ⟨v, _, rfl, q, q2⟩
    · simp only [RKs]; exact ⟨v', _, rfl, q1, RKs.putF q q2⟩
end

section
variable {X : Cx} {κ : Nat → Addr}
theorem od_eq (hu : X.A.units + 64 < cLine) : OpR X (compareOp .Eq) (rD X.K κ opEq) := by
  intro pins s σ H x y v u Q I rx ry ⟨φ, h, dx, dy, S, qx, qy, p⟩
  unfold opEq at p
  split at p
  · rename_i b e
    unfold eqD at e
    split at e
    · rename_i b' e1
      cases e
      obtain ⟨h1, h2⟩ := eqFlat_of e1 qx qy
      exact op_eq pins s σ H _ _ v u Q I rx ry ⟨h1, p.of0 S (RV.bl_iff.mpr (by rw [h2]))⟩
    · unfold deepEq at e
      split at e
      · rename_i a b2 e1 e2
        split at e
        · rename_i hs
          cases e
          exact op_eqD hu pins s σ H _ _ v u Q I rx ry ⟨a, b2, dp_of S _ _ _ _ e1 qx, dp_of S _ _ _ _ e2 qy, hs.1, hs.2, p.of0 S (RV.bl_iff.mpr rfl)⟩
        · cases e
      · cases e
  · exact False.elim p
theorem od_ne (hu : X.A.units + 64 < cLine) : OpR X (compareOp .NotEq) (rD X.K κ opNe) := by
  intro pins s σ H x y v u Q I rx ry ⟨φ, h, dx, dy, S, qx, qy, p⟩
  unfold opNe at p
  split at p
  · rename_i b e
    unfold eqD at e
    split at e
    · rename_i b' e1
      cases e
      obtain ⟨h1, h2⟩ := eqFlat_of e1 qx qy
      exact op_ne pins s σ H _ _ v u Q I rx ry ⟨h1, p.of0 S (RV.bl_iff.mpr (by rw [h2]))⟩
    · unfold deepEq at e
      split at e
      · rename_i a b2 e1 e2
        split at e
        · rename_i hs
          cases e
          exact op_neD hu pins s σ H _ _ v u Q I rx ry ⟨a, b2, dp_of S _ _ _ _ e1 qx, dp_of S _ _ _ _ e2 qy, hs.1, hs.2, p.of0 S (RV.bl_iff.mpr rfl)⟩
        · cases e
      · cases e
  · exact False.elim p
/-- what in is asked of, by its kinds -/
inductive InK (K : PySem.W.Frag) (H : Hp) (x y : V) (b : Bool) : Prop where
  | flat {p : Addr} {vs : List V} (hy : y = .ref p) (hs : SqL K H p vs ∨ SqT K H p vs) (fx : flatV x = true) (fs : vs.all flatV = true) (e : inV x vs = b)
  | deep {d : PyData} {ds : List PyData} (hx : Dp K H x d) (hy : Dp K H y (.list ds)) (s1 : SeqAt.shaped d = true) (s2 : SeqAt.shaped (.list ds) = true) (e : (ds.any fun z => PyData.eqv z d) = b)
  | sign {c : Nat} {z : Str} (hx : x = .str ⟨#[c]⟩) (hy : y = .str z) (e : decide (c ∈ z.cps.toList) = b)
  | dict {a : Addr} {o : Option V} (hy : y = .ref a) (g : DGet H a x o) (e : o.isSome = b)
theorem inK_of {K : PySem.W.Frag} {φ : Nat → Addr} {h : HP} {H : Hp} {dx dy : D} {x y : V} {b : Bool} (S : Sim K κ φ h H) (qx : RV φ h.length H dx x) (qy : RV φ h.length H dy y) (e : inD dx dy h = some b) : InK K H x y b := by
  unfold inD at e
  split at e
  · rename_i i
    rw [RV.ref_iff] at qy
    split at e
    · rename_i kvs hk
      obtain ⟨us, hd, r⟩ := S.dic hk
      split at e
      · rename_i k ek
        cases e
        have := RKs.val k r
        have kx := key_of' ek qx
        subst kx
        refine .dict qy.2 (DGet.k hd) ?_
        cases e3 : valD kvs k with
        | some d => rw [e3] at this; obtain ⟨v, e4, _⟩ := this; rw [e4]; rfl
        | none => rw [e3] at this; rw [this]; rfl
      · cases e
    · rename_i kvs hk
      obtain ⟨us, hd, r⟩ := S.dct hk
      split at e
      · rename_i ds
        split at e
        · rename_i k ek
          cases e
          have := RKs.val k r
          rw [RV.tup_iff] at qx
          obtain ⟨p, vs, rfl, hp, rr⟩ := qx
          have kx := keys_of' ek rr
          subst kx
          refine .dict qy.2 (DGet.t hd hp) ?_
          cases e3 : valD kvs k with
          | some d => rw [e3] at this; obtain ⟨v, e4, _⟩ := this; rw [e4]; rfl
          | none => rw [e3] at this; rw [this]; rfl
        · cases e
      · cases e
    · split at e
      · rename_i ds hl
        obtain ⟨vs, hs, r⟩ := S.isL hl
        split at e
        · rename_i hf
          exact .flat qy.2 (.inl hs) (flat_of hf.1 qx) (flat_all hf.2 r) (inFlat_of qx e r)
        · unfold inDeep at e
          split at e
          · rename_i a bs e1 e2
            split at e
            · rename_i hh
              cases e
              refine .deep (dp_of S _ _ _ _ e1 qx) ?_ hh.1 hh.2 rfl
              rw [qy.2]
              exact .lst hs (dpAll_of (fun d v a => dp_of S _ d v a) e2 r)
            · cases e
          · cases e
      · cases e
  · rename_i ds
    rw [RV.tup_iff] at qy
    obtain ⟨p, vs, rfl, hp, r⟩ := qy
    split at e
    · rename_i hf
      exact .flat rfl (.inr (SqT.of hp)) (flat_of hf.1 qx) (flat_all hf.2 r) (inFlat_of qx e r)
    · cases e
  · rename_i z
    rw [RV.str_iff] at qy
    split at e
    · rename_i c
      rw [RV.str_iff] at qx
      split at e
      · rename_i k hk
        cases e
        refine .sign (c := k) ?_ qy rfl
        rw [qx]
        congr 1
        exact TL.ext_tl (by show c.cps.toList = [k]; exact hk)
      · cases e
    · cases e
  · cases e
theorem od_in (hu : X.A.units + 65 < cLine) : OpR X (compareOp .In) (rD X.K κ opIn) := by
  intro pins s σ H x y v u Q I rx ry ⟨φ, h, dx, dy, S, qx, qy, p⟩
  unfold opIn at p
  split at p
  · rename_i b e
    have q := p.of0 S (v := .bl b) (RV.bl_iff.mpr rfl)
    cases inK_of S qx qy e with
    | flat hy hs fx fs e =>
      subst hy e
      exact op_in_seq pins s σ H _ _ v u Q I rx ry ⟨_, _, rfl, hs, fx, fs, q⟩
    | deep hx hy s1 s2 e =>
      subst e
      exact op_inD hu pins s σ H _ _ v u Q I rx ry ⟨_, _, hx, hy, s1, s2, q⟩
    | sign hx hy e =>
      subst hx hy e
      exact op_in_sign pins s σ H _ _ v u Q I rx ry ⟨_, _, rfl, rfl, q⟩
    | dict hy g e =>
      subst hy e
      obtain rfl : u = Value.ref _ := ry
      exact d_in (by omega) I g rx fun s' I' => ⟨.bl _, H, I', rfl, q⟩
  · exact False.elim p
theorem od_nin (hu : X.A.units + 65 < cLine) : OpR X (compareOp .NotIn) (rD X.K κ opNin) := by
  intro pins s σ H x y v u Q I rx ry ⟨φ, h, dx, dy, S, qx, qy, p⟩
  unfold opNin at p
  split at p
  · rename_i b e
    have q := p.of0 S (v := .bl (!b)) (RV.bl_iff.mpr rfl)
    cases inK_of S qx qy e with
    | flat hy hs fx fs e =>
      subst hy e
      exact op_notIn_seq pins s σ H _ _ v u Q I rx ry ⟨_, _, rfl, hs, fx, fs, q⟩
    | deep hx hy s1 s2 e =>
      subst e
      exact op_notInD hu pins s σ H _ _ v u Q I rx ry ⟨_, _, hx, hy, s1, s2, q⟩
    | sign hx hy e =>
      subst hx hy e
      exact op_notIn_sign pins s σ H _ _ v u Q I rx ry ⟨_, _, rfl, rfl, q⟩
    | dict hy g e =>
      subst hy e
      obtain rfl : u = Value.ref _ := ry
      exact d_notIn (by omega) I g rx fun s' I' => ⟨.bl _, H, I', rfl, q⟩
  · exact False.elim p
end
end Z
/-! Z4: tests, arguments, displays, subscripts, fields, calls. -/
namespace Z
open PySem L2 PyProof.Rows
section
variable {X : Cx} {κ : Nat → Addr} {C : Ctx} {a b c e : Expr} {es : List Expr} {ma mb mc : ME} {ta tb : MT} {mas : MA} {pos : Pos}

/-! ### tests -/
theorem st_v (ha : SE X κ C a ma) (he : ∀ whole, isTrue a X.env whole = (do let v ← whole; standAt a.pos; holding [v] (truthy v)) := by intro _; rfl) : ST X κ C a (tV ma) :=
  ST.mk' (pt_val ha.pe he) fun φ ev h σ H Q S r p => by
    obtain ⟨dx, h1, e1, p⟩ := PostT.bind p
    refine td_of S r e1 fun φ1 H1 v st S1 r1 q1 => ?_
    cases dx with
    | bl k => rw [RV.bl_iff] at q1; exact ⟨k, q1, p φ1 H1 st S1⟩
    | non => exact False.elim p
    | int _ => exact False.elim p
    | str _ => exact False.elim p
    | tup _ => exact False.elim p
    | ref _ => exact False.elim p
theorem st_cmp {o : CmpOp} {op : D → D → HP → R D} (ho : OpR X (compareOp o) (rD X.K κ op)) (ha : SE X κ C a ma) (hb : SE X κ C b mb) (hm : behindInMarks o b = false) : ST X κ C (.Compare a [o] [b] pos) (tV (eOp op ma mb)) :=
  ST.mk' (pt_cmpR ho ha.pe hb.pe hm) fun φ ev h σ H Q S r p => by
    obtain ⟨dz, h3, e3, p⟩ := PostT.bind p
    cases ea : ma C ev h with
    | ok dx h1 =>
      cases eb : mb C ev h1 with
      | ok dy h2 =>
        have e4 : op dx dy h2 = .ok dz h3 := by
          have := e3
          unfold eOp at this
          rw [ea] at this
          simp only [R.bind_ok] at this
          rw [eb] at this
          exact this
        refine td_of S r ea fun φ1 H1 v st S1 r1 q1 => td_of S1 r1 eb fun φ2 H2 w st2 S2 r2 q2 => ⟨φ2, h2, dx, dy, S2, q1.step S1 st2, q2, ?_⟩
        rw [e4]
        intro φ3 H3 z st3 S3 q3
        cases dz with
        | bl k => rw [RV.bl_iff] at q3; exact ⟨k, q3, p φ3 H3 ((st.trans st2).trans st3) S3⟩
        | non => exact False.elim p
        | int _ => exact False.elim p
        | str _ => exact False.elim p
        | tup _ => exact False.elim p
        | ref _ => exact False.elim p
      | ex _ _ _ => unfold eOp at e3; rw [ea] at e3; simp only [R.bind_ok] at e3; rw [eb] at e3; cases e3
      | no => unfold eOp at e3; rw [ea] at e3; simp only [R.bind_ok] at e3; rw [eb] at e3; cases e3
    | ex _ _ _ => unfold eOp at e3; rw [ea] at e3; cases e3
    | no => unfold eOp at e3; rw [ea] at e3; cases e3
theorem st_w (h : SW X κ C a ta) : ST X κ C a ta := ⟨h.pw.pt⟩
theorem sw_and1 (h : ST X κ C a ta) : SW X κ C (.BoolOp .And [a] pos) ta := ⟨pw_and1 h.pt⟩
theorem sw_or1 (h : ST X κ C a ta) : SW X κ C (.BoolOp .Or [a] pos) ta := ⟨pw_or1 h.pt⟩
theorem sw_and {rest : List Expr} (ha : ST X κ C a ta) (hb : SW X κ C (.BoolOp .And (b :: rest) pos) tb) : SW X κ C (.BoolOp .And (a :: b :: rest) pos) (tAn ta tb) :=
  SW.mk' (pw_and ha.pt hb.pw) fun φ ev h σ H Q S r p => by
    obtain ⟨k, h1, e1, p⟩ := PostT.bind p
    refine tq_of S r e1 fun φ1 H1 st S1 r1 => ?_
    cases k with
    | true => rw [if_pos rfl] at p ⊢; exact ⟨φ1, ev, h1, S1, r1, p.step st⟩
    | false => rw [if_neg Bool.false_ne_true] at p ⊢; exact p φ1 H1 st S1
theorem sw_or {rest : List Expr} (ha : ST X κ C a ta) (hb : SW X κ C (.BoolOp .Or (b :: rest) pos) tb) : SW X κ C (.BoolOp .Or (a :: b :: rest) pos) (tOr ta tb) :=
  SW.mk' (pw_or ha.pt hb.pw) fun φ ev h σ H Q S r p => by
    obtain ⟨k, h1, e1, p⟩ := PostT.bind p
    refine tq_of S r e1 fun φ1 H1 st S1 r1 => ?_
    cases k with
    | true => rw [if_pos rfl] at p ⊢; exact p φ1 H1 st S1
    | false => rw [if_neg Bool.false_ne_true] at p ⊢; exact ⟨φ1, ev, h1, S1, r1, p.step st⟩
theorem st_not (ha : ST X κ C a ta) : ST X κ C (.UnaryOp .Not a pos) (tNt ta) :=
  ST.mk' (pt_not ha.pt) fun φ ev h σ H Q S r p => by
    obtain ⟨k, h1, e1, p⟩ := PostT.bind p
    exact tq_of S r e1 fun φ1 H1 st S1 r1 => p φ1 H1 st S1

/-! ### and, or, not, if as values -/
theorem se_one {o : BoolOp} (ha : SE X κ C a ma) : SE X κ C (.BoolOp o [a] pos) ma := ⟨pe_one ha.pe⟩
theorem se_and {rest : List Expr} (ha : SE X κ C a ma) (hb : SE X κ C (.BoolOp .And (b :: rest) pos) mb) : SE X κ C (.BoolOp .And (a :: b :: rest) pos) (eAn ma mb) :=
  SE.mk' (pe_and ha.pe hb.pe) fun φ ev h σ H Q S r p => by
    obtain ⟨dx, h1, e1, p⟩ := Post.bind p
    refine td_of S r e1 fun φ1 H1 v st S1 r1 q1 => ?_
    cases dx with
    | bl k =>
      rw [RV.bl_iff] at q1
      refine ⟨k, q1, ?_⟩
      cases k with
      | true => rw [if_pos rfl]; simp only [if_pos] at p; exact ⟨φ1, ev, h1, S1, r1, p.step st⟩
      | false => rw [if_neg Bool.false_ne_true]; exact p φ1 H1 _ st S1 (RV.bl_iff.mpr rfl)
    | non => exact False.elim p
    | int _ => exact False.elim p
    | str _ => exact False.elim p
    | tup _ => exact False.elim p
    | ref _ => exact False.elim p
theorem se_or {rest : List Expr} (ha : SE X κ C a ma) (hb : SE X κ C (.BoolOp .Or (b :: rest) pos) mb) : SE X κ C (.BoolOp .Or (a :: b :: rest) pos) (eOr ma mb) :=
  SE.mk' (pe_or ha.pe hb.pe) fun φ ev h σ H Q S r p => by
    obtain ⟨dx, h1, e1, p⟩ := Post.bind p
    refine td_of S r e1 fun φ1 H1 v st S1 r1 q1 => ?_
    cases dx with
    | bl k =>
      rw [RV.bl_iff] at q1
      refine ⟨k, q1, ?_⟩
      cases k with
      | true => rw [if_pos rfl]; exact p φ1 H1 _ st S1 (RV.bl_iff.mpr rfl)
      | false => rw [if_neg Bool.false_ne_true]; exact ⟨φ1, ev, h1, S1, r1, Post.step p st⟩
    | non => exact False.elim p
    | int _ => exact False.elim p
    | str _ => exact False.elim p
    | tup _ => exact False.elim p
    | ref _ => exact False.elim p
theorem se_not (ha : SE X κ C a ma) : SE X κ C (.UnaryOp .Not a pos) (eNt ma) :=
  SE.mk' (pe_not ha.pe) fun φ ev h σ H Q S r p => by
    obtain ⟨dx, h1, e1, p⟩ := Post.bind p
    refine td_of S r e1 fun φ1 H1 v st S1 r1 q1 => ?_
    cases dx with
    | bl k => rw [RV.bl_iff] at q1; exact ⟨k, q1, p φ1 H1 _ st S1 (RV.bl_iff.mpr rfl)⟩
    | non => exact False.elim p
    | int _ => exact False.elim p
    | str _ => exact False.elim p
    | tup _ => exact False.elim p
    | ref _ => exact False.elim p
theorem se_if (hc : ST X κ C c ta) (ha : SE X κ C a ma) (hb : SE X κ C b mb) : SE X κ C (.IfExp c a b pos) (eIf ta ma mb) :=
  SE.mk' (pe_ifExp hc.pt ha.pe hb.pe) fun φ ev h σ H Q S r p => by
    obtain ⟨k, h1, e1, p⟩ := Post.bind p
    refine tq_of S r e1 fun φ1 H1 st S1 r1 => ?_
    cases k with
    | true => rw [if_pos rfl] at p ⊢; exact ⟨φ1, ev, h1, S1, r1, p.step st⟩
    | false => rw [if_neg Bool.false_ne_true] at p ⊢; exact ⟨φ1, ev, h1, S1, r1, p.step st⟩

/-! ### arguments, displays -/
theorem sa_nil : SA X κ C [] aN := SA.mk' pa_nil fun φ ev h σ H Q S r p => p φ H [] Step.refl S (by simp [RVs])
theorem sa_cons (ha : SE X κ C e ma) (hr : SA X κ C es mas) (hs : starEach (e :: es) X.env = (false, eval e X.env) :: starEach es X.env := by rfl) : SA X κ C (e :: es) (aC ma mas) :=
  SA.mk' (pa_cons ha.pe hr.pa hs) fun φ ev h σ H Q S r p => by
    obtain ⟨dx, h1, e1, p⟩ := PostA.bind p
    obtain ⟨ds, h2, e2, p⟩ := PostA.bind p
    exact td_of S r e1 fun φ1 H1 v st S1 r1 q1 => ta_of S1 r1 e2 fun φ2 H2 vs st2 S2 r2 q2 => p φ2 H2 _ (st.trans st2) S2 (RVs.cons (q1.step S1 st2) q2)
theorem se_tup {x1 : Nat} (h : SA X κ C es mas) : SE X κ C (.Tuple es x1 pos) (eTup mas) :=
  SE.mk' (pe_tup h.pa) fun φ ev h σ H Q S r p => by
    obtain ⟨ds, h1, e1, p⟩ := Post.bind p
    split at p
    · rename_i hz
      exact ta_of S r e1 fun φ1 H1 vs st S1 r1 q1 => ⟨by rw [q1.len]; exact hz, fun q hq => (p.step st).newT S1 hq q1⟩
    · exact False.elim p
theorem se_lst (h : SA X κ C es mas) : SE X κ C (.List es pos) (eLst mas) :=
  SE.mk' (pe_lst h.pa) fun φ ev h σ H Q S r p => by
    obtain ⟨ds, h1, e1, p⟩ := Post.bind p
    split at p
    · rename_i hz
      exact ta_of S r e1 fun φ1 H1 vs st S1 r1 q1 => ⟨by rw [q1.len]; exact hz, fun q hq => (p.step st).newL S1 hq q1⟩
    · exact False.elim p

/-! ### subscripts -/
end
def opIx : D → D → HP → R D := fun x y h => match x with
  | .tup ds => match y with
    | .int i => match atI ds i with
      | some d => .ok d h
      | none => .no
    | _ => .no
  | .str z => match y with
    | .int i => if z.length ≤ sizeLine then match atI z.cps.toList i with
        | some c => .ok (.str ⟨#[c]⟩) h
        | none => .no
      else .no
    | _ => .no
  | .ref j => match h[j]? with
    | some (.dic kvs) => match keyD y with
      | some k => match valD kvs k with
        | some d => .ok d h
        | none => .no
      | none => .no
    | some (.dct kvs) => match y with
      | .tup ds => match keysD ds with
        | some k => match valD kvs k with
          | some d => .ok d h
          | none => .no
        | none => .no
      | _ => .no
    | _ => match isL j h with
      | some ds => match y with
        | .int i => match atI ds i with
          | some d => .ok d h
          | none => .no
        | _ => .no
      | none => .no
  | _ => .no
def cutD (xs : List D) (lo hi : Option Int) : List D := (xs.drop (HT.sIx xs.length 0 lo)).take (HT.sIx xs.length xs.length hi - HT.sIx xs.length 0 lo)
def opSl : D → Option Int → Option Int → HP → R D := fun x lo hi h => match x with
  | .tup ds => .ok (.tup (cutD ds lo hi)) h
  | .str z => if z.length ≤ sizeLine then .ok (.str (cutS z lo hi)) h else .no
  | .ref j => match isL j h with
    | some ds => .ok (.ref h.length) (h ++ [.lst (cutD ds lo hi)])
    | none => .no
  | _ => .no
section
variable {X : Cx} {κ : Nat → Addr} {C : Ctx} {a b c e : Expr} {es : List Expr} {ma mb mc : ME} {ta tb : MT} {mas : MA} {pos p2 : Pos}
theorem atI_rv {φ : Nat → Addr} {n : Nat} {H : Hp} {ds : List D} {vs : List V} {i : Int} {d : D} (r : RVs φ n H ds vs) (e : atI ds i = some d) : ∃ v, atI vs i = some v ∧ RV φ n H d v := by
  unfold atI at e ⊢
  rw [r.len]
  cases q : ixN ds.length i with
  | none => rw [q] at e; cases e
  | some j =>
    rw [q] at e
    exact r.get (by simpa using e)
theorem cut_rv {φ : Nat → Addr} {n : Nat} {H : Hp} {ds : List D} {vs : List V} {lo hi : Option Int} (r : RVs φ n H ds vs) : RVs φ n H (cutD ds lo hi) (cutV vs lo hi) := by
  unfold cutD cutV
  rw [r.len]
  exact (r.drop _).take _
/-- d[k] -/
theorem ix_dic : X.A.units + 1 < cLine → IxR X (fun x y H Q => ∃ a v, x = .ref a ∧ DGet H a y (some v) ∧ Q v H) := by
  intro hu value slice pins s σ H x y v u Q I rx ry h hs
  obtain ⟨a, w, rfl, g, q⟩ := h
  obtain rfl : v = Value.ref a := rx
  exact tail_any (dict_typeIs I g) PySem.F.slot_dict_getitem.lookup (d_getItem hu I g ry fun w' s3 I3 rw' => ⟨w, H, I3, rw', q⟩) hs
theorem ixd (hu : X.A.units + 1 < cLine) : IxR X (rD X.K κ opIx) := by
  intro value slice pins s σ H x y v u Q I rx ry ⟨φ, h, dx, dy, S, qx, qy, p⟩ hs
  unfold opIx at p
  split at p
  · rename_i ds
    split at p
    · rename_i i
      split at p
      · rename_i d e
        rw [RV.int_iff] at qy
        rw [RV.tup_iff] at qx
        obtain ⟨pp, vs, rfl, hp, r⟩ := qx
        obtain ⟨w, e1, q1⟩ := atI_rv r e
        exact ix_tup value slice pins s σ H _ _ v u Q I rx ry ⟨pp, vs, i, w, rfl, qy, SqT.of hp, e1, p.of0 S q1⟩ hs
      · exact False.elim p
    · exact False.elim p
  · rename_i z
    split at p
    · rename_i i
      split at p
      · rename_i hz
        split at p
        · rename_i d e
          rw [RV.int_iff] at qy
          rw [RV.str_iff] at qx
          exact ix_str value slice pins s σ H _ _ v u Q I rx ry ⟨z, i, d, qx, qy, hz, e, p.of0 S (RV.str_iff.mpr rfl)⟩ hs
        · exact False.elim p
      · exact False.elim p
    · exact False.elim p
  · rename_i j
    rw [RV.ref_iff] at qx
    obtain ⟨hj, rfl⟩ := qx
    split at p
    · rename_i kvs e
      obtain ⟨us, hd, r⟩ := S.dic e
      split at p
      · rename_i k ek
        split at p
        · rename_i d ed
          have kx := key_of' ek qy
          subst kx
          have := RKs.val k r
          rw [ed] at this
          obtain ⟨w, e1, q1⟩ := this
          refine ix_dic hu value slice pins s σ H _ _ v u Q I rx ry ⟨_, w, rfl, ?_, p.of0 S q1⟩ hs
          rw [← e1]
          exact DGet.k hd
        · exact False.elim p
      · exact False.elim p
    · rename_i kvs e
      obtain ⟨us, hd, r⟩ := S.dct e
      split at p
      · split at p
        · rename_i k ek
          split at p
          · rename_i d ed
            rw [RV.tup_iff] at qy
            obtain ⟨pp, vs, rfl, hp, rr⟩ := qy
            have kx := keys_of' ek rr
            subst kx
            have := RKs.val k r
            rw [ed] at this
            obtain ⟨w, e1, q1⟩ := this
            refine ix_dic hu value slice pins s σ H _ _ v u Q I rx ry ⟨_, w, rfl, ?_, p.of0 S q1⟩ hs
            rw [← e1]
            exact DGet.t hd hp
          · exact False.elim p
        · exact False.elim p
      · exact False.elim p
    · split at p
      · rename_i ds hl
        obtain ⟨vs, hs', r⟩ := S.isL hl
        split at p
        · rename_i i
          split at p
          · rename_i d ed
            rw [RV.int_iff] at qy
            obtain ⟨w, e1, q1⟩ := atI_rv r ed
            exact ix_list value slice pins s σ H _ _ v u Q I rx ry ⟨_, vs, i, w, rfl, qy, hs', e1, p.of0 S q1⟩ hs
          · exact False.elim p
        · exact False.elim p
      · exact False.elim p
  · exact False.elim p
theorem se_ix (hu : X.A.units + 1 < cLine) (ha : SE X κ C a ma) (hb : SE X κ C b mb) (hs : PlainIx b := by intro _ _; rfl) : SE X κ C (.Subscript a b pos) (eOp opIx ma mb) :=
  SE.mk' (pe_ix (ixd (κ := κ) hu) ha.pe hb.pe hs) fun φ ev h σ H Q S r p => by
    obtain ⟨dx, h1, e1, p⟩ := Post.bind p
    obtain ⟨dy, h2, e2, p⟩ := Post.bind p
    exact td_of S r e1 fun φ1 H1 v st S1 r1 q1 => td_of S1 r1 e2 fun φ2 H2 w st2 S2 r2 q2 => ⟨φ2, h2, dx, dy, S2, q1.step S1 st2, q2, p.step (st.trans st2)⟩
theorem so_n : SO X κ C none oN := SO.mk' po_none fun φ ev h σ H Q S r p => p φ H Step.refl S
theorem so_s (ha : SE X κ C a ma) : SO X κ C (some a) (oS ma) :=
  SO.mk' (po_some ha.pe) fun φ ev h σ H Q S r p => by
    obtain ⟨dx, h1, e1, p⟩ := PostO.bind p
    refine td_of S r e1 fun φ1 H1 v st S1 r1 q1 => ?_
    cases dx with
    | int k => rw [RV.int_iff] at q1; exact ⟨k, q1, p φ1 H1 st S1⟩
    | non => exact False.elim p
    | bl _ => exact False.elim p
    | str _ => exact False.elim p
    | tup _ => exact False.elim p
    | ref _ => exact False.elim p
def rSl (K : PySem.W.Frag) (κ : Nat → Addr) : V → Option Int → Option Int → Hp → VK → Prop := fun x lo hi H Q => ∃ φ h dx, Sim K κ φ h H ∧ RV φ h.length H dx x ∧ Post K κ φ h H (opSl dx lo hi h) Q
theorem sld : SlR X (rSl X.K κ) := by
  intro pins s σ H x v vl vu lo hi sl Q I rx hs pl pu ⟨φ, h, dx, S, qx, p⟩
  unfold opSl at p
  split at p
  · rename_i ds
    rw [RV.tup_iff] at qx
    obtain ⟨pp, vs, rfl, hp, r⟩ := qx
    refine sl_tupA pins s σ H _ v vl vu lo hi sl Q I rx hs pl pu ⟨pp, vs, rfl, SqT.of hp, fun hw => ?_, fun _ q hq => p.newT S hq (cut_rv r)⟩
    refine p.of0 S (RV.tup_iff.mpr ⟨pp, vs, rfl, hp, ?_⟩)
    have e : cutV vs lo hi = vs := by
      unfold cutV
      rw [hw.1, hw.2]
      simp
    have q := cut_rv (lo := lo) (hi := hi) r
    rw [e] at q
    exact q
  · rename_i z
    split at p
    · rename_i hz
      rw [RV.str_iff] at qx
      exact sl_str pins s σ H _ v vl vu lo hi sl Q I rx hs pl pu ⟨z, qx, hz, p.of0 S (RV.str_iff.mpr rfl)⟩
    · exact False.elim p
  · rename_i j
    split at p
    · rename_i ds hl
      rw [RV.ref_iff] at qx
      obtain ⟨vs, hs', r⟩ := S.isL hl
      exact sl_list pins s σ H _ v vl vu lo hi sl Q I rx hs pl pu ⟨_, vs, qx.2, hs', fun q hq => p.newL S hq (cut_rv r)⟩
    · exact False.elim p
  · exact False.elim p
theorem se_sl {lo hi : Option Expr} {ml mh : MO} (ha : SE X κ C a ma) (hl : SO X κ C lo ml) (hh : SO X κ C hi mh) : SE X κ C (.Subscript a (.Slice lo hi none p2) pos) (eSl opSl ma ml mh) :=
  SE.mk' (pe_slice (sld (κ := κ)) ha.pe hl.po hh.po) fun φ ev h σ H Q S r p => by
    obtain ⟨dx, h1, e1, p⟩ := Post.bind p
    obtain ⟨l, h2, e2, p⟩ := Post.bind p
    obtain ⟨u, h3, e3, p⟩ := Post.bind p
    exact td_of S r e1 fun φ1 H1 v st S1 r1 q1 => to_of S1 r1 e2 fun φ2 H2 st2 S2 r2 => to_of S2 r2 e3 fun φ3 H3 st3 S3 r3 =>
      ⟨φ3, h3, dx, S3, (q1.step S1 st2).step S2 st3, p.step ((st.trans st2).trans st3)⟩

/-! ### calls of built-in functions -/
def rB (K : PySem.W.Frag) (κ : Nat → Addr) (f : List D → HP → R D) : List V → Hp → VK → Prop := fun vs H Q => ∃ φ h ds, Sim K κ φ h H ∧ RVs φ h.length H ds vs ∧ Post K κ φ h H (f ds h) Q
theorem se_bf {x : Str} {id : String} {f : List D → HP → R D} {p : Pos} (hc : CallR X (.builtin id) (rB X.K κ f)) (hm : X.mg x = none) (hv : bootBuiltins x = some (.builtin id)) (ha : SA X κ C (e :: es) mas) (hg : Gl X x := by rfl) (hn : x ≠ "__name__" := by decide) (hdb : (x == ("__debug__" : Str)) = false := by decide)
    (he : starEach (e :: es) X.env = (false, eval e X.env) :: starEach es X.env := by rfl) (hpl : (backTo pos (starEach es X.env)).any (·.1) = false := by rfl) : SE X κ C (.Call (.Name x p) (e :: es) [] pos) (eBf f mas) :=
  SE.mk' (pe_callB hc hg hm hv ha.pa hn hdb he hpl) fun φ ev h σ H Q S r p => by
    obtain ⟨ds, h1, e1, p⟩ := Post.bind p
    exact ta_of S r e1 fun φ1 H1 vs st S1 r1 q1 => ⟨φ1, h1, ds, S1, q1, p.step st⟩
theorem se_bt {x : Str} {T : String} {f : List D → HP → R D} {p : Pos} (hc : CallR X (.type T) (rB X.K κ f)) (hm : X.mg x = none) (hv : bootBuiltins x = some (.type T)) (ha : SA X κ C (e :: es) mas) (hg : Gl X x := by rfl) (hn : x ≠ "__name__" := by decide) (hdb : (x == ("__debug__" : Str)) = false := by decide)
    (he : starEach (e :: es) X.env = (false, eval e X.env) :: starEach es X.env := by rfl) (hpl : (backTo pos (starEach es X.env)).any (·.1) = false := by rfl) : SE X κ C (.Call (.Name x p) (e :: es) [] pos) (eBf f mas) :=
  SE.mk' (pe_callTy hc hg hm hv ha.pa hn hdb he hpl) fun φ ev h σ H Q S r p => by
    obtain ⟨ds, h1, e1, p⟩ := Post.bind p
    exact ta_of S r e1 fun φ1 H1 vs st S1 r1 q1 => ⟨φ1, h1, ds, S1, q1, p.step st⟩
end
end Z
/-! Z5: built-in functions, fields, own defs, methods, comprehensions. -/
namespace Z
open PySem L2 PyProof.Rows

def intsD : List D → Option (List Int) := fun ds => seqO (ds.map fun d => match d with
  | .int i => some i
  | _ => none)
def bLen : List D → HP → R D := fun xs h => match xs with
  | [.str z] => if z.length ≤ sizeLine then .ok (.int z.length) h else .no
  | [.tup ds] => .ok (.int ds.length) h
  | [.ref i] => match h[i]? with
    | some (.dic kvs) => .ok (.int kvs.length) h
    | _ => match isL i h with
      | some ds => .ok (.int ds.length) h
      | none => .no
  | _ => .no
def bAbs : List D → HP → R D := fun xs h => match xs with
  | [.int i] => .ok (.int (if i < 0 then -i else i)) h
  | _ => .no
def maxL : List Int → Option Int
  | [] => none
  | i :: r => some (r.foldl (fun a b => if b > a then b else a) i)
def minL : List Int → Option Int
  | [] => none
  | i :: r => some (r.foldl (fun a b => if b < a then b else a) i)
def bMax : List D → HP → R D := fun xs h => match xs with
  | [.int i, .int j] => .ok (.int (if j > i then j else i)) h
  | [.int i, .int j, .int k] => .ok (.int (if j > i then (if k > j then k else j) else (if k > i then k else i))) h
  | [.ref i] => match isL i h with
    | some ds => match intsD ds with
      | some ns => match maxL ns with
        | some m => .ok (.int m) h
        | none => .no
      | none => .no
    | none => .no
  | _ => .no
def bMin : List D → HP → R D := fun xs h => match xs with
  | [.int i, .int j] => .ok (.int (if j < i then j else i)) h
  | [.ref i] => match isL i h with
    | some ds => match intsD ds with
      | some ns => match minL ns with
        | some m => .ok (.int m) h
        | none => .no
      | none => .no
    | none => .no
  | _ => .no
def bSum : List D → HP → R D := fun xs h => match xs with
  | [.ref i] => match isL i h with
    | some ds => match intsD ds with
      | some ns => .ok (.int ns.sum) h
      | none => .no
    | none => .no
  | _ => .no
def bInt : List D → HP → R D := fun xs h => match xs with
  | [.int i] => .ok (.int i) h
  | [.bl b] => .ok (.int (if b then 1 else 0)) h
  | [.str z] => match PySem.intText? z with
    | some n => if z.length ≤ 640 then .ok (.int n) h else .no
    | none => .no
  | _ => .no
def bStr : List D → HP → R D := fun xs h => match xs with
  | [.int i] => if i.natAbs.log2 < 1920 then .ok (.str (toString i)) h else .no
  | [.str z] => .ok (.str z) h
  | _ => .no
def bDvm : List D → HP → R D := fun xs h => match xs with
  | [.int i, .int j] => if 0 < j ∧ divOk j = true then .ok (.tup [.int (i / j), .int (i % j)]) h else .no
  | _ => .no
section
variable {K : PySem.W.Frag} {κ φ : Nat → Addr} {h : HP} {H : Hp}
theorem intsD_of : ∀ {ds : List D} {ns : List Int}, intsD ds = some ns → ds = ns.map D.int
  | [], ns, e => by simp only [intsD, List.map_nil, seqO, Option.some.injEq] at e; subst e; rfl
  | d :: ds, ns, e => by
    simp only [intsD, List.map_cons] at e
    cases d with
    | int i =>
      simp only [seqO] at e
      cases e2 : intsD ds with
      | none => unfold intsD at e2; rw [e2] at e; cases e
      | some as =>
        have e3 := e2
        unfold intsD at e3
        rw [e3] at e
        simp only [Option.map_some, Option.some.injEq] at e
        subst e
        rw [List.map_cons, intsD_of e2]
    | non => simp [seqO] at e
    | bl _ => simp [seqO] at e
    | str _ => simp [seqO] at e
    | tup _ => simp [seqO] at e
    | ref _ => simp [seqO] at e
theorem intsD_ints : ∀ ns : List Int, intsD (ns.map D.int) = some ns
  | [] => rfl
  | i :: r => by
    have ih := intsD_ints r
    unfold intsD at ih ⊢
    simp only [List.map_cons, seqO]
    rw [ih]; rfl
theorem Sim.intsL (S : Sim K κ φ h H) {i : Nat} {ds : List D} {ns : List Int} (e : Z.isL i h = some ds) (en : intsD ds = some ns) : SqL K H (φ i) (ns.map V.int) := by
  obtain ⟨vs, hs, r⟩ := S.isL e
  rw [intsD_of en] at r
  rw [r.ints] at hs
  exact hs
theorem foldl_max : ∀ (r : List Int) (i : Int), (∀ y ∈ i :: r, y ≤ r.foldl (fun a b => if b > a then b else a) i) ∧ r.foldl (fun a b => if b > a then b else a) i ∈ i :: r
  | [], i => by simp
  | b :: r, i => by
    obtain ⟨h1, h2⟩ := foldl_max r (if b > i then b else i)
    simp only [List.foldl_cons]
    refine ⟨fun y hy => ?_, ?_⟩
    · have h0 := h1 (if b > i then b else i) List.mem_cons_self
      have h3 := fun y hy => h1 y (List.mem_cons_of_mem _ hy)
      generalize List.foldl (fun a b => if b > a then b else a) (if b > i then b else i) r = m at h0 h3 ⊢
      rcases List.mem_cons.mp hy with hy | hy
      · split at h0 <;> omega
      · rcases List.mem_cons.mp hy with hy | hy
        · split at h0 <;> omega
        · exact h3 y hy
    · rcases List.mem_cons.mp h2 with e | h2
      · rw [e]
        split
        · exact List.mem_cons_of_mem _ List.mem_cons_self
        · exact List.mem_cons_self
      · exact List.mem_cons_of_mem _ (List.mem_cons_of_mem _ h2)
theorem foldl_min : ∀ (r : List Int) (i : Int), (∀ y ∈ i :: r, r.foldl (fun a b => if b < a then b else a) i ≤ y) ∧ r.foldl (fun a b => if b < a then b else a) i ∈ i :: r
  | [], i => by simp
  | b :: r, i => by
    obtain ⟨h1, h2⟩ := foldl_min r (if b < i then b else i)
    simp only [List.foldl_cons]
    refine ⟨fun y hy => ?_, ?_⟩
    · have h0 := h1 (if b < i then b else i) List.mem_cons_self
      have h3 := fun y hy => h1 y (List.mem_cons_of_mem _ hy)
      generalize List.foldl (fun a b => if b < a then b else a) (if b < i then b else i) r = m at h0 h3 ⊢
      rcases List.mem_cons.mp hy with hy | hy
      · split at h0 <;> omega
      · rcases List.mem_cons.mp hy with hy | hy
        · split at h0 <;> omega
        · exact h3 y hy
    · rcases List.mem_cons.mp h2 with e | h2
      · rw [e]
        split
        · exact List.mem_cons_of_mem _ List.mem_cons_self
        · exact List.mem_cons_self
      · exact List.mem_cons_of_mem _ (List.mem_cons_of_mem _ h2)
theorem maxL_of {ns : List Int} {m k : Int} (e : maxL ns = some m) (hk : k ∈ ns) (hy : ∀ y, y ∈ ns → y ≤ k) : k = m := by
  cases ns with
  | nil => cases e
  | cons i r =>
    simp only [maxL, Option.some.injEq] at e
    subst e
    obtain ⟨h1, h2⟩ := foldl_max r i
    exact Int.le_antisymm (h1 k hk) (hy _ h2)
theorem minL_of {ns : List Int} {m k : Int} (e : minL ns = some m) (hk : k ∈ ns) (hy : ∀ y, y ∈ ns → k ≤ y) : k = m := by
  cases ns with
  | nil => cases e
  | cons i r =>
    simp only [minL, Option.some.injEq] at e
    subst e
    obtain ⟨h1, h2⟩ := foldl_min r i
    exact Int.le_antisymm (hy _ h2) (h1 k hk)
theorem RVs.one_inv {n : Nat} {d : D} {vs : List V} (r : RVs φ n H [d] vs) : ∃ v, vs = [v] ∧ RV φ n H d v := by
  simp only [RVs] at r
  obtain ⟨v, r', rfl, q, rfl⟩ := r
  exact ⟨v, rfl, q⟩
theorem RVs.two_inv {n : Nat} {d d' : D} {vs : List V} (r : RVs φ n H [d, d'] vs) : ∃ v v', vs = [v, v'] ∧ RV φ n H d v ∧ RV φ n H d' v' := by
  simp only [RVs] at r
  obtain ⟨v, r', rfl, q, v', r2, rfl, q2, rfl⟩ := r
  exact ⟨v, v', rfl, q, q2⟩
theorem RVs.three_inv {n : Nat} {d d' d2 : D} {vs : List V} (r : RVs φ n H [d, d', d2] vs) : ∃ v v' v2, vs = [v, v', v2] ∧ RV φ n H d v ∧ RV φ n H d' v' ∧ RV φ n H d2 v2 := by
  simp only [RVs] at r
  obtain ⟨v, r', rfl, q, v', r2, rfl, q2, v3, r3, rfl, q3, rfl⟩ := r
  exact ⟨v, v', v3, rfl, q, q2, q3⟩
end
section
variable {X : Cx} {κ : Nat → Addr}
theorem cd_len : CallR X (.builtin "len") (rB X.K κ bLen) := by
  intro pins s σ H xs us Q I r ⟨φ, h, ds, S, q, p⟩
  unfold bLen at p
  split at p
  · (replace q := q.one_inv); obtain ⟨v, rfl, q⟩ := q
    split at p
    · rename_i hz
      rw [RV.str_iff] at q
      subst q
      exact call_len pins s σ H _ us Q I r ⟨_, _, rfl, ⟨hz, rfl⟩, p.of0 S (RV.int_iff.mpr rfl)⟩
    · exact False.elim p
  · (replace q := q.one_inv); obtain ⟨v, rfl, q⟩ := q
    rw [RV.tup_iff] at q
    obtain ⟨pp, vs, rfl, hp, q2⟩ := q
    exact call_len pins s σ H _ us Q I r ⟨_, _, rfl, .inr ⟨vs, SqT.of hp, q2.len.symm⟩, p.of0 S (RV.int_iff.mpr rfl)⟩
  · (replace q := q.one_inv); obtain ⟨v, rfl, q⟩ := q
    rw [RV.ref_iff] at q
    obtain ⟨hi, rfl⟩ := q
    split at p
    · rename_i e
      obtain ⟨us', hd, rr⟩ := S.dic e
      obtain ⟨u, rfl, ru⟩ := vals1 r
      obtain rfl : u = Value.ref _ := ru
      exact d_len I (.inl hd) fun t s' I' => ⟨.int us'.length, H, I', ⟨t, rfl⟩, by rw [rr.len]; exact p.of0 S (RV.int_iff.mpr rfl)⟩
    · split at p
      · rename_i ds' hl
        obtain ⟨vs, hs, rr⟩ := S.isL hl
        exact call_len pins s σ H _ us Q I r ⟨_, _, rfl, .inl ⟨vs, hs, rr.len.symm⟩, p.of0 S (RV.int_iff.mpr rfl)⟩
      · exact False.elim p
  · exact False.elim p
theorem cd_abs : CallR X (.builtin "abs") (rB X.K κ bAbs) := by
  intro pins s σ H xs us Q I r ⟨φ, h, ds, S, q, p⟩
  unfold bAbs at p
  split at p
  · (replace q := q.one_inv); obtain ⟨v, rfl, q⟩ := q
    rw [RV.int_iff] at q
    subst q
    exact call_abs pins s σ H _ us Q I r ⟨_, rfl, p.of0 S (RV.int_iff.mpr rfl)⟩
  · exact False.elim p
theorem cd_max (hc : X.calm = true) : CallR X (.builtin "max") (rB X.K κ bMax) := by
  intro pins s σ H xs us Q I r ⟨φ, h, ds, S, q, p⟩
  unfold bMax at p
  split at p
  · (replace q := q.two_inv); obtain ⟨v, v', rfl, q, q'⟩ := q
    rw [RV.int_iff] at q q'
    subst q q'
    exact call_max2 hc pins s σ H _ us Q I r ⟨_, _, rfl, p.of0 S (RV.int_iff.mpr rfl)⟩
  · rename_i i j k
    (replace q := q.three_inv); obtain ⟨v, v', v2, rfl, q, q', q2⟩ := q
    rw [RV.int_iff] at q q' q2
    subst q q' q2
    cases r with
    | cons r1 r =>
      cases r with
      | cons r2 r =>
        cases r with
        | cons r3 r =>
          cases r
          obtain ⟨t1, rfl⟩ := r1
          obtain ⟨t2, rfl⟩ := r2
          obtain ⟨t3, rfl⟩ := r3
          refine max_three_ints (I.ok.hd hc) fun h' tk k' => ⟨.int (if j > i then (if k > j then k else j) else (if k > i then k else i)), H, I.kept k', ?_, p.of0 S (RV.int_iff.mpr rfl)⟩
          by_cases h1 : j > i
          · rw [if_pos h1, if_pos h1]
            by_cases h2 : k > j
            · rw [if_pos h2, if_pos h2]; exact ⟨_, rfl⟩
            · rw [if_neg h2, if_neg h2]; exact ⟨_, rfl⟩
          · rw [if_neg h1, if_neg h1]
            by_cases h2 : k > i
            · rw [if_pos h2, if_pos h2]; exact ⟨_, rfl⟩
            · rw [if_neg h2, if_neg h2]; exact ⟨_, rfl⟩
  · (replace q := q.one_inv); obtain ⟨v, rfl, q⟩ := q
    rw [RV.ref_iff] at q
    obtain ⟨hi, rfl⟩ := q
    split at p
    · rename_i ds' hl
      split at p
      · rename_i ns en
        split at p
        · rename_i m em
          have hne : 0 < ns.length := by
            cases ns with
            | nil => cases em
            | cons _ _ => simp
          exact cr_max hc pins s σ H _ us Q I r ⟨_, ns, rfl, S.intsL hl en, hne, fun k hk hy => by rw [maxL_of em hk hy]; exact p.of0 S (RV.int_iff.mpr rfl)⟩
        · exact False.elim p
      · exact False.elim p
    · exact False.elim p
  · exact False.elim p
theorem cd_min (hc : X.calm = true) : CallR X (.builtin "min") (rB X.K κ bMin) := by
  intro pins s σ H xs us Q I r ⟨φ, h, ds, S, q, p⟩
  unfold bMin at p
  split at p
  · (replace q := q.two_inv); obtain ⟨v, v', rfl, q, q'⟩ := q
    rw [RV.int_iff] at q q'
    subst q q'
    exact call_min2 hc pins s σ H _ us Q I r ⟨_, _, rfl, p.of0 S (RV.int_iff.mpr rfl)⟩
  · (replace q := q.one_inv); obtain ⟨v, rfl, q⟩ := q
    rw [RV.ref_iff] at q
    obtain ⟨hi, rfl⟩ := q
    split at p
    · rename_i ds' hl
      split at p
      · rename_i ns en
        split at p
        · rename_i m em
          have hne : 0 < ns.length := by
            cases ns with
            | nil => cases em
            | cons _ _ => simp
          exact cr_min hc pins s σ H _ us Q I r ⟨_, ns, rfl, S.intsL hl en, hne, fun k hk hy => by rw [minL_of em hk hy]; exact p.of0 S (RV.int_iff.mpr rfl)⟩
        · exact False.elim p
      · exact False.elim p
    · exact False.elim p
  · exact False.elim p
theorem cd_sum (hc : X.calm = true) : CallR X (.builtin "sum") (rB X.K κ bSum) := by
  intro pins s σ H xs us Q I r ⟨φ, h, ds, S, q, p⟩
  unfold bSum at p
  split at p
  · (replace q := q.one_inv); obtain ⟨v, rfl, q⟩ := q
    rw [RV.ref_iff] at q
    obtain ⟨hi, rfl⟩ := q
    split at p
    · rename_i ds' hl
      split at p
      · rename_i ns en
        exact cr_sum hc pins s σ H _ us Q I r ⟨_, ns, rfl, S.intsL hl en, p.of0 S (RV.int_iff.mpr rfl)⟩
      · exact False.elim p
    · exact False.elim p
  · exact False.elim p
theorem cd_int : CallR X (.type "int") (rB X.K κ bInt) := by
  intro pins s σ H xs us Q I r ⟨φ, h, ds, S, q, p⟩
  unfold bInt at p
  split at p
  · (replace q := q.one_inv); obtain ⟨v, rfl, q⟩ := q
    rw [RV.int_iff] at q
    subst q
    exact call_int1 pins s σ H _ us Q I r (.inl ⟨_, rfl, p.of0 S (RV.int_iff.mpr rfl)⟩)
  · (replace q := q.one_inv); obtain ⟨v, rfl, q⟩ := q
    rw [RV.bl_iff] at q
    subst q
    exact call_int1 pins s σ H _ us Q I r (.inr ⟨_, rfl, p.of0 S (RV.int_iff.mpr rfl)⟩)
  · (replace q := q.one_inv); obtain ⟨v, rfl, q⟩ := q
    rw [RV.str_iff] at q
    subst q
    split at p
    · rename_i n en
      split at p
      · rename_i hz
        exact call_int_str pins s σ H _ us Q I r ⟨_, _, rfl, en, hz, p.of0 S (RV.int_iff.mpr rfl)⟩
      · exact False.elim p
    · exact False.elim p
  · exact False.elim p
theorem cd_str : CallR X (.type "str") (rB X.K κ bStr) := by
  intro pins s σ H xs us Q I r ⟨φ, h, ds, S, q, p⟩
  unfold bStr at p
  split at p
  · (replace q := q.one_inv); obtain ⟨v, rfl, q⟩ := q
    split at p
    · rename_i hz
      rw [RV.int_iff] at q
      subst q
      exact call_str_int pins s σ H _ us Q I r ⟨_, rfl, hz, p.of0 S (RV.str_iff.mpr rfl)⟩
    · exact False.elim p
  · (replace q := q.one_inv); obtain ⟨v, rfl, q⟩ := q
    rw [RV.str_iff] at q
    subst q
    exact SkE.call_str_str pins s σ H _ us Q I r ⟨_, rfl, p.of0 S (RV.str_iff.mpr rfl)⟩
  · exact False.elim p
theorem cd_dvm : CallR X (.builtin "divmod") (rB X.K κ bDvm) := by
  intro pins s σ H xs us Q I r ⟨φ, h, ds, S, q, p⟩
  unfold bDvm at p
  split at p
  · rename_i i j
    (replace q := q.two_inv); obtain ⟨v, v', rfl, q, q'⟩ := q
    split at p
    · rename_i hz
      rw [RV.int_iff] at q q'
      subst q q'
      have h2 := hz.2
      unfold divOk at h2
      rw [Bool.and_eq_true] at h2
      exact call_divmodW pins s σ H _ us Q I r ⟨_, _, rfl, ⟨hz.1, PyProof.noPylong_of_log2 (of_decide_eq_true h2.2)⟩, fun t ht => p.newT S ht (RVs.cons (RV.int_iff.mpr rfl) (RVs.one (RV.int_iff.mpr rfl)))⟩
    · exact False.elim p
  · exact False.elim p
end

/-! ### isinstance -/
def tyName (d : D) (h : HP) : Option String := match d with
  | .non => some "NoneType"
  | .bl _ => some "bool"
  | .int _ => some "int"
  | .str _ => some "str"
  | .tup _ => some "tuple"
  | .ref i => match h[i]? with
    | some (.lst _) => some "list"
    | some (.fz _) => some "list"
    | some (.dic _) => some "dict"
    | some (.dct _) => some "dict"
    | _ => none
def eIs (T : String) (a : ME) : ME := fun C e h => (a C e h).bind fun x h => match tyName x h with
  | some n => .ok (.bl (n == T || (n == "bool" && T == "int"))) h
  | none => .no
def isTs : List String := ["int", "bool", "str", "list", "tuple", "dict"]
theorem kit_all : (["NoneType", "bool", "int", "str", "tuple", "list", "dict"].all fun n => isTs.all fun T => kitB n T == some (n == T || (n == "bool" && T == "int"))) = true := by decide +kernel
theorem kit_is {n T : String} (hn : n ∈ ["NoneType", "bool", "int", "str", "tuple", "list", "dict"]) (hT : T ∈ isTs) : kitB n T = some (n == T || (n == "bool" && T == "int")) := by
  have h := List.all_eq_true.mp kit_all n hn
  have h2 := List.all_eq_true.mp h T hT
  exact beq_iff_eq.mp h2
theorem tyName_mem {d : D} {h : HP} {n : String} (e : tyName d h = some n) : n ∈ ["NoneType", "bool", "int", "str", "tuple", "list", "dict"] := by
  unfold tyName at e
  split at e
  iterate 5 (cases e; simp)
  split at e <;> first | (cases e; simp) | cases e
theorem tyX_of {K : PySem.W.Frag} {κ φ : Nat → Addr} {h : HP} {H : Hp} {d : D} {v : V} {n : String} (S : Sim K κ φ h H) (r : RV φ h.length H d v) (e : tyName d h = some n) : TyX K H v (.type n) := by
  unfold tyName at e
  split at e
  · cases e; rw [RV.non_iff] at r; subst r; exact .base .non
  · cases e; rw [RV.bl_iff] at r; subst r; exact .base (.bl _)
  · cases e; rw [RV.int_iff] at r; subst r; exact .base (.int _)
  · cases e; rw [RV.str_iff] at r; subst r; exact .base (.str _)
  · cases e; rw [RV.tup_iff] at r; obtain ⟨p, vs, rfl, hp, _⟩ := r; exact .base (.tup hp)
  · rw [RV.ref_iff] at r
    obtain ⟨hi, rfl⟩ := r
    split at e
    · rename_i q; cases e; obtain ⟨vs, hv, _⟩ := S.lst q; exact .base (.lst hv)
    · rename_i q
      cases e
      obtain ⟨vs, hv, _⟩ := S.obj _ _ q
      rcases hv with ⟨o, hv⟩ | ⟨o, its, m, hk, hc, _⟩
      · exact .base (.frz hv)
      · exact .kList hk hc
    · rename_i q; cases e; obtain ⟨vs, hv, _⟩ := S.dic q; exact .base (.dK hv)
    · rename_i q; cases e; obtain ⟨vs, hv, _⟩ := S.dct q; exact .base (.dT hv)
    · cases e
section
variable {X : Cx} {κ : Nat → Addr} {C : Ctx} {a b c e : Expr} {es : List Expr} {ma mb mc : ME} {ta tb : MT} {mas : MA} {pos p2 p3 : Pos}
theorem se_is {T : String} {Ts : Str} (ha : SE X κ C a ma) (hm : X.mg "isinstance" = none) (hT : X.mg Ts = none) (hv : bootBuiltins Ts = some (.type T)) (hTs : T ∈ isTs := by decide) (hg : Gl X "isinstance" := by rfl) (hgT : Gl X Ts := by rfl)
    (hn : Ts ≠ "__name__" := by decide) (hdb : (Ts == ("__debug__" : Str)) = false := by decide)
    (hs1 : starEach [a, .Name Ts p3] X.env = (false, eval a X.env) :: starEach [.Name Ts p3] X.env := by rfl) (hs2 : starEach [.Name Ts p3] X.env = (false, eval (.Name Ts p3) X.env) :: starEach [] X.env := by rfl)
    (hpl : (backTo pos (starEach [.Name Ts p3] X.env)).any (·.1) = false := by rfl) : SE X κ C (.Call (.Name "isinstance" p2) [a, .Name Ts p3] [] pos) (eIs T ma) :=
  SE.mk' (pe_callB call_isi hg hm (by decide +kernel) (pa_cons ha.pe (pa_cons (pe_bltn (v := .ty T) hgT hT hv rfl hn hdb) pa_nil hs2) hs1) (by decide) (by decide) hs1 hpl) fun φ ev h σ H Q S r p => by
    obtain ⟨dx, h1, e1, p⟩ := Post.bind p
    refine td_of S r e1 fun φ1 H1 v st S1 r1 q1 => ?_
    split at p
    · rename_i n en
      exact ⟨v, .ty T, .type n, .type T, _, rfl, .ty T, tyX_of S1 q1 en, kit_ty (kit_is (tyName_mem en) hTs), p φ1 H1 _ st S1 (RV.bl_iff.mpr rfl)⟩
    · exact False.elim p

/-! ### fields -/
/-- what is known of the field f of own classes -/
def FldOk (K : PySem.W.Frag) (κ : Nat → Addr) (cs : List Nat) (f : Str) : Prop := ∀ c ∈ cs, Cls K (κ c) ∧ NoAttr K (κ c) f
theorem se_fld {cs : List Nat} {f : Str} (hf : FldOk X.K κ cs f) (ha : SE X κ C a ma) (hb : attributeBase a f X.env (eval a X.env) = eval a X.env := by rfl) : SE X κ C (.Attribute a f pos) (eFld cs ma f) :=
  SE.mk' (pe_fld ha.pe hb) fun φ ev h σ H Q S r p => by
    obtain ⟨dx, h1, e1, p⟩ := Post.bind p
    refine td_of S r e1 fun φ1 H1 v st S1 r1 q1 => ?_
    split at p
    · rw [RV.ref_iff] at q1
      obtain ⟨hi, rfl⟩ := q1
      split at p
      · rename_i c fs e
        obtain ⟨dx, us, hu, rr⟩ := S1.ins e
        split at p
        · rename_i hc
          split at p
          · rename_i d ed
            obtain ⟨w, e2, q2⟩ := rr.look ed
            exact ⟨_, _, dx, us, w, rfl, hu, (hf c hc).1, (hf c hc).2, e2, p φ1 H1 w st S1 q2⟩
          · exact False.elim p
        · exact False.elim p
      · exact False.elim p
    · exact False.elim p
end

/-! ### own defs -/
/-- what a call of a def is worth -/
def spD (K : PySem.W.Frag) (κ : Nat → Addr) (np : Nat) (f : List D → HP → R D) : Sp := fun vs H Q _ => vs.length = np ∧ ∃ φ h ds, Sim K κ φ h H ∧ RVs φ h.length H ds vs ∧ Post K κ φ h H (f ds h) Q
/-- the def answers to so many arguments alone -/
def Ary (np : Nat) (f : List D → HP → R D) : Prop := ∀ ds h, ds.length ≠ np → f ds h = .no
structure FnF (P : Program) (w : World) (K : PySem.W.Frag) (mg : Str → Option Value) (base : Heap) (κ : Nat → Addr) (k : Nat) (nm : Str) (dfs : List Int) (f : List D → HP → R D) : Prop where
  ex : ∃ (fa : Addr) (fd : FuncData) (ps : List Str) (us : List Value), mg nm = some (.ref fa) ∧ PySem.W.keepIn K (.ref fa) = true ∧ Binds K fd ps [] ∧ Binds K fd ps us ∧ Vals (dfs.map V.int) us ∧ Ary ps.length f ∧ FnOk P w K mg base CX0 k fa fd ps (spD K κ ps.length f)
structure MeF (P : Program) (w : World) (K : PySem.W.Frag) (mg : Str → Option Value) (base : Heap) (κ : Nat → Addr) (k : Nat) (c : Nat) (nm : Str) (f : List D → HP → R D) : Prop where
  ex : ∃ (fa : Addr) (fd : FuncData) (ps : List Str), Cls K (κ c) ∧ Meth K (κ c) nm fa ∧ Binds K fd ps [] ∧ Ary ps.length f ∧ FnOk P w K mg base CX0 k fa fd ps (spD K κ ps.length f)
structure MkF (P : Program) (w : World) (K : PySem.W.Frag) (mg : Str → Option Value) (base : Heap) (κ : Nat → Addr) (k : Nat) (c : Nat) (nm : Str) (f : List D → HP → R D) : Prop where
  ex : ∃ (fa : Addr) (fd : FuncData) (ps : List Str), mg nm = some (.ref (κ c)) ∧ Mk K (κ c) fa ∧ Binds K fd ps [] ∧ Ary ps.length f ∧ FnOk P w K mg base CX0 k fa fd ps (spD K κ ps.length f)
/-- a new instance is laid -/
theorem Sim.make {K : PySem.W.Frag} {κ φ : Nat → Addr} {h : HP} {H : Hp} {x dx : Addr} {c : Nat} (S : Sim K κ φ h H) (hx : H x = none) (hd : H dx = none) (ne : dx ≠ x) :
    Step φ h H (ext φ h.length x) (h ++ [.ins c []]) (upd (upd H dx (.own x)) x (.ins (κ c) dx [])) ∧ Sim K κ (ext φ h.length x) (h ++ [.ins c []]) (upd (upd H dx (.own x)) x (.ins (κ c) dx [])) := by
  have S1 : Sim K κ φ h (upd H dx (.own x)) := S.temp hd
  have t1 : Step φ h H φ h (upd H dx (.own x)) := step_temp S hd
  have hx1 : upd H dx (.own x) x = none := by rw [upd_ne (Ne.symm ne)]; exact hx
  exact ⟨t1.trans (step_new S1 hx1), S1.new hx1 fun st => ⟨dx, [], upd_same, by simp [RKs]⟩⟩
theorem Ary.len {np : Nat} {f : List D → HP → R D} (a : Ary np f) {ds : List D} {h h' : HP} {d : D} (e : f ds h = .ok d h') : ds.length = np := by
  by_cases hn : ds.length = np
  · exact hn
  · rw [a ds h hn] at e; cases e
theorem Post.ok {K : PySem.W.Frag} {κ φ : Nat → Addr} {h : HP} {H : Hp} {r : R D} {Q : VK} (p : Post K κ φ h H r Q) : ∃ d h', r = .ok d h' := by
  cases r with
  | ok d h' => exact ⟨d, h', rfl⟩
  | ex _ _ _ => exact False.elim p
  | no => exact False.elim p
section
variable {X : Cx} {κ : Nat → Addr} {C : Ctx} {a b c e o : Expr} {es : List Expr} {ma mb mc mo : ME} {ta tb : MT} {mas : MA} {pos p2 p3 apos : Pos} {j k : Nat}
/-- f(e, ..), every argument given -/
theorem se_call {x : Str} {n : Nat} {dfs : List Int} (F : FnF X.prog X.w X.K X.mg X.base κ k x dfs (C.call n)) (hr : Room k X.A) (ha : SA X κ C (e :: es) mas) (hg : Gl X x := by rfl) (hdb : (x == ("__debug__" : Str)) = false := by decide)
    (he : starEach (e :: es) X.env = (false, eval e X.env) :: starEach es X.env := by rfl) (hpl : (backTo pos (starEach es X.env)).any (·.1) = false := by rfl) : SE X κ C (.Call (.Name x p2) (e :: es) [] pos) (eCall n mas []) := by
  obtain ⟨fa, fd, ps, us, hm, hk, hb, _, _, ar, G⟩ := F.ex
  refine SE.mk' (pe_call G hr hg hm hk hb .nil pass0 ha.pa hdb he hpl) fun φ ev h σ H Q S r p => ?_
  obtain ⟨ds, h1, e1, p⟩ := Post.bind p
  refine ta_of S r e1 fun φ1 H1 vs st S1 r1 q1 => ?_
  rw [List.append_nil] at p ⊢
  obtain ⟨d, h', ed⟩ := p.ok
  exact ⟨by rw [q1.len]; exact ar.len ed, φ1, h1, ds, S1, q1, p.step st⟩
/-- f(e, ..), the defaults filled up -/
theorem se_calld {x : Str} {n : Nat} {dfs : List Int} {dds : List D} (F : FnF X.prog X.w X.K X.mg X.base κ k x dfs (C.call n)) (hr : Room k X.A) (ha : SA X κ C (e :: es) mas) (hg : Gl X x := by rfl) (hdb : (x == ("__debug__" : Str)) = false := by decide)
    (he : starEach (e :: es) X.env = (false, eval e X.env) :: starEach es X.env := by rfl) (hpl : (backTo pos (starEach es X.env)).any (·.1) = false := by rfl) (hds : dfs.map D.int = dds := by rfl) : SE X κ C (.Call (.Name x p2) (e :: es) [] pos) (eCall n mas dds) := by
  subst hds
  obtain ⟨fa, fd, ps, us, hm, hk, _, hb, hv, ar, G⟩ := F.ex
  refine SE.mk' (pe_call G hr hg hm hk hb hv pass0 ha.pa hdb he hpl) fun φ ev h σ H Q S r p => ?_
  obtain ⟨ds, h1, e1, p⟩ := Post.bind p
  refine ta_of S r e1 fun φ1 H1 vs st S1 r1 q1 => ?_
  obtain ⟨d, h', ed⟩ := p.ok
  have q2 := q1.append (RVs.of_ints (φ := φ1) (n := h1.length) (H := H1) (ns := dfs))
  exact ⟨by rw [q2.len]; exact ar.len ed, φ1, h1, _, S1, q2, p.step st⟩
theorem se_call0 {x : Str} {n : Nat} {dfs : List Int} (F : FnF X.prog X.w X.K X.mg X.base κ k x dfs (C.call n)) (hr : Room k X.A) (hg : Gl X x := by rfl) (hdb : (x == ("__debug__" : Str)) = false := by decide) : SE X κ C (.Call (.Name x p2) [] [] pos) (eCall n aN []) := by
  obtain ⟨fa, fd, ps, us, hm, hk, hb, _, _, ar, G⟩ := F.ex
  refine SE.mk' (pe_call0 G hr hg hm hk hb .nil pass0 hdb) fun φ ev h σ H Q S r p => ?_
  have p : Post X.K κ φ h H (C.call n [] h) Q := p
  obtain ⟨d, h', ed⟩ := p.ok
  exact ⟨ar.len ed, φ, h, [], S, by simp [RVs], p⟩
/-- o.m(e, ..), o of one of the classes cs -/
theorem se_meth {cs : List Nat} {m : Str} {n : Nat} {pl : Sem Bool} (F : ∀ c ∈ cs, MeF X.prog X.w X.K X.mg X.base κ k c m (C.meth c n)) (hr : Room k X.A) (ho : SE X κ C o mo) (ha : SA X κ C (e :: es) mas)
    (hst : starEach (e :: es) X.env = (false, eval e X.env) :: starEach es X.env := by rfl) (hpl : (backTo pos (starEach es X.env)).any (·.1) = false := by rfl)
    (ht : eval (.Call (.Attribute o m apos) (e :: es) [] pos) X.env = (do { let ov ← eval o X.env; standAt apos.atName; let (f, first) ← holding [ov] (getMethod ov m pl); callWith pos f first (backTo pos (starEach (e :: es) X.env)) (backToKw pos (keywordEach [] X.env)) }) := by rfl) : SE X κ C (.Call (.Attribute o m apos) (e :: es) [] pos) (eMeth cs mo n m mas) := by
  refine ⟨⟨fun pins s σ H Q I ⟨φ, ev, h, S, r, p⟩ => ?_⟩⟩
  obtain ⟨dx, h1, e1, p⟩ := Post.bind p
  split at p
  · rename_i i
    split at p
    · rename_i c fs ei
      split at p
      · rename_i hc
        obtain ⟨ds, h2, e2, p⟩ := Post.bind p
        obtain ⟨d, h', ed⟩ := p.ok
        obtain ⟨fa, fd, ps, hcl, hme, hb, ar, G⟩ := (F c hc.1).ex
        refine (pe_meth ho.pe hcl hme G hr hb .nil pass0 ha.pa hst hpl ht).run pins s σ H Q I ?_
        refine td_of S r e1 fun φ1 H1 v st S1 r1 q1 => ?_
        have q0 := q1
        rw [RV.ref_iff] at q1
        obtain ⟨hi, rfl⟩ := q1
        obtain ⟨dx, us, hu, rr⟩ := S1.ins ei
        refine ⟨_, dx, us, rfl, hu, rr.look0 (Option.isNone_iff_eq_none.mp hc.2), ?_⟩
        refine ta_of S1 r1 e2 fun φ2 H2 vs st2 S2 r2 q2 => ?_
        rw [List.append_nil]
        have q3 := RVs.cons (q0.step S1 st2) q2
        exact ⟨by rw [q3.len]; exact ar.len ed, φ2, h2, _, S2, q3, p.step (st.trans st2)⟩
      · exact False.elim p
    · exact False.elim p
  · exact False.elim p
theorem se_meth0 {cs : List Nat} {m : Str} {n : Nat} {pl : Sem Bool} (F : ∀ c ∈ cs, MeF X.prog X.w X.K X.mg X.base κ k c m (C.meth c n)) (hr : Room k X.A) (ho : SE X κ C o mo)
    (ht : eval (.Call (.Attribute o m apos) [] [] pos) X.env = (do { let ov ← eval o X.env; standAt apos.atName; let (f, first) ← holding [ov] (getMethod ov m pl); callWith pos f first (backTo pos (starEach [] X.env)) (backToKw pos (keywordEach [] X.env)) }) := by rfl) : SE X κ C (.Call (.Attribute o m apos) [] [] pos) (eMeth cs mo n m aN) := by
  refine ⟨⟨fun pins s σ H Q I ⟨φ, ev, h, S, r, p⟩ => ?_⟩⟩
  obtain ⟨dx, h1, e1, p⟩ := Post.bind p
  split at p
  · rename_i i
    split at p
    · rename_i c fs ei
      split at p
      · rename_i hc
        have p : Post X.K κ φ h H (C.meth c n [.ref i] h1) Q := p
        obtain ⟨d, h', ed⟩ := p.ok
        obtain ⟨fa, fd, ps, hcl, hme, hb, ar, G⟩ := (F c hc.1).ex
        refine (pe_meth0 ho.pe hcl hme G hr hb .nil pass0 ht).run pins s σ H Q I ?_
        refine td_of S r e1 fun φ1 H1 v st S1 r1 q1 => ?_
        have q0 := q1
        rw [RV.ref_iff] at q1
        obtain ⟨hi, rfl⟩ := q1
        obtain ⟨dx, us, hu, rr⟩ := S1.ins ei
        refine ⟨_, dx, us, rfl, hu, rr.look0 (Option.isNone_iff_eq_none.mp hc.2), ?_⟩
        have q3 := RVs.one q0
        exact ⟨(show [V.ref (φ1 i)].length = ps.length by rw [q3.len]; exact ar.len ed), φ1, h1, _, S1, q3, p.step st⟩
      · exact False.elim p
    · exact False.elim p
  · exact False.elim p
/-- C(e, ..), an own class with an __init__ -/
theorem se_make {x : Str} {c : Nat} {me : Nat → Nat → List D → HP → R D} (hC : C.make = mkBy me) (F : MkF X.prog X.w X.K X.mg X.base κ k c x (me c 0)) (hr : Room (k + 1) X.A) (ha : SA X κ C (e :: es) mas) (hg : Gl X x := by rfl) (hdb : (x == ("__debug__" : Str)) = false := by decide)
    (he : starEach (e :: es) X.env = (false, eval e X.env) :: starEach es X.env := by rfl) (hpl : (backTo pos (starEach es X.env)).any (·.1) = false := by rfl) : SE X κ C (.Call (.Name x p2) (e :: es) [] pos) (eMake c mas) := by
  obtain ⟨fa, fd, ps, hm, M, hb, ar, G⟩ := F.ex
  refine SE.mk' (pe_make M G hr hg hm hb .nil pass0 ha.pa hdb he hpl) fun φ ev h σ H Q S r p => ?_
  obtain ⟨ds, h1, e1, p⟩ := Post.bind p
  rw [hC] at p
  obtain ⟨d, h', ed, p⟩ := Post.bind p
  refine ta_of S r e1 fun φ1 H1 vs st S1 r1 q1 => ?_
  intro x dx hx hdx ne
  obtain ⟨t2, S2⟩ := S1.make (c := c) hx hdx ne
  rw [List.append_nil]
  have q3 : RVs (Z.ext φ1 h1.length x) (h1 ++ [O.ins c []]).length (upd (upd H1 dx (.own x)) x (.ins (κ c) dx [])) (.ref h1.length :: ds) (.ref x :: vs) := RVs.cons (RV.ref_iff.mpr ⟨by simp, by rw [ext_at]⟩) (q1.step S1 t2)
  refine ⟨by rw [q3.len]; exact ar.len ed, _, _, _, S2, q3, ?_⟩
  rw [ed]
  intro φ3 H3 v st3 S3 rv
  split at p
  · rw [RV.non_iff] at rv
    have hl : h1.length < (h1 ++ [O.ins c []]).length := by simp
    exact ⟨rv, p φ3 H3 _ ((st.trans t2).trans st3) S3 (RV.ref_iff.mpr ⟨Nat.lt_of_lt_of_le hl st3.len, by rw [st3.agree _ hl, ext_at]⟩)⟩
  · exact False.elim p
theorem se_make0 {x : Str} {c : Nat} {me : Nat → Nat → List D → HP → R D} (hC : C.make = mkBy me) (F : MkF X.prog X.w X.K X.mg X.base κ k c x (me c 0)) (hr : Room (k + 1) X.A) (hg : Gl X x := by rfl) (hdb : (x == ("__debug__" : Str)) = false := by decide) : SE X κ C (.Call (.Name x p2) [] [] pos) (eMake c aN) := by
  obtain ⟨fa, fd, ps, hm, M, hb, ar, G⟩ := F.ex
  refine SE.mk' (pe_make0 M G hr hg hm hb .nil pass0 hdb) fun φ ev h σ H Q S r p => ?_
  have p : Post X.K κ φ h H (C.make c [] h) Q := p
  rw [hC] at p
  obtain ⟨d, h', ed, p⟩ := Post.bind p
  intro x dx hx hdx ne
  obtain ⟨t2, S2⟩ := S.make (c := c) hx hdx ne
  have q3 : RVs (Z.ext φ h.length x) (h ++ [O.ins c []]).length (upd (upd H dx (.own x)) x (.ins (κ c) dx [])) [.ref h.length] [.ref x] := RVs.one (RV.ref_iff.mpr ⟨by simp, by rw [ext_at]⟩)
  refine ⟨(show [V.ref x].length = ps.length by rw [q3.len]; exact ar.len ed), _, _, _, S2, q3, ?_⟩
  rw [ed]
  intro φ3 H3 v st3 S3 rv
  split at p
  · rw [RV.non_iff] at rv
    have hl : h.length < (h ++ [O.ins c []]).length := by simp
    exact ⟨rv, p φ3 H3 _ (t2.trans st3) S3 (RV.ref_iff.mpr ⟨Nat.lt_of_lt_of_le hl st3.len, by rw [st3.agree _ hl, ext_at]⟩)⟩
  · exact False.elim p
end
end Z
/-! Z6: targets, statements, loops, comprehensions, a def by its body. -/
namespace Z
open PySem L2 PyProof.Rows

/-! ### targets -/
def gsN : List Nat → TGs
  | [] => gNil
  | i :: r => gCons (gName i) (gsN r)
structure SGs (X : Cx) (es : List Expr) (is : List Nat) : Prop where
  pgs : PGs X es (gsN is)
def tG (K : PySem.W.Frag) (κ : Nat → Addr) (g : Tg) : TG := fun v σ H Q => ∃ φ e h d, Sim K κ φ h H ∧ EnvR φ h.length H e σ ∧ RV φ h.length H d v ∧ ∃ e', g e d = some e' ∧ ∀ σ', EnvR φ h.length H e' σ' → Q σ' H
structure SG (X : Cx) (κ : Nat → Addr) (t : Expr) (g : Tg) : Prop where
  pg : PG X t (tG X.K κ g)
section
variable {K : PySem.W.Frag} {κ φ φ' : Nat → Addr} {h h' : HP} {H H' : Hp}
theorem gsN_of {n : Nat} {Q : L2.St → Hp → Prop} : ∀ {is : List Nat} {ds : List D} {vs : List V} {e : Ev} {σ : L2.St}, ds.length = is.length → EnvR φ n H e σ → RVs φ n H ds vs →
    (∀ σ', EnvR φ n H ((is.zip ds).foldl (fun e p => e.set p.1 (some p.2)) e) σ' → Q σ' H) → gsN is vs σ H Q
  | [], [], vs, e, σ, _, r, q, k => by
    simp only [RVs] at q
    exact ⟨q, k σ r⟩
  | i :: is, d :: ds, vs, e, σ, hl, r, q, k => by
    simp only [RVs] at q
    obtain ⟨v, vr, rfl, q1, q2⟩ := q
    exact ⟨v, vr, rfl, gsN_of (is := is) (ds := ds) (by simpa using hl) (r.set q1 i) q2 k⟩
  | [], _ :: _, _, _, _, hl, _, _, _ => by simp at hl
  | _ :: _, [], _, _, _, hl, _, _, _ => by simp at hl
end
section
variable {X : Cx} {κ : Nat → Addr} {C : Ctx} {a b c e o : Expr} {es : List Expr} {ma mb mc mo : ME} {ta tb : MT} {mas : MA} {pos p2 p3 apos : Pos} {g : Tg}
theorem sgs_nil : SGs X [] [] := ⟨pgs_nil⟩
theorem sgs_cons {i : Nat} {x : Str} {is : List Nat} (hN : X.N.Nodup) (r : SGs X es is) (hi : X.N[i]? = some x := by rfl) (hx : Loc X.env.scope x := by first | exact Or.inl rfl | exact Or.inr rfl)
    (hf : X.fn x = true ∨ X.env.scope.names.lookup x = some .local := by first | exact .inl rfl | exact .inr rfl | assumption)
    (hs : (assignEach (Expr.Name x pos :: es) X.env).map (·.2) = assign (Expr.Name x pos) X.env :: (assignEach es X.env).map (·.2) := by rfl) : SGs X (.Name x pos :: es) (i :: is) := ⟨pgs_cons (pg_name hN hi hx hf) r.pgs hs⟩
theorem sg_n {i : Nat} {x : Str} (hN : X.N.Nodup) (hi : X.N[i]? = some x := by rfl) (hx : Loc X.env.scope x := by first | exact Or.inl rfl | exact Or.inr rfl)
    (hf : X.fn x = true ∨ X.env.scope.names.lookup x = some .local := by first | exact .inl rfl | exact .inr rfl | assumption) : SG X κ (.Name x pos) (gN i) := by
  refine ⟨⟨fun pins s σ H v u Q I r ⟨φ, ev, h, d, S, er, q, e', ge, k⟩ => ?_⟩⟩
  unfold gN at ge
  cases ge
  exact (pg_name hN hi hx hf).run pins s σ H v u Q I r (k _ (er.set q i))
theorem sg_t {is : List Nat} {k : Nat} {n : Nat} (hc : X.calm = true) (hs : SGs X es is) (hn : (assignEach es X.env).length = n := by rfl) (hst : (assignEach es X.env).findIdx? (·.1) = none := by rfl) (hn2 : is.length = n := by rfl) : SG X κ (.Tuple es k pos) (gT is) := by
  refine ⟨⟨fun pins s σ H v u Q I r ⟨φ, ev, h, d, S, er, q, e', ge, kk⟩ => ?_⟩⟩
  unfold gT at ge
  cases d with
  | tup ds =>
    simp only at ge
    split at ge
    · rename_i hl
      cases ge
      rw [RV.tup_iff] at q
      obtain ⟨p, vs, rfl, hp, q⟩ := q
      exact (pg_tup hc hs.pgs hn hst).run pins s σ H _ u Q I r ⟨p, vs, rfl, SqT.of hp, by rw [q.len, hl, hn2], gsN_of hl er q kk⟩
    · cases ge
  | non => cases ge
  | bl _ => cases ge
  | int _ => cases ge
  | str _ => cases ge
  | ref _ => cases ge

/-! ### plain statements -/
variable {ms mr : MS} {st : Stmt} {sts : List Stmt}
theorem ss_ex (ha : SE X κ C a ma) (hs : swapsWith a none pos.line X.env = pure false := by rfl) : SS X κ C (.Expr a pos) (sEx ma) :=
  SS.mk' (ps_expr ha.pe hs) fun φ ev h σ H Dn S r p => by
    obtain ⟨d, h1, e1, p⟩ := PostS.bind p
    exact td_of S r e1 fun φ1 H1 v st S1 r1 q1 => p φ1 H1 σ st S1 r1
theorem ss_doc {x : Str} {j : Nat} : SS X κ C (.Expr (.Constant (.str x) j p2) pos) sSk := SS.mk' ps_doc fun φ ev h σ H Dn S r p => p φ H σ Step.refl S r
theorem ss_ps : SS X κ C (.Pass pos) sSk := SS.mk' ps_pass fun φ ev h σ H Dn S r p => p φ H σ Step.refl S r
theorem ss_bk : SS X κ C (.Break pos) sBk := SS.mk' ps_break fun φ ev h σ H Dn S r p => p φ H σ Step.refl S r
theorem ss_ct : SS X κ C (.Continue pos) sCt := SS.mk' ps_continue fun φ ev h σ H Dn S r p => p φ H σ Step.refl S r
theorem ss_rt (ha : SE X κ C a ma) : SS X κ C (.Return (some a) pos) (sRt ma) :=
  SS.mk' (ps_ret ha.pe) fun φ ev h σ H Dn S r p => by
    obtain ⟨d, h1, e1, p⟩ := PostS.bind p
    exact td_of S r e1 fun φ1 H1 v st S1 r1 q1 => p φ1 H1 v st S1 q1
theorem ss_rn : SS X κ C (.Return none pos) sRN := SS.mk' ps_retN fun φ ev h σ H Dn S r p => p φ H .non Step.refl S (RV.non_iff.mpr rfl)
theorem ss_no : SS X κ C st sNo := SS.mk' ps_never fun φ ev h σ H Dn S r p => p
/-- name = a -/
theorem ss_as {i : Nat} {x : Str} (hN : X.N.Nodup) (ha : SE X κ C a ma) (hi : X.N[i]? = some x := by rfl) (hx : Loc X.env.scope x := by first | exact Or.inl rfl | exact Or.inr rfl) (hs : swapsWith a (some (.Name x p2)) pos.line X.env = pure false := by rfl)
    (hf : X.fn x = true ∨ X.env.scope.names.lookup x = some .local := by first | exact .inl rfl | exact .inr rfl | assumption) : SS X κ C (.Assign [.Name x p2] a pos) (sAs (gN i) ma) :=
  SS.mk' (ps_set hN hi hx ha.pe hs hf) fun φ ev h σ H Dn S r p => by
    obtain ⟨d, h1, e1, p⟩ := PostS.bind p
    exact td_of S r e1 fun φ1 H1 v st S1 r1 q1 => p φ1 H1 _ st S1 (r1.set q1 i)
/-- target = a -/
theorem ss_at {tg : Expr} (hg : SG X κ tg g) (ha : SE X κ C a ma) (hs : swapsWithSole [tg] a pos.line X.env = pure false := by rfl) (hw : swappedStores [tg] a X.env = pure none := by rfl) (h1 : (assignEach [tg] X.env).map (·.2) = [assign tg X.env] := by rfl) : SS X κ C (.Assign [tg] a pos) (sAs g ma) :=
  SS.mk' (ps_asg ha.pe hg.pg hs hw h1) fun φ ev h σ H Dn S r p => by
    obtain ⟨d, h1, e1, p⟩ := PostS.bind p
    refine td_of S r e1 fun φ1 H1 v st S1 r1 q1 => ?_
    split at p
    · rename_i e' ge
      exact ⟨φ1, ev, h1, d, S1, r1, q1, e', ge, fun σ' r2 => p φ1 H1 σ' st S1 r2⟩
    · exact False.elim p
/-- x, y = a, b -/
theorem ss_pr {i j : Nat} {x y : Str} {kt k2 : Nat} {px py pt pt2 : Pos} (hc : X.calm = true) (hN : X.N.Nodup) (ha : SE X κ C a ma) (hb : SE X κ C b mb) (hi : X.N[i]? = some x := by rfl) (hj : X.N[j]? = some y := by rfl) (hij : i ≠ j := by decide)
    (hx : X.env.scope.names.lookup x = some .local := by rfl) (hy : X.env.scope.names.lookup y = some .local := by rfl)
    (hw : swappedStores [.Tuple [.Name x px, .Name y py] kt pt] (.Tuple [a, b] k2 pt2) X.env = pure (some [x, y]) := by rfl)
    (hs : swapsWithSole [.Tuple [.Name x px, .Name y py] kt pt] (.Tuple [a, b] k2 pt2) pos.line X.env = pure false := by rfl)
    (h1 : starEach [a, b] X.env = (false, eval a X.env) :: starEach [b] X.env := by rfl) (h2 : starEach [b] X.env = (false, eval b X.env) :: starEach [] X.env := by rfl) :
    SS X κ C (.Assign [.Tuple [.Name x px, .Name y py] kt pt] (.Tuple [a, b] k2 pt2) pos) (sPr i j ma mb) :=
  SS.mk' (ps_par hc hN hi hj hij hx hy (pa_cons ha.pe (pa_cons hb.pe pa_nil h2) h1) hw hs) fun φ ev h σ H Dn S r p => by
    obtain ⟨d, h1, e1, p⟩ := PostS.bind p
    obtain ⟨d2, h2, e2, p⟩ := PostS.bind p
    exact td_of S r e1 fun φ1 H1 v st S1 r1 q1 => td_of S1 r1 e2 fun φ2 H2 w st2 S2 r2 q2 => ⟨v, w, rfl, p φ2 H2 _ (st.trans st2) S2 ((r2.set (q1.step S1 st2) i).set q2 j)⟩
theorem ss_if {p q : List Stmt} (hc : ST X κ C c ta) (ha : SSs X κ C p ms) (hb : SSs X κ C q mr) : SS X κ C (.If c p q pos) (sIf ta ms mr) :=
  SS.mk' (ps_if hc.pt ha.pss hb.pss) fun φ ev h σ H Dn S r p => by
    obtain ⟨k, h1, e1, p⟩ := PostS.bind p
    refine tq_of S r e1 fun φ1 H1 st S1 r1 => ?_
    cases k with
    | true => rw [if_pos rfl] at p ⊢; exact ⟨φ1, ev, h1, S1, r1, p.step st⟩
    | false => rw [if_neg Bool.false_ne_true] at p ⊢; exact ⟨φ1, ev, h1, S1, r1, p.step st⟩
theorem ss_nil : SSs X κ C [] sSk := SSs.mk' pss_nil fun φ ev h σ H Dn S r p => p φ H σ Step.refl S r
theorem ss_one (h : SS X κ C st ms) : SSs X κ C [st] ms := ⟨pss_one h.ps⟩
theorem ss_cons (h1 : SS X κ C st ms) (h2 : SSs X κ C sts mr) : SSs X κ C (st :: sts) (sSq ms mr) :=
  SSs.mk' (pss_cons h1.ps h2.pss) fun φ ev h σ H Dn S r p => by
    refine ⟨φ, ev, h, S, r, ?_⟩
    obtain ⟨f, h1, e1, p⟩ := PostS.bind p
    rw [e1]
    cases f with
    | nx e2 => exact fun φ' H' σ' st S' r' => ⟨φ', e2, h1, S', r', p.step st⟩
    | rt d => exact p
    | bk e2 => exact p
    | ct e2 => exact p
end

/-! ### op= -/
def opIAdd : D → D → HP → R D := fun x y h => match x, y with
  | .int i, .int j => .ok (.int (i + j)) h
  | .str a, .str b => if a.length + b.length ≤ sizeLine then .ok (.str (a ++ b)) h else .no
  | _, _ => .no
section
variable {X : Cx} {κ : Nat → Addr} {C : Ctx} {a b c e o : Expr} {es : List Expr} {ma mb mc mo : ME} {ta tb : MT} {mas : MA} {pos p2 p3 apos : Pos} {g : Tg} {ms mr : MS} {st : Stmt} {sts : List Stmt}
theorem iod_add : OpR X (inplaceOp .Add) (rD X.K κ opIAdd) := by
  intro pins s σ H x y v u Q I rx ry ⟨φ, h, dx, dy, S, qx, qy, p⟩
  unfold opIAdd at p
  split at p
  · rw [RV.int_iff] at qx qy
    exact iop_add pins s σ H _ _ v u Q I rx ry ⟨_, _, qx, qy, p.of0 S (RV.int_iff.mpr rfl)⟩
  · split at p
    · rename_i hz
      rw [RV.str_iff] at qx qy
      exact iop_add_str pins s σ H _ _ v u Q I rx ry ⟨_, _, qx, qy, hz, p.of0 S (RV.str_iff.mpr rfl)⟩
    · exact False.elim p
  · exact False.elim p
theorem iod_sub : OpR X (inplaceOp .Sub) (rD X.K κ opSub) := by
  intro pins s σ H x y v u Q I rx ry ⟨φ, h, dx, dy, S, qx, qy, p⟩
  unfold opSub at p
  split at p
  · rw [RV.int_iff] at qx qy
    exact iop_sub pins s σ H _ _ v u Q I rx ry ⟨_, _, qx, qy, p.of0 S (RV.int_iff.mpr rfl)⟩
  · exact False.elim p
theorem ss_au {i : Nat} {x : Str} {o : Operator} {op : D → D → HP → R D} (hN : X.N.Nodup) (ho : OpR X (inplaceOp o) (rD X.K κ op)) (ha : SE X κ C a ma) (hi : X.N[i]? = some x := by rfl) (hx : Loc X.env.scope x := by first | exact Or.inl rfl | exact Or.inr rfl)
    (hf : X.fn x = true ∨ X.env.scope.names.lookup x = some .local := by first | exact .inl rfl | exact .inr rfl | assumption) : SS X κ C (.AugAssign (.Name x p2) o a pos) (sAu i op ma) :=
  SS.mk' (ps_aug hN hi hx ha.pe (ti := rD X.K κ op) ho hf) fun φ ev h σ H Dn S r p => by
    unfold sAu at p
    split at p
    · rename_i d e
      obtain ⟨v, e1, q⟩ := r.get i d e
      obtain ⟨d2, h1, e2, p⟩ := PostS.bind p
      refine ⟨v, e1, td_of S r e2 fun φ1 H1 w st S1 r1 q1 => ⟨φ1, h1, d, d2, S1, q.step S st, q1, ?_⟩⟩
      obtain ⟨d3, h2, e3, p⟩ := PostS.bind p
      rw [e3]
      exact fun φ2 H2 z st2 S2 q2 => p φ2 H2 _ (st.trans st2) S2 ((r1.step S1 st2).set q2 i)
    · exact False.elim p

/-! ### stores -/
end
def stD : D → D → D → HP → R Unit := fun x y v h => match x with
  | .ref i => match h[i]? with
    | some (.lst ds) => match y with
      | .int k => match ixN ds.length k with
        | some j => .ok () (h.set i (.lst (ds.set j v)))
        | none => .no
      | _ => .no
    | some (.dic kvs) => match keyD y with
      | some k => if kvs.length < sizeLine then .ok () (h.set i (.dic (putKD kvs k v))) else .no
      | none => .no
    | some (.dct kvs) => match y with
      | .tup ds => match keysD ds with
        | some k => if kvs.length < sizeLine then .ok () (h.set i (.dct (putKD kvs k v))) else .no
        | none => .no
      | _ => .no
    | _ => .no
  | _ => .no
def rSt (K : PySem.W.Frag) (κ : Nat → Addr) (f : D → D → D → HP → R Unit) : V → V → V → Hp → (Hp → Prop) → Prop := fun o i v H Q => ∃ φ h x y d h', Sim K κ φ h H ∧ RV φ h.length H x o ∧ RV φ h.length H y i ∧ RV φ h.length H d v ∧ f x y d h = .ok () h' ∧
  ∀ φ' H', Step φ h H φ' h' H' → Sim K κ φ' h' H' → Q H'
section
variable {X : Cx} {κ : Nat → Addr} {C : Ctx} {a b c e o : Expr} {es : List Expr} {ma mb mc mo : ME} {ta tb : MT} {mas : MA} {pos p2 p3 apos : Pos} {g : Tg} {ms mr : MS} {st : Stmt} {sts : List Stmt}
theorem set_ok {K : PySem.W.Frag} {κ φ : Nat → Addr} {h : HP} {H : Hp} {i : Nat} {ob ob' : O} {u : HO} (S : Sim K κ φ h H) (hi : h[i]? = some ob) (m : ob.mu = true) (m' : ob'.mu = true)
    (new : ∀ st : Step φ h H φ (h.set i ob') (upd H (φ i) u), RO K κ φ (h.set i ob').length (upd H (φ i) u) (φ i) ob') {Q : Hp → Prop} (k : ∀ φ' H', Step φ h H φ' (h.set i ob') H' → Sim K κ φ' (h.set i ob') H' → Q H') : Q (upd H (φ i) u) :=
  k φ _ (step_set S hi m m') (S.set hi m m' new)
section
variable {K : PySem.W.Frag} {κ φ : Nat → Addr} {h : HP} {H : Hp} {i c : Nat} {Q : Hp → Prop}
theorem set_okL {ds ds' : List D} {vs : List V} (S : Sim K κ φ h H) (hi : h[i]? = some (.lst ds)) (r : RVs φ h.length H ds' vs) (k : ∀ φ' H', Step φ h H φ' (h.set i (.lst ds')) H' → Sim K κ φ' (h.set i (.lst ds')) H' → Q H') : Q (upd H (φ i) (.lst vs)) :=
  set_ok (ob' := .lst ds') S hi rfl rfl (fun st => ⟨vs, upd_same, r.step S st⟩) k
theorem set_okK {ds ds' : List (Key × D)} {vs : List (Key × V)} (S : Sim K κ φ h H) (hi : h[i]? = some (.dic ds)) (r : RKs φ h.length H ds' vs) (k : ∀ φ' H', Step φ h H φ' (h.set i (.dic ds')) H' → Sim K κ φ' (h.set i (.dic ds')) H' → Q H') : Q (upd H (φ i) (.dK vs)) :=
  set_ok (ob' := .dic ds') S hi rfl rfl (fun st => ⟨vs, upd_same, r.step S st⟩) k
theorem set_okT {ds ds' : List (List Key × D)} {vs : List (List Key × V)} (S : Sim K κ φ h H) (hi : h[i]? = some (.dct ds)) (r : RKs φ h.length H ds' vs) (k : ∀ φ' H', Step φ h H φ' (h.set i (.dct ds')) H' → Sim K κ φ' (h.set i (.dct ds')) H' → Q H') : Q (upd H (φ i) (.dT vs)) :=
  set_ok (ob' := .dct ds') S hi rfl rfl (fun st => ⟨vs, upd_same, r.step S st⟩) k
theorem set_okI {ds ds' : List (Str × D)} {vs : List (Str × V)} {dx : Addr} (S : Sim K κ φ h H) (hi : h[i]? = some (.ins c ds)) (r : RKs φ h.length H ds' vs) (k : ∀ φ' H', Step φ h H φ' (h.set i (.ins c ds')) H' → Sim K κ φ' (h.set i (.ins c ds')) H' → Q H') : Q (upd H (φ i) (.ins (κ c) dx vs)) :=
  set_ok (ob' := .ins c ds') S hi rfl rfl (fun st => ⟨dx, vs, upd_same, r.step S st⟩) k
end
theorem pset (hu : X.A.units + 1 < cLine) : PSet X (rSt X.K κ stD) := by
  intro pins s σ H o i v ov iv u Q I ro ri rv ⟨φ, h, x, y, d, h', S, qx, qy, qd, e, k⟩
  unfold stD at e
  split at e
  · rename_i i'
    rw [RV.ref_iff] at qx
    obtain ⟨hi, rfl⟩ := qx
    split at e
    · rename_i ds ei
      obtain ⟨vs, hv, r⟩ := S.lst ei
      split at e
      · split at e
        · rename_i kk j ej
          cases e
          rw [RV.int_iff] at qy
          exact set_list pins s σ H _ _ _ ov iv u Q I ro ri rv ⟨_, vs, _, j, rfl, qy, hv, by rw [r.len]; exact ej, set_okL S ei (r.set j qd) k⟩
        · cases e
      · cases e
    · rename_i kvs ei
      obtain ⟨us, hd, r⟩ := S.dic ei
      split at e
      · rename_i kk ek
        split at e
        · rename_i hz
          cases e
          have ky := key_of' ek qy
          subst ky
          obtain rfl : ov = Value.ref _ := ro
          exact d_setItem hu I (DPut.k hd (by rw [r.len]; exact hz)) ri rv fun s' I' => ⟨_, I', set_okK S ei (r.put kk qd) k⟩
        · cases e
      · cases e
    · rename_i kvs ei
      obtain ⟨us, hd, r⟩ := S.dct ei
      split at e
      · split at e
        · rename_i kk ek
          split at e
          · rename_i hz
            cases e
            rw [RV.tup_iff] at qy
            obtain ⟨p, vs, rfl, hp, rr⟩ := qy
            have ky := keys_of' ek rr
            subst ky
            obtain rfl : ov = Value.ref _ := ro
            exact d_setItem hu I (DPut.t hd hp (by rw [r.len]; exact hz)) ri rv fun s' I' => ⟨_, I', set_okT S ei (r.put kk qd) k⟩
          · cases e
        · cases e
      · cases e
    · cases e
  · cases e
/-- o[i] = a -/
theorem ss_st {i : Expr} {mi : ME} (hu : X.A.units + 1 < cLine) (ho : SE X κ C o mo) (hi : SE X κ C i mi) (ha : SE X κ C a ma)
    (has : ∀ v, assign (.Subscript o i p2) X.env v = (do { let ov ← holding [v] (eval o X.env); let iv ← holding [v, ov] (eval i X.env); standAt p2; holding [v, ov, iv] (setItem ov iv v); release [v, ov, iv] [] }) := by intro _; rfl)
    (hs : swapsWithSole [.Subscript o i p2] a pos.line X.env = pure false := by rfl) (hw : swappedStores [.Subscript o i p2] a X.env = pure none := by rfl) : SS X κ C (.Assign [.Subscript o i p2] a pos) (sSt stD mo mi ma) :=
  SS.mk' (ps_asg ha.pe (pg_sub ho.pe hi.pe (pset (κ := κ) hu) has) hs hw) fun φ ev h σ H Dn S r p => by
    obtain ⟨d, h1, e1, p⟩ := PostS.bind p
    obtain ⟨x, h2, e2, p⟩ := PostS.bind p
    obtain ⟨y, h3, e3, p⟩ := PostS.bind p
    obtain ⟨_, h4, e4, p⟩ := PostS.bind p
    exact td_of S r e1 fun φ1 H1 v st S1 r1 q1 => td_of S1 r1 e2 fun φ2 H2 w st2 S2 r2 q2 => td_of S2 r2 e3 fun φ3 H3 z st3 S3 r3 q3 =>
      ⟨φ3, h3, x, y, d, h4, S3, q2.step S2 st3, q3, (q1.step S1 st2).step S2 st3, e4, fun φ4 H4 st4 S4 => p φ4 H4 σ (((st.trans st2).trans st3).trans st4) S4 (r3.step S3 st4)⟩
/-- o.f = a -/
theorem ss_fl {cs : List Nat} {f : Str} (hf : FldOk X.K κ cs f) (ho : SE X κ C o mo) (ha : SE X κ C a ma) (hs : swapsWith a (some (.Attribute o f p2)) pos.line X.env = pure false := by rfl) : SS X κ C (.Assign [.Attribute o f p2] a pos) (sFl cs mo f ma) :=
  SS.mk' (ps_fld ho.pe ha.pe hs) fun φ ev h σ H Dn S r p => by
    obtain ⟨d, h1, e1, p⟩ := PostS.bind p
    obtain ⟨x, h2, e2, p⟩ := PostS.bind p
    refine td_of S r e1 fun φ1 H1 v st S1 r1 q1 => td_of S1 r1 e2 fun φ2 H2 w st2 S2 r2 q2 => ?_
    split at p
    · rw [RV.ref_iff] at q2
      obtain ⟨hi, rfl⟩ := q2
      split at p
      · rename_i c fs ei
        split at p
        · rename_i hc
          obtain ⟨dx, us, hu, rr⟩ := S2.ins ei
          exact ⟨_, _, dx, us, rfl, hu, (hf c hc.1).1, (hf c hc.1).2, by rw [rr.len]; exact hc.2, set_okI (Q := fun H' => Dn.nx σ H') S2 ei (rr.putF (q1.step S1 st2)) fun φ' H' st3 S3 => p φ' H' σ ((st.trans st2).trans st3) S3 (r2.step S2 st3)⟩
        · exact False.elim p
      · exact False.elim p
    · exact False.elim p
/-- o.f += a, o.f -= a -/
theorem ss_fa {cs : List Nat} {f : Str} {op : Operator} {f2 : D → D → HP → R D} (hf : FldOk X.K κ cs f) (hop : OpR X (inplaceOp op) (rD X.K κ f2)) (ho : SE X κ C o mo) (ha : SE X κ C a ma) : SS X κ C (.AugAssign (.Attribute o f p2) op a pos) (sFa cs mo f f2 ma) :=
  SS.mk' (ps_fldaug (rd := rD X.K κ f2) ho.pe ha.pe hop) fun φ ev h σ H Dn S r p => by
    obtain ⟨x, h1, e1, p⟩ := PostS.bind p
    refine td_of S r e1 fun φ1 H1 v st S1 r1 q1 => ?_
    split at p
    · rename_i i
      rw [RV.ref_iff] at q1
      obtain ⟨hi, rfl⟩ := q1
      split at p
      · rename_i c fs ei
        obtain ⟨dx, us, hu, rr⟩ := S1.ins ei
        split at p
        · rename_i v ev
          obtain ⟨w, ew, qw⟩ := rr.look ev
          obtain ⟨y, h2, e2, p⟩ := PostS.bind p
          obtain ⟨z, h3, e3, p⟩ := PostS.bind p
          split at p
          · rename_i c2 fs2 ei2
            split at p
            · rename_i hc
              obtain ⟨hc1, hcc, hz⟩ := hc
              subst hcc
              have hc : c ∈ cs ∧ fs2.length < 1000 := ⟨hc1, hz⟩
              refine ⟨_, _, dx, us, w, rfl, hu, (hf c hc.1).1, (hf c hc.1).2, ew, td_of S1 r1 e2 fun φ2 H2 u st2 S2 r2 q2 => ⟨φ2, h2, v, y, S2, qw.step S1 st2, q2, ?_⟩⟩
              rw [e3]
              intro φ3 H3 t st3 S3 q3
              obtain ⟨dx2, us2, hu2, rr2⟩ := S3.ins ei2
              have hi2 := st2.agree i hi
              have hi3 := st3.agree i (Nat.lt_of_lt_of_le hi st2.len)
              have ea : φ3 i = φ1 i := hi3.trans hi2
              rw [← ea]
              exact ⟨dx2, us2, hu2, by rw [rr2.len]; exact hc.2, set_okI (Q := fun H' => Dn.nx σ H') S3 ei2 (rr2.putF q3) fun φ' H' st4 S4 => p φ' H' σ (((st.trans st2).trans st3).trans st4) S4 ((r2.step S2 st3).step S3 st4)⟩
            · exact False.elim p
          · exact False.elim p
        · exact False.elim p
      · exact False.elim p
    · exact False.elim p
end
end Z
/-! Z7: what is walked, loops, comprehensions, a def by its body. -/
namespace Z
open PySem L2 PyProof.Rows

def ItR (K : PySem.W.Frag) (κ φ1 : Nat → Addr) (h1 : HP) (H1 : Hp) (it : Itr) (J : It) : Prop := ∀ φ h H, Step φ1 h1 H1 φ h H → Sim K κ φ h H → ∀ j, (it j h = some none → J.stop j H) ∧
  ∀ d, it j h = some (some d) → J.go j H ∧ ∀ x H', J.yld j H x H' → ∃ φ', Step φ h H φ' h H' ∧ Sim K κ φ' h H' ∧ RV φ' h.length H' d x
def tI (K : PySem.W.Frag) (κ : Nat → Addr) (C : Ctx) (mi : MI) : TI := fun σ H R => ∃ φ e h, Sim K κ φ h H ∧ EnvR φ h.length H e σ ∧ ∃ it h1, mi C e h = .ok it h1 ∧
  ∀ φ1 H1 J, Step φ h H φ1 h1 H1 → Sim K κ φ1 h1 H1 → ItR K κ φ1 h1 H1 it J → R J H1
structure SI (X : Cx) (κ : Nat → Addr) (C : Ctx) (tg iter : Expr) (mi : MI) : Prop where
  pi : PI X tg iter (tI X.K κ C mi)
theorem itL_eq (i j : Nat) (h : HP) : itL i j h = (isL i h).map fun ds => ds[j]? := by
  unfold itL isL
  split <;> rfl
section
variable {K : PySem.W.Frag} {κ φ φ1 : Nat → Addr} {h h1 : HP} {H H1 : Hp} {it : Itr} {J : It}
/-- the item of the list at i, at turn j -/
theorem isL_at {i j : Nat} (hi : i < h1.length) (st : Step φ1 h1 H1 φ h H) (S : Sim K κ φ h H) : (itL i j h = some none → ∃ vs, SqL K H (φ1 i) vs ∧ vs.length ≤ j) ∧
    ∀ d, itL i j h = some (some d) → ∃ vs v, SqL K H (φ1 i) vs ∧ vs[j]? = some v ∧ RV φ h.length H d v := by
  have ea := st.agree i hi
  rw [itL_eq]
  cases e : isL i h with
  | none => exact ⟨fun z => by simp at z, fun d z => by simp at z⟩
  | some ds =>
    obtain ⟨vs, hs, r⟩ := S.isL e
    rw [ea] at hs
    refine ⟨fun z => ⟨vs, hs, ?_⟩, fun d z => ?_⟩
    · simp only [Option.map_some, Option.some.injEq] at z
      rw [r.len]
      exact List.getElem?_eq_none_iff.mp z
    · simp only [Option.map_some, Option.some.injEq] at z
      obtain ⟨v, ev, q⟩ := r.get z
      exact ⟨vs, v, hs, ev, q⟩
theorem itL_of {i : Nat} (hi : i < h1.length) : ItR K κ φ1 h1 H1 (itL i) (Itl K (φ1 i)) := by
  intro φ h H st S j
  obtain ⟨k1, k2⟩ := isL_at (j := j) hi st S
  refine ⟨k1, fun d e => ?_⟩
  obtain ⟨vs, v, hs, ev, q⟩ := k2 d e
  refine ⟨⟨vs, v, hs, ev⟩, fun x H' y => ?_⟩
  obtain ⟨e1, y⟩ := y
  subst e1
  have := y vs hs
  rw [ev] at this
  cases this
  exact ⟨φ, Step.refl, S, q⟩
theorem itT_of {ds : List D} {p : Addr} {vs : List V} (S1 : Sim K κ φ1 h1 H1) (hp : H1 p = some (.tup vs)) (r : RVs φ1 h1.length H1 ds vs) : ItR K κ φ1 h1 H1 (itT ds) (Itt K p) := by
  intro φ h H st S j
  have hp' := S1.tup st hp
  have r' := r.step S1 st
  refine ⟨fun z => ⟨vs, SqT.of hp', ?_⟩, fun d z => ?_⟩
  · simp only [itT, Option.some.injEq] at z
    rw [r.len]
    exact List.getElem?_eq_none_iff.mp z
  · simp only [itT, Option.some.injEq] at z
    obtain ⟨v, ev, q⟩ := r'.get z
    refine ⟨⟨vs, v, SqT.of hp', ev⟩, fun x H' y => ?_⟩
    obtain ⟨e1, y⟩ := y
    subst e1
    have := y vs (SqT.of hp')
    rw [ev] at this
    cases this
    exact ⟨φ, Step.refl, S, q⟩
theorem itS_of {z : Str} : ItR K κ φ1 h1 H1 (itS z) (Its z) := by
  intro φ h H st S j
  refine ⟨fun e => ?_, fun d e => ?_⟩
  · simp only [itS, Option.some.injEq, Option.map_eq_none_iff] at e
    exact Array.getElem?_eq_none_iff.mp e
  · simp only [itS, Option.some.injEq, Option.map_eq_some_iff] at e
    obtain ⟨c, ec, rfl⟩ := e
    refine ⟨(Array.getElem?_eq_some_iff.mp ec).1, fun x H' y => ?_⟩
    obtain ⟨e1, c', ec', rfl⟩ := y
    subst e1
    rw [ec] at ec'
    cases ec'
    exact ⟨φ, Step.refl, S, RV.str_iff.mpr rfl⟩
theorem itR_of {lo : Int} {n : Nat} : ItR K κ φ1 h1 H1 (itR lo n) (L2.Itr lo n) := by
  intro φ h H st S j
  unfold itR
  refine ⟨fun e => ?_, fun d e => ?_⟩
  · split at e
    · cases e
    · rename_i hj; exact Nat.not_lt.mp hj
  · split at e
    · rename_i hj
      cases e
      refine ⟨hj, fun x H' y => ?_⟩
      obtain ⟨e1, rfl⟩ := y
      subst e1
      exact ⟨φ, Step.refl, S, RV.int_iff.mpr rfl⟩
    · cases e
theorem itRc_of {lo c : Int} {n : Nat} : ItR K κ φ1 h1 H1 (itRc lo c n) (Itc lo c n) := by
  intro φ h H st S j
  unfold itRc
  refine ⟨fun e => ?_, fun d e => ?_⟩
  · split at e
    · cases e
    · rename_i hj; exact Nat.not_lt.mp hj
  · split at e
    · rename_i hj
      cases e
      refine ⟨hj, fun x H' y => ?_⟩
      obtain ⟨e1, rfl⟩ := y
      subst e1
      exact ⟨φ, Step.refl, S, RV.int_iff.mpr rfl⟩
    · cases e
theorem itE_of {i : Nat} (hi : i < h1.length) : ItR K κ φ1 h1 H1 (itE i) (Ite K (φ1 i)) := by
  intro φ h H st S j
  obtain ⟨k1, k2⟩ := isL_at (j := j) hi st S
  unfold itE
  refine ⟨fun e => ?_, fun d e => ?_⟩
  · rw [Option.map_eq_some_iff] at e
    obtain ⟨o, e1, e2⟩ := e
    rw [Option.map_eq_none_iff] at e2
    subst e2
    exact k1 e1
  · rw [Option.map_eq_some_iff] at e
    obtain ⟨o, e1, e2⟩ := e
    rw [Option.map_eq_some_iff] at e2
    obtain ⟨d', rfl, rfl⟩ := e2
    obtain ⟨vs, v, hs, ev, q⟩ := k2 d' e1
    refine ⟨⟨vs, v, hs, ev⟩, fun x H' y => ?_⟩
    obtain ⟨T, w, rfl, hT, rfl, y⟩ := y
    have := y vs hs
    rw [ev] at this
    cases this
    have t := step_temp S (u := .tup [.int (j : Nat), v]) hT
    exact ⟨φ, t, S.temp hT, RV.tup_iff.mpr ⟨T, _, rfl, upd_same, RVs.cons (RV.int_iff.mpr rfl) (RVs.one (q.step S t))⟩⟩
theorem itZ_of {a b : Nat} (ha : a < h1.length) (hb : b < h1.length) : ItR K κ φ1 h1 H1 (itZ a b) (Itz K (φ1 a) (φ1 b)) := by
  intro φ h H st S j
  obtain ⟨k1, k2⟩ := isL_at (j := j) ha st S
  obtain ⟨l1, l2⟩ := isL_at (j := j) hb st S
  unfold itZ
  refine ⟨fun e => ?_, fun d e => ?_⟩
  · split at e
    · cases e
    · rename_i r1 r2 hno e1 e2
      cases r1 with
      | none =>
        obtain ⟨vs, hs, hl⟩ := k1 e1
        cases r2 with
        | none =>
          obtain ⟨us, hu, hl2⟩ := l1 e2
          exact ⟨vs, us, hs, hu, .inl hl⟩
        | some y =>
          obtain ⟨us, v, hu, _⟩ := l2 y e2
          exact ⟨vs, us, hs, hu, .inl hl⟩
      | some x =>
        obtain ⟨vs, v, hs, _⟩ := k2 x e1
        cases r2 with
        | none =>
          obtain ⟨us, hu, hl2⟩ := l1 e2
          exact ⟨vs, us, hs, hu, .inr hl2⟩
        | some y => exact absurd rfl (hno x y rfl)
    · cases e
  · split at e
    · rename_i x y e1 e2
      cases e
      obtain ⟨vs, v, hs, ev, q⟩ := k2 x e1
      obtain ⟨us, w, hu, ew, q2⟩ := l2 y e2
      refine ⟨⟨vs, us, v, w, hs, hu, ev, ew⟩, fun x H' y => ?_⟩
      obtain ⟨T, x1, y1, rfl, hT, rfl, z1, z2⟩ := y
      have t1 := z1 vs hs
      have t2 := z2 us hu
      rw [ev] at t1
      rw [ew] at t2
      cases t1
      cases t2
      have t := step_temp S (u := .tup [v, w]) hT
      exact ⟨φ, t, S.temp hT, RV.tup_iff.mpr ⟨T, _, rfl, upd_same, RVs.cons (q.step S t) (RVs.one (q2.step S t))⟩⟩
    · cases e
    · cases e
theorem itV_of {i n : Nat} (hi : i < h1.length) : ItR K κ φ1 h1 H1 (itV i n) (Itv K (φ1 i) n) := by
  intro φ h H st S j
  obtain ⟨k1, k2⟩ := isL_at (j := n - 1 - j) hi st S
  unfold itV
  refine ⟨fun e => ?_, fun d e => ?_⟩
  · split at e
    · split at e <;> cases e
    · rename_i hj; exact Nat.not_lt.mp hj
  · split at e
    · rename_i hj
      split at e
      · rename_i d' e1
        cases e
        obtain ⟨vs, v, hs, ev, q⟩ := k2 d e1
        refine ⟨⟨hj, vs, v, hs, ev⟩, fun x H' y => ?_⟩
        obtain ⟨e1, y⟩ := y
        subst e1
        have := y vs hs
        rw [ev] at this
        cases this
        exact ⟨φ, Step.refl, S, q⟩
      · cases e
    · cases e
end
section
variable {X : Cx} {κ : Nat → Addr} {C : Ctx} {a b c e o tg : Expr} {es : List Expr} {ma mb mc mo : ME} {ta tb : MT} {mas : MA} {pos p2 p3 apos tpos : Pos} {g : Tg} {ms mr : MS} {st : Stmt} {sts : List Stmt}
theorem isL_lt {i : Nat} {h : HP} {ds : List D} (e : isL i h = some ds) : i < h.length := by
  unfold isL at e
  split at e
  · rename_i q; exact (List.getElem?_eq_some_iff.mp q).1
  · rename_i q; exact (List.getElem?_eq_some_iff.mp q).1
  · cases e
theorem Rok {α β : Type} {r : R α} {f : α → HP → R β} {b : β} {h2 : HP} (e : r.bind f = .ok b h2) : ∃ a h1, r = .ok a h1 ∧ f a h1 = .ok b h2 := by
  cases r with
  | ok a h1 => exact ⟨a, h1, rfl, e⟩
  | ex _ _ _ => cases e
  | no => cases e
/-- for .. in a -/
theorem si_a (ha : SE X κ C a ma) : SI X κ C tg a (iA ma) := by
  refine ⟨⟨fun pins s σ H R I ⟨φ, ev, h, S, r, it, h1, e, k⟩ => ?_⟩⟩
  obtain ⟨dx, h1', e1, e⟩ := Rok e
  split at e
  · split at e
    · rename_i i _ ds el
      cases e
      refine (pi_list (tg := tg) ha.pe).run pins s σ H R I (td_of S r e1 fun φ1 H1 v st S1 r1 q1 => ?_)
      rw [RV.ref_iff] at q1
      obtain ⟨hi, rfl⟩ := q1
      obtain ⟨vs, hs, _⟩ := S1.isL el
      exact ⟨_, rfl, ⟨vs, hs⟩, k φ1 H1 _ st S1 (itL_of hi)⟩
    · cases e
  · cases e
    refine (pi_tup (tg := tg) ha.pe).run pins s σ H R I (td_of S r e1 fun φ1 H1 v st S1 r1 q1 => ?_)
    rw [RV.tup_iff] at q1
    obtain ⟨p, vs, rfl, hp, q1⟩ := q1
    exact ⟨_, rfl, ⟨vs, SqT.of hp⟩, k φ1 H1 _ st S1 (itT_of S1 hp q1)⟩
  · cases e
    refine (pi_str (tg := tg) ha.pe).run pins s σ H R I (td_of S r e1 fun φ1 H1 v st S1 r1 q1 => ?_)
    rw [RV.str_iff] at q1
    exact ⟨_, q1, k φ1 H1 _ st S1 itS_of⟩
  · cases e
theorem si_r1 (hm : X.mg "range" = none) (ha : SE X κ C a ma) (hg : Gl X "range" := by rfl) (hs : starEach [a] X.env = [(false, eval a X.env)] := by rfl) : SI X κ C tg (.Call (.Name "range" p2) [a] [] pos) (iR1 ma) := by
  refine ⟨⟨fun pins s σ H R I ⟨φ, ev, h, S, r, it, h1, e, k⟩ => ?_⟩⟩
  obtain ⟨dx, h1', e1, e⟩ := Rok e
  split at e
  · split at e
    · rename_i n hn
      cases e
      refine (pi_range1 (tg := tg) hg hm (pa_cons ha.pe pa_nil hs) hs).run pins s σ H R I (td_of S r e1 fun φ1 H1 v st S1 r1 q1 => ?_)
      rw [RV.int_iff] at q1
      subst q1
      exact ⟨_, rfl, hn.1, hn.2, k φ1 H1 _ st S1 itR_of⟩
    · cases e
  · cases e
theorem si_r2 (hm : X.mg "range" = none) (ha : SE X κ C a ma) (hb : SE X κ C b mb) (hg : Gl X "range" := by rfl) (hs : starEach [a, b] X.env = [(false, eval a X.env), (false, eval b X.env)] := by rfl) (hs2 : starEach [b] X.env = [(false, eval b X.env)] := by rfl) : SI X κ C tg (.Call (.Name "range" p2) [a, b] [] pos) (iR2 ma mb) := by
  refine ⟨⟨fun pins s σ H R I ⟨φ, ev, h, S, r, it, h1, e, k⟩ => ?_⟩⟩
  obtain ⟨dx, h1', e1, e⟩ := Rok e
  obtain ⟨dy, h2', e2, e⟩ := Rok e
  split at e
  · split at e
    · rename_i hn
      cases e
      refine (pi_range2 (tg := tg) hg hm (pa_cons ha.pe (pa_cons hb.pe pa_nil hs2) (by rw [hs, hs2])) hs hs2).run pins s σ H R I (td_of S r e1 fun φ1 H1 v st S1 r1 q1 => td_of S1 r1 e2 fun φ2 H2 w st2 S2 r2 q2 => ?_)
      rw [RV.int_iff] at q1 q2
      subst q1 q2
      exact ⟨_, _, rfl, hn, k φ2 H2 _ (st.trans st2) S2 itR_of⟩
    · cases e
  · cases e
theorem si_en {elts : List Expr} {kk : Nat} (hm : X.mg "enumerate" = none) (ha : SE X κ C a ma) (hg : Gl X "enumerate" := by rfl) (hs : starEach [a] X.env = [(false, eval a X.env)] := by rfl) : SI X κ C (.Tuple elts kk tpos) (.Call (.Name "enumerate" p2) [a] [] pos) (iEn ma) := by
  refine ⟨⟨fun pins s σ H R I ⟨φ, ev, h, S, r, it, h1, e, k⟩ => ?_⟩⟩
  obtain ⟨dx, h1', e1, e⟩ := Rok e
  split at e
  · split at e
    · rename_i i _ ds el
      cases e
      refine (pi_enum hg hm (pa_cons ha.pe pa_nil hs) hs).run pins s σ H R I (td_of S r e1 fun φ1 H1 v st S1 r1 q1 => ?_)
      rw [RV.ref_iff] at q1
      obtain ⟨hi, rfl⟩ := q1
      obtain ⟨vs, hs, _⟩ := S1.isL el
      exact ⟨_, vs, rfl, hs, k φ1 H1 _ st S1 (itE_of hi)⟩
    · cases e
  · cases e
theorem si_zp {elts : List Expr} {kk : Nat} (hm : X.mg "zip" = none) (ha : SE X κ C a ma) (hb : SE X κ C b mb) (hg : Gl X "zip" := by rfl) (hs : starEach [a, b] X.env = (false, eval a X.env) :: starEach [b] X.env := by rfl) (hs2 : starEach [b] X.env = [(false, eval b X.env)] := by rfl)
    (hpl : (backTo pos (starEach [b] X.env)).any (·.1) = false := by rfl) : SI X κ C (.Tuple elts kk tpos) (.Call (.Name "zip" p2) [a, b] [] pos) (iZp ma mb) := by
  refine ⟨⟨fun pins s σ H R I ⟨φ, ev, h, S, r, it, h1, e, k⟩ => ?_⟩⟩
  obtain ⟨dx, h1', e1, e⟩ := Rok e
  obtain ⟨dy, h2', e2, e⟩ := Rok e
  split at e
  · split at e
    · rename_i i j _ _ xs ys ex ey
      cases e
      refine (pi_zip hg hm (pa_cons ha.pe (pa_cons hb.pe pa_nil hs2) hs) hs hpl).run pins s σ H R I (td_of S r e1 fun φ1 H1 v st S1 r1 q1 => td_of S1 r1 e2 fun φ2 H2 w st2 S2 r2 q2 => ?_)
      have q3 := q1.step S1 st2
      rw [RV.ref_iff] at q2 q3
      obtain ⟨hi, rfl⟩ := q3
      obtain ⟨hj, rfl⟩ := q2
      obtain ⟨vs, hvs, _⟩ := S2.isL ex
      obtain ⟨us, hus, _⟩ := S2.isL ey
      exact ⟨_, _, vs, us, rfl, hvs, hus, k φ2 H2 _ (st.trans st2) S2 (itZ_of hi hj)⟩
    · cases e
  · cases e
theorem si_rv (hm : X.mg "reversed" = none) (ha : SE X κ C a ma) (hg : Gl X "reversed" := by rfl) (hs : starEach [a] X.env = [(false, eval a X.env)] := by rfl) : SI X κ C tg (.Call (.Name "reversed" p2) [a] [] pos) (iRv ma) := by
  refine ⟨⟨fun pins s σ H R I ⟨φ, ev, h, S, r, it, h1, e, k⟩ => ?_⟩⟩
  obtain ⟨dx, h1', e1, e⟩ := Rok e
  split at e
  · split at e
    · rename_i i _ ds el
      cases e
      refine (pi_reversed hg hm (pa_cons ha.pe pa_nil hs) hs).run pins s σ H R I (td_of S r e1 fun φ1 H1 v st S1 r1 q1 => ?_)
      rw [RV.ref_iff] at q1
      obtain ⟨hi, rfl⟩ := q1
      obtain ⟨vs, hs, rr⟩ := S1.isL el
      refine ⟨_, vs, rfl, hs, ?_⟩
      rw [rr.len]
      exact k φ1 H1 _ st S1 (itV_of hi)
    · cases e
  · cases e

/-! ### loops -/
theorem PostS.loop {K : PySem.W.Frag} {φ φ1 : Nat → Addr} {h h1 : HP} {H H1 : Hp} {r : R FL} {Dn : Ends} {N : L2.St → Hp → Prop} {f : FL → HP → R FL} (p : PostS K κ φ h H (r.bind f) Dn) (st : Step φ h H φ1 h1 H1)
    (fn : ∀ e2 h2, PostS K κ φ h H (f (.nx e2) h2) Dn → ∀ φ' H' σ', Step φ1 h1 H1 φ' h2 H' → Sim K κ φ' h2 H' → EnvR φ' h2.length H' e2 σ' → N σ' H')
    (fc : ∀ e2 h2, PostS K κ φ h H (f (.ct e2) h2) Dn → ∀ φ' H' σ', Step φ1 h1 H1 φ' h2 H' → Sim K κ φ' h2 H' → EnvR φ' h2.length H' e2 σ' → N σ' H')
    (fb : ∀ e2 h2, f (.bk e2) h2 = .ok (.nx e2) h2) (fr : ∀ d h2, f (.rt d) h2 = .ok (.rt d) h2) : PostS K κ φ1 h1 H1 r { Dn with nx := N, ct := N, bk := Dn.nx } := by
  cases r with
  | ok x h2 =>
    have p : PostS K κ φ h H (f x h2) Dn := p
    cases x with
    | nx e2 => exact fun φ' H' σ' => fn e2 h2 p φ' H' σ'
    | ct e2 => exact fun φ' H' σ' => fc e2 h2 p φ' H' σ'
    | bk e2 =>
      rw [fb] at p
      exact fun φ' H' σ' st' S' r' => p φ' H' σ' (st.trans st') S' r'
    | rt d =>
      rw [fr] at p
      exact fun φ' H' v st' S' r' => p φ' H' v (st.trans st') S' r'
  | ex _ _ _ => exact False.elim p
  | no => exact False.elim p
theorem ss_fo {body : List Stmt} {mi : MI} (hc : X.calm = true) (hi : SI X κ C tg e mi) (hg : SG X κ tg g) (hb : SSs X κ C body ms) (hp : PassesOwn (model X.prog X.w) X.A X.env X.xe := by exact PassesOwn.never)
    (hs : ∀ x, foldedSetIterable e X.env x = pure x := by intro _; rfl) : SS X κ C (.For tg e body [] pos) (sFo g mi ms) :=
  SS.mk' (ps_for hp hc hi.pi hg.pg hb.pss hs) fun φ ev h σ H Dn S r p => by
    obtain ⟨it, h1, e1, p⟩ := PostS.bind p
    refine ⟨φ, ev, h, S, r, it, h1, e1, fun φ1 H1 J st S1 hJ => ?_⟩
    refine ⟨fun j m σ' H' => ∃ φ' e' h', Step φ1 h1 H1 φ' h' H' ∧ Sim X.K κ φ' h' H' ∧ EnvR φ' h'.length H' e' σ' ∧ PostS X.K κ φ' h' H' (forN it g ms m j C e' h') Dn,
      ⟨C.fuel, φ1, ev, h1, Step.refl, S1, r.step S st, p.step st⟩, ?_⟩
    rintro j m σ' H' ⟨φ', e', h', st', S', r', p'⟩
    cases m with
    | zero => exact False.elim p'
    | succ m =>
      obtain ⟨k1, k2⟩ := hJ φ' h' H' st' S' j
      simp only [forN] at p'
      cases ei : it j h' with
      | none => rw [ei] at p'; exact False.elim p'
      | some o =>
        rw [ei] at p'
        cases o with
        | none => exact .inl ⟨k1 ei, p' φ' H' σ' Step.refl S' r'⟩
        | some d =>
          obtain ⟨g1, g2⟩ := k2 d ei
          simp only at p'
          refine .inr ⟨g1, fun σ2 H2 => ∃ φ2 e2 h2, Step φ1 h1 H1 φ2 h2 H2 ∧ Sim X.K κ φ2 h2 H2 ∧ EnvR φ2 h2.length H2 e2 σ2 ∧ PostS X.K κ φ2 h2 H2 (forN it g ms m (j + 1) C e2 h2) Dn, fun σ2 H2 n => ⟨m, Nat.lt_succ_self m, n⟩, fun x H2 y => ?_⟩
          obtain ⟨φ2, st2, S2, q2⟩ := g2 x H2 y
          cases eg : g e' d with
          | none => rw [eg] at p'; exact False.elim p'
          | some e2 =>
            rw [eg] at p'
            refine ⟨φ2, e', h', d, S2, r'.step S' st2, q2, e2, eg, fun σ3 r3 => ⟨φ2, e2, h', S2, r3, ?_⟩⟩
            have p2 := PostS.step p' st2
            have nxt : ∀ (e3 : Ev) (h3 : HP), PostS X.K κ φ2 h' H2 (forN it g ms m (j + 1) C e3 h3) Dn → ∀ φ' H' σ', Step φ2 h' H2 φ' h3 H' → Sim X.K κ φ' h3 H' → EnvR φ' h3.length H' e3 σ' →
                ∃ φ2 e2 h2, Step φ1 h1 H1 φ2 h2 H' ∧ Sim X.K κ φ2 h2 H' ∧ EnvR φ2 h2.length H' e2 σ' ∧ PostS X.K κ φ2 h2 H' (forN it g ms m (j + 1) C e2 h2) Dn := fun e3 h3 q φ4 H4 σ4 st4 S4 r4 =>
              ⟨φ4, e3, h3, (st'.trans st2).trans st4, S4, r4, q.step st4⟩
            exact PostS.loop p2 Step.refl nxt nxt (fun _ _ => rfl) (fun _ _ => rfl)
theorem ss_wh {body : List Stmt} (hc : ST X κ C c ta) (hb : SSs X κ C body ms) (hp : PassesOwn (model X.prog X.w) X.A X.env X.xe := by exact PassesOwn.never) : SS X κ C (.While c body [] pos) (sWh ta ms) :=
  SS.mk' (ps_while hp hc.pt hb.pss) fun φ ev h σ H Dn S r p => by
    refine ⟨fun m σ' H' => ∃ φ' e' h', Step φ h H φ' h' H' ∧ Sim X.K κ φ' h' H' ∧ EnvR φ' h'.length H' e' σ' ∧ PostS X.K κ φ' h' H' (whileN ta ms m C e' h') Dn, ⟨C.fuel, φ, ev, h, Step.refl, S, r, p⟩, ?_⟩
    rintro m σ' H' ⟨φ', e', h', st', S', r', p'⟩
    cases m with
    | zero => exact False.elim p'
    | succ m =>
      obtain ⟨b, h1, e1, p'⟩ := PostS.bind p'
      refine tq_of S' r' e1 fun φ1 H1 st1 S1 r1 => ?_
      cases b with
      | false =>
        rw [if_neg Bool.false_ne_true] at p' ⊢
        exact p' φ1 H1 σ' st1 S1 r1
      | true =>
        rw [if_pos rfl] at p' ⊢
        refine ⟨fun σ2 H2 => ∃ φ2 e2 h2, Step φ h H φ2 h2 H2 ∧ Sim X.K κ φ2 h2 H2 ∧ EnvR φ2 h2.length H2 e2 σ2 ∧ PostS X.K κ φ2 h2 H2 (whileN ta ms m C e2 h2) Dn, fun σ2 H2 n => ⟨m, Nat.lt_succ_self m, n⟩, φ1, e', h1, S1, r1, ?_⟩
        have p2 := PostS.step p' st1
        have nxt : ∀ (e3 : Ev) (h3 : HP), PostS X.K κ φ1 h1 H1 (whileN ta ms m C e3 h3) Dn → ∀ φ' H' σ', Step φ1 h1 H1 φ' h3 H' → Sim X.K κ φ' h3 H' → EnvR φ' h3.length H' e3 σ' →
            ∃ φ2 e2 h2, Step φ h H φ2 h2 H' ∧ Sim X.K κ φ2 h2 H' ∧ EnvR φ2 h2.length H' e2 σ' ∧ PostS X.K κ φ2 h2 H' (whileN ta ms m C e2 h2) Dn := fun e3 h3 q φ4 H4 σ4 st4 S4 r4 =>
          ⟨φ4, e3, h3, (st'.trans st1).trans st4, S4, r4, q.step st4⟩
        exact PostS.loop p2 Step.refl nxt nxt (fun _ _ => rfl) (fun _ _ => rfl)
end

/-! ### a def by its body -/
/-- a def of the text behind the top, with whole numbers as defaults -/
abbrev FunZ (K : PySem.W.Frag) (x qual : Str) (st : Stmt) (dfs : List Int) (f : Addr) (fd : FuncData) : Prop := FunD K x qual (defArgs st) (defBody st) (defScope st) (dfs.map V.int) [] f fd
theorem fnOk_of {P : Program} {w : World} {K : PySem.W.Frag} {mg : Str → Option Value} {base : Heap} {κ : Nat → Addr} {C : Ctx} {np nn : Nat} {body : MS} {x qual : Str} {st : Stmt} {f : Addr} {fd : FuncData} {N ps : List Str} {k : Nat} {dfs : List Int} (F : FunZ K x qual st dfs f fd) (S : FnScope N ps (defScope st))
    (hp : ps.length = np) (hn : N.length = nn)
    (hbody : ∀ (cdv : Value) (A : Around) (outer : List Env) (s : Shared) (H : Hp) (E : XK), Room k (A.deeper (envOfC qual (defScope st) s.heap.objs.size f cdv)) →
      SSs (cxOf CX0 P w K mg base N qual (defScope st) f cdv A outer s H E).nox κ C (defBody st) body) : FnOk P w K mg base CX0 (k + 1) f fd ps (spD K κ ps.length (runFn C ⟨np, nn, body⟩)) := by
  refine FunD.ok F S (fun vs H Q E h => h.1) fun cdv A outer s H vs Q E hr h => ?_
  obtain ⟨hl, φ, h, ds, Sm, r, p⟩ := h
  refine ⟨_, (hbody cdv A outer s H E hr).pss.nox, ?_⟩
  unfold runFn at p
  split at p
  · rename_i hd
    obtain ⟨fl, h1, e1, p⟩ := Post.bind p
    simp only at e1 p hd
    refine ⟨φ, ds.map some ++ List.replicate (nn - ds.length) none, h, Sm, ⟨?_, fun i d e => ?_⟩, ?_⟩
    · show (ds.map some ++ List.replicate (nn - ds.length) none).length = (L2.start N vs).length
      unfold L2.start
      simp only [List.length_append, List.length_map, List.length_replicate]
      rw [r.len, hn]
    · unfold L2.start
      by_cases hi : i < ds.length
      · rw [List.getElem?_append_left (by simpa using hi), List.getElem?_map] at e
        rw [List.getElem?_append_left (by simpa [r.len] using hi), List.getElem?_map]
        cases ed : ds[i]? with
        | none => rw [ed] at e; cases e
        | some d' =>
          rw [ed] at e
          cases e
          obtain ⟨v, ev, q⟩ := r.get ed
          exact ⟨v, by rw [ev]; rfl, q⟩
      · rw [List.getElem?_append_right (by simpa using hi), List.getElem?_replicate] at e
        split at e <;> cases e
    · rw [e1]
      cases fl with
      | nx e2 => exact fun φ' H' σ' st' S' r' => p φ' H' _ st' S' (RV.non_iff.mpr rfl)
      | rt d => exact fun φ' H' v st' S' r' => p φ' H' v st' S' r'
      | bk e2 => exact False.elim p
      | ct e2 => exact False.elim p
  · exact False.elim p
theorem ary_run {C : Ctx} {fn : Fn} : Ary fn.np (runFn C fn) := fun ds h hn => by unfold runFn; rw [if_neg hn]
end Z
/-! Z8: comprehensions. -/
namespace Z
open PySem L2 PyProof.Rows

/-! ### values in a heap that grew elsewhere -/
section
variable {K : PySem.W.Frag} {κ φ φ' φ1 : Nat → Addr} {h h' h1 : HP} {H H' H1 : Hp} {n m : Nat}
mutual
theorem RV.gen (a : ∀ i, i < n → φ' i = φ i) (l : n ≤ m) (t : ∀ p vs, H p = some (.tup vs) → H' p = some (.tup vs)) : ∀ {d : D} {v : V}, RV φ n H d v → RV φ' m H' d v
  | .non, v, q => by simpa only [RV] using q
  | .bl b, v, q => by simpa only [RV] using q
  | .int i, v, q => by simpa only [RV] using q
  | .str x, v, q => by simpa only [RV] using q
  | .ref i, v, q => by
    simp only [RV] at q ⊢
    exact ⟨Nat.lt_of_lt_of_le q.1 l, by rw [a i q.1]; exact q.2⟩
  | .tup ds, v, q => by
    simp only [RV] at q ⊢
    obtain ⟨p, vs, e, e2, r⟩ := q
    exact ⟨p, vs, e, t p vs e2, RVs.gen a l t r⟩
theorem RVs.gen (a : ∀ i, i < n → φ' i = φ i) (l : n ≤ m) (t : ∀ p vs, H p = some (.tup vs) → H' p = some (.tup vs)) : ∀ {ds : List D} {vs : List V}, RVs φ n H ds vs → RVs φ' m H' ds vs
  | [], vs, q => by simpa only [RVs] using q
  | d :: ds, vs, q => by
    simp only [RVs] at q ⊢
    obtain ⟨v, r, e, q1, q2⟩ := q
    exact ⟨v, r, e, RV.gen a l t q1, RVs.gen a l t q2⟩
end
theorem RKs.gen {κ' : Type} (a : ∀ i, i < n → φ' i = φ i) (l : n ≤ m) (t : ∀ p vs, H p = some (.tup vs) → H' p = some (.tup vs)) : ∀ {ds : List (κ' × D)} {vs : List (κ' × V)}, RKs φ n H ds vs → RKs φ' m H' ds vs
  | [], vs, q => by simpa only [RKs] using q
  | (k, d) :: ds, vs, q => by
    simp only [RKs] at q ⊢
    obtain ⟨v, r, e, q1, q2⟩ := q
    exact ⟨v, r, e, RV.gen a l t q1, RKs.gen a l t q2⟩
theorem EnvR.gen (a : ∀ i, i < n → φ' i = φ i) (l : n ≤ m) (t : ∀ p vs, H p = some (.tup vs) → H' p = some (.tup vs)) {e : Ev} {σ : L2.St} (r : EnvR φ n H e σ) : EnvR φ' m H' e σ :=
  ⟨r.len, fun i d q => by obtain ⟨v, e, rv⟩ := r.get i d q; exact ⟨v, e, rv.gen a l t⟩⟩
/-- an object at an address that holds the same -/
theorem RO.gen {b : Addr} {o : O} (a : ∀ i, i < n → φ' i = φ i) (l : n ≤ m) (t : ∀ p vs, H p = some (.tup vs) → H' p = some (.tup vs)) (e : ∀ u, H b = some u → H' b = some u) (q : RO K κ φ n H b o) : RO K κ φ' m H' b o := by
  cases o with
  | lst ds => obtain ⟨vs, e1, r⟩ := q; exact ⟨vs, e _ e1, r.gen a l t⟩
  | fz ds =>
    obtain ⟨vs, e1, r⟩ := q
    refine ⟨vs, ?_, r.gen a l t⟩
    rcases e1 with ⟨o, e1⟩ | e1
    · exact .inl ⟨o, e _ e1⟩
    · exact .inr e1
  | dic ds => obtain ⟨vs, e1, r⟩ := q; exact ⟨vs, e _ e1, r.gen a l t⟩
  | dct ds => obtain ⟨vs, e1, r⟩ := q; exact ⟨vs, e _ e1, r.gen a l t⟩
  | ins c fs => obtain ⟨dx, vs, e1, r⟩ := q; exact ⟨dx, vs, e _ e1, r.gen a l t⟩
/-- a list that the evaluator does not know is changed -/
theorem tup_off {b : Addr} {l : List V} {u : HO} (hb : H b = some (.lst l)) : ∀ p vs, H p = some (.tup vs) → upd H b u p = some (.tup vs) := fun p vs e => by
  by_cases z : p = b
  · subst z; rw [hb] at e; cases e
  · rw [upd_ne z]; exact e
theorem Sim.off (S : Sim K κ φ h H) {b : Addr} {l l' : List V} (hb : H b = some (.lst l)) (no : ¬ Own φ h b) : Sim K κ φ h (upd H b (.lst l')) := by
  refine ⟨S.inj, fun i o hi => ?_⟩
  by_cases m : o.mu = true
  · have ne : φ i ≠ b := fun z => no ⟨i, o, hi, m, z⟩
    exact RO.gen (fun _ _ => rfl) (Nat.le_refl _) (tup_off hb) (fun u e => by rw [upd_ne ne]; exact e) (S.obj i o hi)
  · cases o with
    | fz ds =>
      obtain ⟨vs, e1, r⟩ := S.obj i _ hi
      refine ⟨vs, ?_, r.gen (fun _ _ => rfl) (Nat.le_refl _) (tup_off hb)⟩
      rcases e1 with ⟨o, e1⟩ | e1
      · refine .inl ⟨o, ?_⟩
        by_cases z : φ i = b
        · rw [z, hb] at e1; cases e1
        · rw [upd_ne z]; exact e1
      · exact .inr e1
    | lst _ => exact absurd rfl m
    | dic _ => exact absurd rfl m
    | dct _ => exact absurd rfl m
    | ins _ _ => exact absurd rfl m
/-- .. becomes one of the evaluator's -/
theorem Sim.adopt (S : Sim K κ φ h H) {b : Addr} {ds : List D} {l : List V} (hb : H b = some (.lst l)) (no : ¬ Own φ h b) (r : RVs φ h.length H ds l) : Sim K κ (ext φ h.length b) (h ++ [.lst ds]) H := by
  have a : ∀ i, i < h.length → ext φ h.length b i = φ i := fun i hi => ext_lt hi
  have le : h.length ≤ (h ++ [O.lst ds]).length := by simp
  refine ⟨fun i j oi oj hi hj mi mj e => ?_, fun i o' hi => ?_⟩
  · rcases get_snoc hi with ⟨li, hi2⟩ | ⟨ei, eoi⟩ <;> rcases get_snoc hj with ⟨lj, hj2⟩ | ⟨ej, eoj⟩
    · rw [ext_lt li, ext_lt lj] at e
      exact S.inj i j oi oj hi2 hj2 mi mj e
    · rw [ext_lt li, ej, ext_at] at e
      exact absurd ⟨i, oi, hi2, mi, e⟩ no
    · rw [ext_lt lj, ei, ext_at] at e
      exact absurd ⟨j, oj, hj2, mj, e.symm⟩ no
    · rw [ei, ej]
  · rcases get_snoc hi with ⟨li, hi⟩ | ⟨rfl, rfl⟩
    · rw [ext_lt li]
      exact RO.gen a le (fun _ _ e => e) (fun _ e => e) (S.obj i o' hi)
    · rw [ext_at]
      exact ⟨l, hb, r.gen a le fun _ _ e => e⟩
end
/-! ### slots forgotten -/
theorem wipe_get (σ : L2.St) : ∀ (vs : List Nat) (j : Nat), (wipe σ vs)[j]? = if j ∈ vs then (σ[j]?).map (fun _ => none) else σ[j]?
  | [], j => by simp [wipe]
  | v :: vs, j => by
    show ((wipe σ vs).set v none)[j]? = _
    rw [List.getElem?_set, wipe_get σ vs j, wipe_length]
    by_cases hv : v = j
    · subst hv
      by_cases hl : v < σ.length
      · simp [hl]
      · simp [hl]
    · have : ¬ j = v := fun z => hv z.symm
      simp [hv, this]
theorem wipe_set {σ : L2.St} {vs : List Nat} {i : Nat} {x : Option V} (hi : i ∈ vs) : wipe (σ.set i x) vs = wipe σ vs := by
  apply List.ext_getElem?
  intro j
  rw [wipe_get, wipe_get]
  by_cases hj : j ∈ vs
  · rw [if_pos hj, if_pos hj, List.getElem?_set]
    by_cases e : i = j
    · subst e
      by_cases hl : i < σ.length
      · simp [hl]
      · simp [hl]
    · simp [e]
  · rw [if_neg hj, if_neg hj, List.getElem?_set_ne (fun e => hj (by rw [← e]; exact hi))]
theorem wipe_wipe {σ : L2.St} {vs : List Nat} : wipe (wipe σ vs) vs = wipe σ vs := by
  apply List.ext_getElem?
  intro j
  rw [wipe_get, wipe_get]
  by_cases hj : j ∈ vs
  · rw [if_pos hj, if_pos hj]
    cases σ[j]? <;> rfl
  · rw [if_neg hj, if_neg hj]
/-- a target of a block's own names -/
def GW (K : PySem.W.Frag) (vs : List Nat) (tg : TG) (g : Tg) : Prop := ∀ (φ : Nat → Addr) (n : Nat) (H : Hp) (e e' : Ev) (σ : L2.St) (d : D) (v : V) (Q : L2.St → Hp → Prop), EnvR φ n H e σ → RV φ n H d v → g e d = some e' →
  (∀ σ', EnvR φ n H e' σ' → wipe σ' vs = wipe σ vs → Q σ' H) → tg v σ H Q
theorem gw_name {K : PySem.W.Frag} {vs : List Nat} {i : Nat} (hi : i ∈ vs) : GW K vs (gName i) (gN i) := by
  intro φ n H e e' σ d v Q r q ge k
  unfold gN at ge
  cases ge
  exact k _ (r.set q i) (wipe_set hi)
theorem gsN_w {φ : Nat → Addr} {H : Hp} {n : Nat} {vs : List Nat} {Q : L2.St → Hp → Prop} : ∀ {is : List Nat} {ds : List D} {us : List V} {e : Ev} {σ : L2.St}, (∀ i ∈ is, i ∈ vs) → ds.length = is.length → EnvR φ n H e σ → RVs φ n H ds us →
    (∀ σ', EnvR φ n H ((is.zip ds).foldl (fun e p => e.set p.1 (some p.2)) e) σ' → wipe σ' vs = wipe σ vs → Q σ' H) → gsN is us σ H Q
  | [], [], us, e, σ, _, _, r, q, k => by
    simp only [RVs] at q
    exact ⟨q, k σ r rfl⟩
  | i :: is, d :: ds, us, e, σ, hv, hl, r, q, k => by
    simp only [RVs] at q
    obtain ⟨v, vr, rfl, q1, q2⟩ := q
    exact ⟨v, vr, rfl, gsN_w (is := is) (ds := ds) (fun j hj => hv j (List.mem_cons_of_mem _ hj)) (by simpa using hl) (r.set q1 i) q2 fun σ' r' w => k σ' r' (w.trans (wipe_set (hv i (List.mem_cons_self ..))))⟩
  | [], _ :: _, _, _, _, _, hl, _, _, _ => by simp at hl
  | _ :: _, [], _, _, _, _, hl, _, _, _ => by simp at hl
theorem gw_tup {K : PySem.W.Frag} {vs is : List Nat} {n : Nat} (hi : ∀ i ∈ is, i ∈ vs) (hn : is.length = n) : GW K vs (gTup K n (gsN is)) (gT is) := by
  intro φ m H e e' σ d v Q r q ge k
  unfold gT at ge
  cases d with
  | tup ds =>
    simp only at ge
    split at ge
    · rename_i hl
      cases ge
      rw [RV.tup_iff] at q
      obtain ⟨p, us, rfl, hp, q⟩ := q
      exact ⟨p, us, rfl, SqT.of hp, by rw [q.len, hl, hn], gsN_w hi hl r q k⟩
    · cases ge
  | non => cases ge
  | bl _ => cases ge
  | int _ => cases ge
  | str _ => cases ge
  | ref _ => cases ge
/-! ### the core -/
section
variable {K : PySem.W.Frag} {κ φ φ1 : Nat → Addr} {h h1 hF : HP} {H H1 : Hp} {C : Ctx}
theorem lc_go {e : Ev} {σ : L2.St} {it : Itr} {J : It} {g : Tg} {tg : TG} {vs : List Nat} {mt : MT} {me : ME} {xs : List D} {Qd : Hp → Prop} {Dl : Addr} (S1 : Sim K κ φ1 h1 H1) (r1 : EnvR φ1 h1.length H1 e σ) (hJ : ItR K κ φ1 h1 H1 it J) (hg : GW K vs tg g)
    (hc : cmpN it g mt me (wipeE e vs) C C.fuel 0 [] h1 = .ok xs hF) (hD : H1 Dl = none)
    (kQ : ∀ φ' H', Step φ1 h1 H1 φ' (hF ++ [.lst xs]) H' → Sim K κ φ' (hF ++ [.lst xs]) H' → φ' hF.length = Dl → Qd H') :
    ∃ W : Nat → Nat → Hp → Prop, (∃ m, W 0 m (upd H1 Dl (.lst []))) ∧ ∀ i m H, W i m H →
      (J.stop i H ∧ Qd H) ∨ (J.go i H ∧ ∃ Nx : Hp → Prop, (∀ H', Nx H' → ∃ m', m' < m ∧ W (i + 1) m' H') ∧ ∀ x H', J.yld i H x H' → tg x (wipe σ vs) H' fun σ2 H2 => wipe σ2 vs = wipe σ vs ∧ tQ K κ C mt σ2 H2 fun b H3 =>
        if b = true then tD K κ C me σ2 H3 fun y H4 => ∃ acc, H4 Dl = some (.lst acc) ∧ acc.length < sizeLine ∧ Nx (upd H4 Dl (.lst (acc ++ [y]))) else Nx H3) := by
  let W : Nat → Nat → Hp → Prop := fun i m H => ∃ φ h acc l, Step φ1 h1 H1 φ h H ∧ Sim K κ φ h H ∧ H Dl = some (.lst l) ∧ RVs φ h.length H acc l ∧ EnvR φ h.length H (wipeE e vs) (wipe σ vs) ∧ ¬ Own φ h Dl ∧ cmpN it g mt me (wipeE e vs) C m i acc h = .ok xs hF
  refine ⟨W, ⟨C.fuel, φ1, h1, [], [], step_temp S1 hD, S1.temp hD, upd_same, RVs.nil_iff.mpr rfl, ?_, fun o => ?_, hc⟩, ?_⟩
  · exact (r1.step S1 (step_temp S1 hD)).wipe vs
  · obtain ⟨u, e', _⟩ := S1.own o
    rw [hD] at e'; cases e'
  rintro i m H ⟨φ, h, acc, l, st, S, hl, ra, re, no, hcm⟩
  have neD : ∀ b, H1 b ≠ none → b ≠ Dl := fun b hb z => hb (z ▸ hD)
  cases m with
  | zero => cases hcm
  | succ m =>
    obtain ⟨k1, k2⟩ := hJ φ h H st S i
    simp only [cmpN] at hcm
    cases ei : it i h with
    | none => rw [ei] at hcm; cases hcm
    | some o =>
      rw [ei] at hcm
      cases o with
      | none =>
        simp only [R.ok.injEq] at hcm
        obtain ⟨rfl, rfl⟩ := hcm
        refine .inl ⟨k1 ei, kQ (ext φ h.length Dl) H ⟨?_, fun j hj => ?_, fun b hb ob => ?_⟩ (S.adopt hl no ra) ext_at⟩
        · have := st.len; simp; omega
        · rw [ext_lt (Nat.lt_of_lt_of_le hj st.len)]; exact st.agree j hj
        · obtain ⟨e1, o1⟩ := st.frame b hb ob
          refine ⟨e1, fun z => ?_⟩
          obtain ⟨j, oj, hj, mj, rfl⟩ := z
          rcases get_snoc hj with ⟨lj, hj⟩ | ⟨rfl, rfl⟩
          · exact o1 ⟨j, oj, hj, mj, (ext_lt lj).symm⟩
          · exact neD _ hb ext_at
      | some d =>
        simp only at hcm
        obtain ⟨g1, g2⟩ := k2 d ei
        refine .inr ⟨g1, W (i + 1) m, fun H' w => ⟨m, Nat.lt_succ_self m, w⟩, fun x H2 y => ?_⟩
        obtain ⟨φ2, st2, S2, q2⟩ := g2 x H2 y
        cases eg : g (wipeE e vs) d with
        | none => rw [eg] at hcm; cases hcm
        | some e2 =>
          rw [eg] at hcm
          simp only at hcm
          have hl2 := st2.frame Dl (by rw [hl]; simp) no
          refine hg φ2 h.length H2 _ e2 _ d x _ (re.step S st2) q2 eg fun σ3 r3 w3 => ⟨w3.trans wipe_wipe, ?_⟩
          cases et : mt C e2 h with
          | no => rw [et] at hcm; cases hcm
          | ex _ _ _ => rw [et] at hcm; cases hcm
          | ok b h3 =>
            rw [et] at hcm
            simp only [R.bind_ok] at hcm
            refine tq_of S2 r3 et fun φ3 H3 st3 S3 r4 => ?_
            have hl3 := st3.frame Dl (by rw [hl2.1, hl]; simp) hl2.2
            have rw3 := (re.step S st2).step S2 st3
            cases b with
            | false =>
              rw [if_neg Bool.false_ne_true] at hcm ⊢
              exact ⟨φ3, h3, acc, l, (st.trans st2).trans st3, S3, hl3.1.trans (hl2.1.trans hl), (ra.step S st2).step S2 st3, rw3, hl3.2, hcm⟩
            | true =>
              rw [if_pos rfl] at hcm ⊢
              cases ea : me C e2 h3 with
              | no => rw [ea] at hcm; cases hcm
              | ex _ _ _ => rw [ea] at hcm; cases hcm
              | ok yv h4 =>
                rw [ea] at hcm
                simp only [R.bind_ok] at hcm
                refine td_of S3 r4 ea fun φ4 H4 v st4 S4 r5 q4 => ?_
                have hl4 := st4.frame Dl (by rw [hl3.1, hl2.1, hl]; simp) hl3.2
                have hD4 : H4 Dl = some (.lst l) := hl4.1.trans (hl3.1.trans (hl2.1.trans hl))
                have ra4 := ((ra.step S st2).step S2 st3).step S3 st4
                split at hcm
                · rename_i hz
                  have tf := tup_off (u := .lst (l ++ [v])) hD4
                  refine ⟨l, hD4, by rw [ra4.len]; exact hz, φ4, h4, acc ++ [yv], l ++ [v], ⟨?_, fun j hj => ?_, fun b hb ob => ?_⟩, S4.off hD4 hl4.2, upd_same, ?_, ?_, hl4.2, hcm⟩
                  · exact Nat.le_trans st.len (Nat.le_trans st2.len (Nat.le_trans st3.len st4.len))
                  · exact ((st.trans st2).trans (st3.trans st4)).agree j hj
                  · obtain ⟨e1, o1⟩ := ((st.trans st2).trans (st3.trans st4)).frame b hb ob
                    exact ⟨by rw [upd_ne (neD b hb)]; exact e1, o1⟩
                  · exact (RVs.append ra4 (RVs.one q4)).gen (fun _ _ => rfl) (Nat.le_refl _) tf
                  · exact (rw3.step S3 st4).gen (fun _ _ => rfl) (Nat.le_refl _) tf
                · cases hcm
end
structure STs (X : Cx) (κ : Nat → Addr) (C : Ctx) (ifs : List Expr) (m : MT) : Prop where
  pts : PTs X ifs (tQ X.K κ C m)
section
variable {X : Cx} {κ : Nat → Addr} {C : Ctx} {c elt iter : Expr} {ifs : List Expr} {me : ME} {mt : MT} {mi : MI} {g : Tg} {scope : Scope} {own : List (Str × Nat)} {vs is : List Nat} {pos px spos py : Pos}
theorem sts_nil : STs X κ C [] tY := ⟨⟨fun pins s σ H Q I ⟨φ, ev, h, S, r, p⟩ => pts_nil.run pins s σ H Q I (p φ H Step.refl S)⟩⟩
theorem sts_one (h : ST X κ C c mt) : STs X κ C [c] mt := ⟨pts_one h.pt⟩
theorem lc_read {tg : TG} {e : Ev} {σ : L2.St} {φ : Nat → Addr} {h : HP} {H : Hp} {Q : VK} (hg : GW X.K vs tg g) (S : Sim X.K κ φ h H) (r : EnvR φ h.length H e σ) (p : Post X.K κ φ h H (eLc vs g mi mt me C e h) Q) : tLc (tI X.K κ C mi) tg (tQ X.K κ C mt) (tD X.K κ C me) vs σ H Q := by
  obtain ⟨it, h1, e1, p⟩ := Post.bind p
  obtain ⟨xs, hF, e2, p⟩ := Post.bind p
  refine ⟨φ, e, h, S, r, it, h1, e1, fun φ1 H1 J st S1 hJ Dl hD => ?_⟩
  refine lc_go S1 (r.step S st) hJ hg e2 hD fun φ' H' st' S' ed => ?_
  exact p φ' H' (.ref Dl) (st.trans st') S' (RV.ref_iff.mpr ⟨by simp, by rw [ed]⟩)
theorem se_lc {i : Nat} {x : Str} (hc : X.calm = true) (hN : X.N.Nodup) (hi : SI X κ C (.Name x px) iter mi) (ok : BlkOk X.N X.env.scope scope own)
    (hg : ∀ (s : Shared) (H : Hp) (A : Addr) (cl : List (Str × Addr)) (fp : List Addr), PG (X.blk s H scope (compEnvC scope cl A X.env) fp) (.Name x px) (gName i))
    (ht : ∀ (s : Shared) (H : Hp) (A : Addr) (cl : List (Str × Addr)) (fp : List Addr), STs (X.blk s H scope (compEnvC scope cl A X.env) fp) κ C ifs mt)
    (he : ∀ (s : Shared) (H : Hp) (A : Addr) (cl : List (Str × Addr)) (fp : List Addr), SE (X.blk s H scope (compEnvC scope cl A X.env) fp) κ C elt me)
    (hvs : own.map (·.2) = vs := by rfl) (hv : i ∈ vs := by decide) (hs : ∀ x, foldedSetIterable iter X.env x = pure x := by intro _; rfl) : SE X κ C (.ListComp elt [⟨.Name x px, iter, ifs, 0⟩] scope pos) (eLc vs (gN i) mi mt me) := by
  subst hvs
  exact SE.mk' (pe_lc hc hN hi.pi ok hg (fun s H A cl fp => (ht s H A cl fp).pts) (fun s H A cl fp => (he s H A cl fp).pe) hs) fun φ ev h σ H Q S r p => lc_read (gw_name hv) S r p
theorem se_lct {es : List Expr} {kk n : Nat} (hc : X.calm = true) (hN : X.N.Nodup) (hi : SI X κ C (.Tuple es kk px) iter mi) (ok : BlkOk X.N X.env.scope scope own)
    (hg : ∀ (s : Shared) (H : Hp) (A : Addr) (cl : List (Str × Addr)) (fp : List Addr), SGs (X.blk s H scope (compEnvC scope cl A X.env) fp) es is)
    (ht : ∀ (s : Shared) (H : Hp) (A : Addr) (cl : List (Str × Addr)) (fp : List Addr), STs (X.blk s H scope (compEnvC scope cl A X.env) fp) κ C ifs mt)
    (he : ∀ (s : Shared) (H : Hp) (A : Addr) (cl : List (Str × Addr)) (fp : List Addr), SE (X.blk s H scope (compEnvC scope cl A X.env) fp) κ C elt me)
    (hvs : own.map (·.2) = vs := by rfl) (hv : ∀ i ∈ is, i ∈ vs := by decide) (hs : ∀ x, foldedSetIterable iter X.env x = pure x := by intro _; rfl)
    (hn : ∀ env : Env, (assignEach es env).length = is.length := by intro _; rfl) (hst : ∀ env : Env, (assignEach es env).findIdx? (·.1) = none := by intro _; rfl) : SE X κ C (.ListComp elt [⟨.Tuple es kk px, iter, ifs, 0⟩] scope pos) (eLc vs (gT is) mi mt me) := by
  subst hvs
  exact SE.mk' (pe_lc hc hN hi.pi ok (fun s H A cl fp => pg_tup (X := X.blk s H scope (compEnvC scope cl A X.env) fp) hc (hg s H A cl fp).pgs (hn _) (hst _)) (fun s H A cl fp => (ht s H A cl fp).pts) (fun s H A cl fp => (he s H A cl fp).pe) hs) fun φ ev h σ H Q S r p => lc_read (gw_tup hv rfl) S r p
/-- y = [..] -/
theorem ss_lc {j i : Nat} {x y : Str} (hc : X.calm = true) (hsw : swapsWith (.ListComp elt [⟨.Name x px, iter, ifs, 0⟩] scope pos) (some (.Name y py)) spos.line X.env = pure true) (hN : X.N.Nodup) (hi : SI X κ C (.Name x px) iter mi) (ok : BlkOk X.N X.env.scope scope own)
    (hg : ∀ (s : Shared) (H : Hp) (A : Addr) (cl : List (Str × Addr)) (fp : List Addr), PG (X.blk s H scope (compEnvC scope cl A X.env) fp) (.Name x px) (gName i))
    (ht : ∀ (s : Shared) (H : Hp) (A : Addr) (cl : List (Str × Addr)) (fp : List Addr), STs (X.blk s H scope (compEnvC scope cl A X.env) fp) κ C ifs mt)
    (he : ∀ (s : Shared) (H : Hp) (A : Addr) (cl : List (Str × Addr)) (fp : List Addr), SE (X.blk s H scope (compEnvC scope cl A X.env) fp) κ C elt me)
    (hy : X.N[j]? = some y := by rfl) (hyl : X.env.scope.names.lookup y = some .local := by rfl)
    (hvs : own.map (·.2) = vs := by rfl) (hv : i ∈ vs := by decide) (hs : ∀ x, foldedSetIterable iter X.env x = pure x := by intro _; rfl) : SS X κ C (.Assign [.Name y py] (.ListComp elt [⟨.Name x px, iter, ifs, 0⟩] scope pos) spos) (sAs (gN j) (eLc vs (gN i) mi mt me)) := by
  subst hvs
  refine SS.mk' (ps_setLc (te := tD X.K κ C me) (tt := tQ X.K κ C mt) hc hN hy hyl hsw hi.pi ok hg (fun s H A cl fp => (ht s H A cl fp).pts) (fun s H A cl fp => (he s H A cl fp).pe) hs) fun φ ev h σ H Dn S r p => ?_
  obtain ⟨d, h1, e1, p⟩ := PostS.bind p
  refine lc_read (Q := fun x H1 => gName j x σ H1 Dn.nx) (gw_name hv) S r ?_
  rw [e1]
  exact fun φ1 H1 v st S1 q1 => p φ1 H1 _ st S1 ((r.step S st).set q1 j)
theorem ss_lct {j : Nat} {y : Str} {es : List Expr} {kk n : Nat} (hc : X.calm = true) (hsw : swapsWith (.ListComp elt [⟨.Tuple es kk px, iter, ifs, 0⟩] scope pos) (some (.Name y py)) spos.line X.env = pure true) (hN : X.N.Nodup) (hi : SI X κ C (.Tuple es kk px) iter mi) (ok : BlkOk X.N X.env.scope scope own)
    (hg : ∀ (s : Shared) (H : Hp) (A : Addr) (cl : List (Str × Addr)) (fp : List Addr), SGs (X.blk s H scope (compEnvC scope cl A X.env) fp) es is)
    (ht : ∀ (s : Shared) (H : Hp) (A : Addr) (cl : List (Str × Addr)) (fp : List Addr), STs (X.blk s H scope (compEnvC scope cl A X.env) fp) κ C ifs mt)
    (he : ∀ (s : Shared) (H : Hp) (A : Addr) (cl : List (Str × Addr)) (fp : List Addr), SE (X.blk s H scope (compEnvC scope cl A X.env) fp) κ C elt me)
    (hy : X.N[j]? = some y := by rfl) (hyl : X.env.scope.names.lookup y = some .local := by rfl)
    (hvs : own.map (·.2) = vs := by rfl) (hv : ∀ i ∈ is, i ∈ vs := by decide) (hs : ∀ x, foldedSetIterable iter X.env x = pure x := by intro _; rfl)
    (hn : ∀ env : Env, (assignEach es env).length = is.length := by intro _; rfl) (hst : ∀ env : Env, (assignEach es env).findIdx? (·.1) = none := by intro _; rfl) : SS X κ C (.Assign [.Name y py] (.ListComp elt [⟨.Tuple es kk px, iter, ifs, 0⟩] scope pos) spos) (sAs (gN j) (eLc vs (gT is) mi mt me)) := by
  subst hvs
  refine SS.mk' (ps_setLc (g := gTup X.K is.length (gsN is)) (te := tD X.K κ C me) (tt := tQ X.K κ C mt) hc hN hy hyl hsw hi.pi ok (fun s H A cl fp => pg_tup (X := X.blk s H scope (compEnvC scope cl A X.env) fp) hc (hg s H A cl fp).pgs (hn _) (hst _)) (fun s H A cl fp => (ht s H A cl fp).pts) (fun s H A cl fp => (he s H A cl fp).pe) hs) fun φ ev h σ H Dn S r p => ?_
  obtain ⟨d, h1, e1, p⟩ := PostS.bind p
  refine lc_read (Q := fun x H1 => gName j x σ H1 Dn.nx) (gw_tup hv rfl) S r ?_
  rw [e1]
  exact fun φ1 H1 v st S1 q1 => p φ1 H1 _ st S1 ((r.step S st).set q1 j)
end
end Z
/-! Z8m: methods of lists and texts, list(), tuple(), sorted(), chains of comparisons. -/
namespace Z
open PySem L2 PyProof.Rows

/-- o.m(..), o of a built-in type (looked at ahead of the arguments) -/
def eBk (ok : D → HP → Bool) (f : D → List D → HP → R D) (o : ME) (as : MA) : ME := fun C e h => (o C e h).bind fun x h => if ok x h = true then (as C e h).bind fun xs h => f x xs h else .no
def okL : D → HP → Bool := fun x h => match x with
  | .ref i => (isL i h).isSome
  | _ => false
def okS : D → HP → Bool := fun x _ => match x with
  | .str _ => true
  | _ => false
def mApp : D → List D → HP → R D := fun x ys h => match x, ys with
  | .ref i, [y] => match h[i]? with
    | some (.lst xs) => if xs.length < sizeLine then .ok .non (h.set i (.lst (xs ++ [y]))) else .no
    | _ => .no
  | _, _ => .no
def mExt : D → List D → HP → R D := fun x ys h => match x, ys with
  | .ref i, [.ref j] => match h[i]?, h[j]? with
    | some (.lst xs), some (.lst zs) => if xs.length + zs.length ≤ sizeLine then .ok .non (h.set i (.lst (xs ++ zs))) else .no
    | _, _ => .no
  | _, _ => .no
def mPop : D → List D → HP → R D := fun x ys h => match x, ys with
  | .ref i, [] => match h[i]? with
    | some (.lst xs) => match xs[xs.length - 1]? with
      | some y => .ok y (h.set i (.lst xs.dropLast))
      | none => .no
    | _ => .no
  | _, _ => .no
def mClr : D → List D → HP → R D := fun x ys h => match x, ys with
  | .ref i, [] => match h[i]? with
    | some (.lst _) => .ok .non (h.set i (.lst []))
    | _ => .no
  | _, _ => .no
def mCnt : D → List D → HP → R D := fun x ys h => match x, ys with
  | .ref i, [.int k] => match isL i h with
    | some ds => match intsD ds with
      | some ns => .ok (.int (ns.count k : Nat)) h
      | none => .no
    | none => .no
  | _, _ => .no
/-- the first place, among flat things -/
def idxD (y : D) : List D → Nat → Option Nat
  | [], _ => none
  | z :: r, j => match eqFlat z y with
    | some true => some j
    | some false => idxD y r (j + 1)
    | none => none
def mIdx : D → List D → HP → R D := fun x ys h => match x, ys with
  | .ref i, [y] => match isL i h with
    | some ds => if flatD y = true ∧ ds.all flatD = true then match idxD y ds 0 with
        | some j => .ok (.int (j : Nat)) h
        | none => .no
      else .no
    | none => .no
  | _, _ => .no
def strD : D → Option Str
  | .str x => some x
  | _ => none
def strsD (ds : List D) : Option (List Str) := seqO (ds.map strD)
def mJoin : D → List D → HP → R D := fun x ys h => match x, ys with
  | .str a, [.ref i] => match isL i h with
    | some ds => match strsD ds with
      | some zs => if (zs.map (·.length)).sum + zs.length * a.length ≤ 16777216 then .ok (.str (Txt.join a zs)) h else .no
      | none => .no
    | none => .no
  | .str a, [.tup ds] => match strsD ds with
    | some zs => if (zs.map (·.length)).sum + zs.length * a.length ≤ 16777216 then .ok (.str (Txt.join a zs)) h else .no
    | none => .no
  | _, _ => .no
def mSplit : D → List D → HP → R D := fun x ys h => match x, ys with
  | .str a, [.str b] => if (b.length == 0) = false ∧ a.length + 2 ≤ sizeLine then .ok (.ref h.length) (h ++ [.lst ((Txt.split a b).map D.str)]) else .no
  | _, _ => .no
def mFind : D → List D → HP → R D := fun x ys h => match x, ys with
  | .str a, [.str b] => .ok (.int (Txt.find a b)) h
  | _, _ => .no
def bLst : List D → HP → R D := fun xs h => match xs with
  | [.ref i] => match isL i h with
    | some ds => .ok (.ref h.length) (h ++ [.lst ds])
    | none => .no
  | [.tup ds] => .ok (.ref h.length) (h ++ [.lst ds])
  | _ => .no
def bTup : List D → HP → R D := fun xs h => match xs with
  | [.ref i] => match isL i h with
    | some ds => .ok (.tup ds) h
    | none => .no
  | [.tup ds] => .ok (.tup ds) h
  | _ => .no
def srtI (ns : List Int) : List Int := ns.mergeSort (fun a b => decide (a ≤ b))
def bSrt : List D → HP → R D := fun xs h => match xs with
  | [.ref i] => match isL i h with
    | some ds => match intsD ds with
      | some ns => .ok (.ref h.length) (h ++ [.lst ((srtI ns).map D.int)])
      | none => .no
    | none => .no
  | _ => .no
section
variable {K : PySem.W.Frag} {κ φ : Nat → Addr} {h : HP} {H : Hp}
theorem okL_ok {φ : Nat → Addr} {h : HP} {H : Hp} {d : D} {v : V} (S : Sim K κ φ h H) (r : RV φ h.length H d v) (e : okL d h = true) : tyV K "list" v H := by
  unfold okL at e
  split at e
  · rw [RV.ref_iff] at r
    obtain ⟨_, rfl⟩ := r
    obtain ⟨ds, e2⟩ := Option.isSome_iff_exists.mp e
    obtain ⟨vs, hs, _⟩ := S.isL e2
    exact .inl ⟨rfl, vs, hs⟩
  · cases e
theorem okS_ok {φ : Nat → Addr} {h : HP} {H : Hp} {d : D} {v : V} (S : Sim K κ φ h H) (r : RV φ h.length H d v) (e : okS d h = true) : tyV K "str" v H := by
  unfold okS at e
  split at e
  · rw [RV.str_iff] at r
    subst r
    rfl
  · cases e
theorem strsD_of : ∀ {ds : List D} {zs : List Str}, strsD ds = some zs → ds = zs.map D.str
  | [], zs, e => by simp only [strsD, List.map_nil, seqO, Option.some.injEq] at e; subst e; rfl
  | d :: ds, zs, e => by
    unfold strsD at e
    cases d with
    | str i =>
      have e : (strsD ds).map (fun l => i :: l) = some zs := e
      rw [Option.map_eq_some_iff] at e
      obtain ⟨as, e2, rfl⟩ := e
      rw [strsD_of e2]; rfl
    | non => cases e
    | bl _ => cases e
    | int _ => cases e
    | tup _ => cases e
    | ref _ => cases e
theorem strsD_strs : ∀ zs : List Str, strsD (zs.map D.str) = some zs
  | [] => rfl
  | i :: r => by
    have ih := strsD_strs r
    unfold strsD at ih ⊢
    simp only [List.map_cons, seqO, strD]
    rw [ih]; rfl
theorem RVs.strs {φ : Nat → Addr} {n : Nat} {H : Hp} : ∀ {zs : List Str} {vs : List V}, RVs φ n H (zs.map D.str) vs → vs = zs.map V.str
  | [], vs, h => by simpa [RVs] using h
  | i :: zs, vs, h => by
    simp only [List.map_cons, RVs] at h
    obtain ⟨v, r, rfl, h1, h⟩ := h
    simp only [RV] at h1
    subst h1
    rw [RVs.strs h]; rfl
theorem RVs.of_strs {φ : Nat → Addr} {n : Nat} {H : Hp} : ∀ {zs : List Str}, RVs φ n H (zs.map D.str) (zs.map V.str)
  | [] => by simp [RVs]
  | i :: zs => by
    simp only [List.map_cons, RVs]
    exact ⟨_, _, rfl, by simp [RV], RVs.of_strs⟩
theorem RVs.dropLast {φ : Nat → Addr} {n : Nat} {H : Hp} : ∀ {ds : List D} {vs : List V}, RVs φ n H ds vs → RVs φ n H ds.dropLast vs.dropLast
  | [], vs, h => by simp only [RVs] at h; subst h; simp [RVs]
  | [d], vs, h => by
    simp only [RVs] at h
    obtain ⟨v, r, rfl, _, rfl⟩ := h
    simp [RVs]
  | d :: d2 :: ds, vs, h => by
    have h' := h
    simp only [RVs] at h'
    obtain ⟨v, r, rfl, h1, v2, r2, rfl, h2, h3⟩ := h'
    have ih := RVs.dropLast (ds := d2 :: ds) (vs := v2 :: r2) (by simp only [RVs]; exact ⟨_, _, rfl, h2, h3⟩)
    simp only [List.dropLast_cons₂]
    exact RVs.cons h1 ih
/-- an object of the evaluator's is changed: what is to be shown of the result -/
theorem Post.setL {Q : VK} {d : D} {v : V} {i : Nat} {o : O} {ds : List D} {vs : List V} (p : Post K κ φ h H (.ok d (h.set i (.lst ds))) Q) (S : Sim K κ φ h H) (hi : h[i]? = some o) (m : o.mu = true) (r : RVs φ h.length H ds vs) (q : RV φ h.length H d v) : Q v (upd H (φ i) (.lst vs)) := by
  have st := step_set S (o' := .lst ds) (u := .lst vs) hi m rfl
  exact p _ _ _ st (S.set hi m rfl fun st => ⟨vs, upd_same, r.step S st⟩) (q.step S st)
theorem idxD_of {y : D} {u : V} (ry : RV φ h.length H y u) : ∀ {ds : List D} {vs : List V} {j k : Nat}, RVs φ h.length H ds vs → idxD y ds j = some k → ∃ i z, k = j + i ∧ vs[i]? = some z ∧ eqV z u = true ∧ ∀ m z', m < i → vs[m]? = some z' → eqV z' u = false
  | [], vs, j, k, r, e => by cases e
  | d :: ds, vs, j, k, r, e => by
    simp only [RVs] at r
    obtain ⟨v, r2, rfl, q1, q2⟩ := r
    unfold idxD at e
    split at e
    · rename_i e1
      cases e
      exact ⟨0, v, rfl, rfl, flat_eq e1 q1 ry, fun m z' hm => absurd hm (Nat.not_lt_zero m)⟩
    · rename_i e1
      obtain ⟨i, z, rfl, e2, e3, e4⟩ := idxD_of ry q2 e
      refine ⟨i + 1, z, by omega, by simpa using e2, e3, fun m z' hm hz => ?_⟩
      cases m with
      | zero =>
        simp only [List.getElem?_cons_zero, Option.some.injEq] at hz
        subst hz
        exact flat_eq e1 q1 ry
      | succ m => exact e4 m z' (by omega) (by simpa using hz)
    · cases e
theorem flats_of : ∀ {ds : List D} {vs : List V}, ds.all flatD = true → RVs φ h.length H ds vs → vs.all flatV = true
  | [], vs, _, r => by simp only [RVs] at r; subst r; rfl
  | d :: ds, vs, f, r => by
    simp only [RVs] at r
    obtain ⟨v, r2, rfl, q1, q2⟩ := r
    simp only [List.all_cons, Bool.and_eq_true] at f ⊢
    exact ⟨flat_of f.1 q1, flats_of f.2 q2⟩
end
/-- what a method's reading asks, by the evaluator -/
def MetD (X : Cx) (κ : Nat → Addr) (r : V → List V → Hp → VK → Prop) (f : D → List D → HP → R D) : Prop := ∀ (φ : Nat → Addr) (h : HP) (H : Hp) (x : D) (xs : List D) (v : V) (vs : List V) (Q : VK), Sim X.K κ φ h H → RV φ h.length H x v → RVs φ h.length H xs vs → Post X.K κ φ h H (f x xs h) Q → r v vs H Q
section
variable {X : Cx} {κ : Nat → Addr} {C : Ctx} {a b c e o : Expr} {es : List Expr} {ma mb mc mo : ME} {ta tb : MT} {mas : MA} {pos apos cpos p2 : Pos}
theorem md_append : MetD X κ rAppend mApp := by
  intro φ h H x xs v vs Q S rx rs p
  unfold mApp at p
  split at p
  · (replace rs := rs.one_inv); obtain ⟨u, rfl, ry⟩ := rs
    rw [RV.ref_iff] at rx
    obtain ⟨hi, rfl⟩ := rx
    split at p
    · rename_i ds e
      split at p
      · rename_i hz
        obtain ⟨ws, e2, r⟩ := S.lst e
        exact ⟨_, ws, u, rfl, rfl, e2, by rw [r.len]; exact hz, p.setL S e rfl (r.append (RVs.one ry)) (RV.non_iff.mpr rfl)⟩
      · exact False.elim p
    · exact False.elim p
  · exact False.elim p
theorem md_extend : MetD X κ rExtend mExt := by
  intro φ h H x xs v vs Q S rx rs p
  unfold mExt at p
  split at p
  · (replace rs := rs.one_inv); obtain ⟨u, rfl, ry⟩ := rs
    rw [RV.ref_iff] at rx ry
    obtain ⟨hi, rfl⟩ := rx
    obtain ⟨hj, rfl⟩ := ry
    split at p
    · rename_i ds zs e ez
      split at p
      · rename_i hz
        obtain ⟨ws, e2, r⟩ := S.lst e
        obtain ⟨ys, e3, r2⟩ := S.lst ez
        exact ⟨_, _, ws, ys, rfl, rfl, e2, e3, by rw [r.len, r2.len]; exact hz, p.setL S e rfl (r.append r2) (RV.non_iff.mpr rfl)⟩
      · exact False.elim p
    · exact False.elim p
  · exact False.elim p
theorem md_pop : MetD X κ rPop mPop := by
  intro φ h H x xs v vs Q S rx rs p
  unfold mPop at p
  split at p
  · simp only [RVs] at rs
    subst rs
    rw [RV.ref_iff] at rx
    obtain ⟨hi, rfl⟩ := rx
    split at p
    · rename_i ds e
      split at p
      · rename_i y ey
        obtain ⟨ws, e2, r⟩ := S.lst e
        obtain ⟨u, eu, ru⟩ := r.get ey
        exact ⟨_, ws, u, rfl, rfl, e2, by rw [r.len]; exact eu, p.setL S e rfl r.dropLast ru⟩
      · exact False.elim p
    · exact False.elim p
  · exact False.elim p
theorem md_clear : MetD X κ rClear mClr := by
  intro φ h H x xs v vs Q S rx rs p
  unfold mClr at p
  split at p
  · simp only [RVs] at rs
    subst rs
    rw [RV.ref_iff] at rx
    obtain ⟨hi, rfl⟩ := rx
    split at p
    · rename_i ds e
      obtain ⟨ws, e2, r⟩ := S.lst e
      exact ⟨_, ws, rfl, rfl, e2, p.setL S e rfl (RVs.nil_iff.mpr rfl) (RV.non_iff.mpr rfl)⟩
    · exact False.elim p
  · exact False.elim p
theorem md_count : MetD X κ (rCntI X.K) mCnt := by
  intro φ h H x xs v vs Q S rx rs p
  unfold mCnt at p
  split at p
  · (replace rs := rs.one_inv); obtain ⟨u, rfl, ry⟩ := rs
    rw [RV.ref_iff] at rx
    rw [RV.int_iff] at ry
    obtain ⟨hi, rfl⟩ := rx
    subst ry
    split at p
    · rename_i ds e
      split at p
      · rename_i ns en
        exact ⟨_, ns, _, rfl, rfl, S.intsL e en, p.of0 S (RV.int_iff.mpr rfl)⟩
      · exact False.elim p
    · exact False.elim p
  · exact False.elim p
theorem md_index : MetD X κ (rIndex X.K) mIdx := by
  intro φ h H x xs v vs Q S rx rs p
  unfold mIdx at p
  split at p
  · (replace rs := rs.one_inv); obtain ⟨u, rfl, ry⟩ := rs
    rw [RV.ref_iff] at rx
    obtain ⟨hi, rfl⟩ := rx
    split at p
    · rename_i ds e
      split at p
      · rename_i hf
        split at p
        · rename_i j ej
          obtain ⟨ws, e2, r⟩ := S.isL e
          obtain ⟨i, z, hk, e3, e4, e5⟩ := idxD_of ry r ej
          have : j = i := by omega
          subst this
          exact ⟨_, ws, u, j, z, rfl, rfl, e2, flat_of hf.1 ry, flats_of hf.2 r, e3, e4, e5, p.of0 S (RV.int_iff.mpr rfl)⟩
        · exact False.elim p
      · exact False.elim p
    · exact False.elim p
  · exact False.elim p
theorem md_join : MetD X κ (fun x xs H Q => ∃ a p, ∃ ys : List Str, x = .str a ∧ xs = [.ref p] ∧ (SqL X.K H p (ys.map V.str) ∨ SqT X.K H p (ys.map V.str)) ∧ (ys.map (·.length)).sum + ys.length * a.length ≤ 16777216 ∧ Q (.str (Txt.join a ys)) H) mJoin := by
  intro φ h H x xs v vs Q S rx rs p
  unfold mJoin at p
  split at p
  · (replace rs := rs.one_inv); obtain ⟨u, rfl, ry⟩ := rs
    rw [RV.str_iff] at rx
    rw [RV.ref_iff] at ry
    obtain ⟨hi, rfl⟩ := ry
    subst rx
    split at p
    · rename_i ds e
      split at p
      · rename_i zs ez
        split at p
        · rename_i hz
          obtain ⟨ws, e2, r⟩ := S.isL e
          rw [strsD_of ez] at r
          rw [r.strs] at e2
          exact ⟨_, _, zs, rfl, rfl, .inl e2, hz, p.of0 S (RV.str_iff.mpr rfl)⟩
        · exact False.elim p
      · exact False.elim p
    · exact False.elim p
  · (replace rs := rs.one_inv); obtain ⟨u, rfl, ry⟩ := rs
    rw [RV.str_iff] at rx
    rw [RV.tup_iff] at ry
    obtain ⟨q, ws, rfl, hq, r⟩ := ry
    subst rx
    split at p
    · rename_i zs ez
      split at p
      · rename_i hz
        rw [strsD_of ez] at r
        rw [r.strs] at hq
        exact ⟨_, _, zs, rfl, rfl, .inr (SqT.of hq), hz, p.of0 S (RV.str_iff.mpr rfl)⟩
      · exact False.elim p
    · exact False.elim p
  · exact False.elim p
theorem md_split : MetD X κ (fun x xs H Q => ∃ a b, x = .str a ∧ xs = [.str b] ∧ (b.length == 0) = false ∧ a.length + 2 ≤ sizeLine ∧ rNewStrs (Txt.split a b) H Q) mSplit := by
  intro φ h H x xs v vs Q S rx rs p
  unfold mSplit at p
  split at p
  · (replace rs := rs.one_inv); obtain ⟨u, rfl, ry⟩ := rs
    rw [RV.str_iff] at rx ry
    subst rx ry
    split at p
    · rename_i hz
      exact ⟨_, _, rfl, rfl, hz.1, hz.2, fun q hq => p.newL S hq RVs.of_strs⟩
    · exact False.elim p
  · exact False.elim p
theorem md_find : MetD X κ (fun x xs H Q => ∃ a b, x = .str a ∧ xs = [.str b] ∧ Q (.int (Txt.find a b)) H) mFind := by
  intro φ h H x xs v vs Q S rx rs p
  unfold mFind at p
  split at p
  · (replace rs := rs.one_inv); obtain ⟨u, rfl, ry⟩ := rs
    rw [RV.str_iff] at rx ry
    subst rx ry
    exact ⟨_, _, rfl, rfl, p.of0 S (RV.int_iff.mpr rfl)⟩
  · exact False.elim p
theorem se_bk {T id : String} {name : Str} {r : V → List V → Hp → VK → Prop} {ok : D → HP → Bool} {f : D → List D → HP → R D} (pa : PlainAttrs T) (slot : Slot T name id) (hty : typeOf (.builtin id) = pure (.type "method_descriptor")) (hm : MtR X id r)
    (hk : ∀ {φ : Nat → Addr} {h : HP} {H : Hp} {d : D} {v : V}, Sim X.K κ φ h H → RV φ h.length H d v → ok d h = true → tyV X.K T v H) (M : MetD X κ r f) (ho : SE X κ C o mo) (ha : SA X κ C (e :: es) mas)
    (hbase : attributeBase o name X.env (eval o X.env) = eval o X.env := by rfl)
    (hfew : ((backTo cpos (starEach (e :: es) X.env)).all (fun x => !x.1) && (backToKw cpos (keywordEach [] X.env)).all (fun x => x.1.isSome)
      && decide ((e :: es).length + ([] : List Keyword).length + (if ([] : List Keyword).isEmpty then 0 else 1) < 30)) = true := by rfl)
    (hline : (apos.endLine == cpos.line) = true := by rfl) (hs : starEach (e :: es) X.env = (false, eval e X.env) :: starEach es X.env := by rfl) (hplain : (backTo cpos (starEach es X.env)).any (·.1) = false := by rfl) :
    SE X κ C (.Call (.Attribute o name apos) (e :: es) [] cpos) (eBk ok f mo mas) :=
  SE.mk' (pe_bm pa slot hty hm ho.pe ha.pa hbase hfew hline hs hplain) fun φ ev h σ H Q S r p => by
    obtain ⟨d, h1, e1, p⟩ := Post.bind p
    split at p
    · rename_i hok
      obtain ⟨ds, h2, e2, p⟩ := Post.bind p
      exact td_of S r e1 fun φ1 H1 v st S1 r1 q1 => ⟨hk S1 q1 hok, ta_of S1 r1 e2 fun φ2 H2 vs st2 S2 r2 q2 => M φ2 h2 H2 d ds v vs Q S2 (q1.step S1 st2) q2 (p.step (st.trans st2))⟩
    · exact False.elim p
theorem se_bk0 {T id : String} {name : Str} {r : V → List V → Hp → VK → Prop} {ok : D → HP → Bool} {f : D → List D → HP → R D} (pa : PlainAttrs T) (slot : Slot T name id) (hty : typeOf (.builtin id) = pure (.type "method_descriptor")) (hm : MtR X id r)
    (hk : ∀ {φ : Nat → Addr} {h : HP} {H : Hp} {d : D} {v : V}, Sim X.K κ φ h H → RV φ h.length H d v → ok d h = true → tyV X.K T v H) (M : MetD X κ r f) (ho : SE X κ C o mo)
    (hbase : attributeBase o name X.env (eval o X.env) = eval o X.env := by rfl) (hline : (apos.endLine == cpos.line) = true := by rfl) : SE X κ C (.Call (.Attribute o name apos) [] [] cpos) (eBk ok f mo aN) :=
  SE.mk' (pe_bm0 pa slot hty hm ho.pe hbase hline) fun φ ev h σ H Q S r p => by
    obtain ⟨d, h1, e1, p⟩ := Post.bind p
    split at p
    · rename_i hok
      exact td_of S r e1 fun φ1 H1 v st S1 r1 q1 => ⟨hk S1 q1 hok, M φ1 h1 H1 d [] v [] Q S1 q1 (RVs.nil_iff.mpr rfl) (p.step st)⟩
    · exact False.elim p
theorem cd_lst : CallR X (.type "list") (rB X.K κ bLst) := by
  intro pins s σ H xs us Q I r ⟨φ, h, ds, S, q, p⟩
  unfold bLst at p
  split at p
  · (replace q := q.one_inv); obtain ⟨v, rfl, q⟩ := q
    rw [RV.ref_iff] at q
    obtain ⟨hi, rfl⟩ := q
    split at p
    · rename_i ds e
      obtain ⟨vs, hs, r2⟩ := S.isL e
      exact call_list_of pins s σ H _ us Q I r ⟨_, vs, rfl, .inl hs, fun l hl => p.newL S hl r2⟩
    · exact False.elim p
  · (replace q := q.one_inv); obtain ⟨v, rfl, q⟩ := q
    rw [RV.tup_iff] at q
    obtain ⟨a, vs, rfl, ha, r2⟩ := q
    exact call_list_of pins s σ H _ us Q I r ⟨_, vs, rfl, .inr (SqT.of ha), fun l hl => p.newL S hl r2⟩
  · exact False.elim p
theorem cd_tup : CallR X (.type "tuple") (rB X.K κ bTup) := by
  intro pins s σ H xs us Q I r ⟨φ, h, ds, S, q, p⟩
  unfold bTup at p
  split at p
  · (replace q := q.one_inv); obtain ⟨v, rfl, q⟩ := q
    rw [RV.ref_iff] at q
    obtain ⟨hi, rfl⟩ := q
    split at p
    · rename_i ds e
      obtain ⟨vs, hs, r2⟩ := S.isL e
      exact call_tuple_of pins s σ H _ us Q I r ⟨_, vs, rfl, .inl ⟨hs, fun l hl => p.newT S hl r2⟩⟩
    · exact False.elim p
  · (replace q := q.one_inv); obtain ⟨v, rfl, q⟩ := q
    have q' := q
    rw [RV.tup_iff] at q
    obtain ⟨a, vs, rfl, ha, r2⟩ := q
    exact call_tuple_of pins s σ H _ us Q I r ⟨_, vs, rfl, .inr ⟨SqT.of ha, p.of0 S q'⟩⟩
  · exact False.elim p
theorem srt_uniq {ns ms : List Int} (hp : ms.Perm ns) (hs : ms.Pairwise (· ≤ ·)) : ms = srtI ns := by
  have p2 : (srtI ns).Perm ns := List.mergeSort_perm ns _
  have s2 : (srtI ns).Pairwise (· ≤ ·) := by
    have := List.pairwise_mergeSort (le := fun a b : Int => decide (a ≤ b)) (fun a b c h1 h2 => by simp at *; omega) (fun a b => by simp; omega) ns
    exact this.imp fun h => by simpa using h
  exact (hp.trans p2.symm).eq_of_pairwise (le := (· ≤ ·)) (fun a b _ _ h1 h2 => Int.le_antisymm h1 h2) hs s2
theorem cd_srt : CallR X (.builtin "sorted") (rB X.K κ bSrt) := by
  intro pins s σ H xs us Q I r ⟨φ, h, ds, S, q, p⟩
  unfold bSrt at p
  split at p
  · (replace q := q.one_inv); obtain ⟨v, rfl, q⟩ := q
    rw [RV.ref_iff] at q
    obtain ⟨hi, rfl⟩ := q
    split at p
    · rename_i ds e
      split at p
      · rename_i ns en
        refine cr_sortedI pins s σ H _ us Q I r ⟨_, ns, rfl, S.intsL e en, fun ms l hp hs hl => ?_⟩
        rw [srt_uniq hp hs]
        exact p.newL S hl RVs.of_ints
      · exact False.elim p
    · exact False.elim p
  · exact False.elim p
/-- a op b op2 c -/
def eChn (op op2 : D → D → HP → R D) (a b c : ME) : ME := fun C e h => (a C e h).bind fun x h => (b C e h).bind fun y h => (op x y h).bind fun z h => match z with
  | .bl k => if k = true then (c C e h).bind fun w h => op2 y w h else .ok (.bl false) h
  | _ => .no
theorem chn_read {op op2 : D → D → HP → R D} {φ : Nat → Addr} {h : HP} {H : Hp} {ev : Ev} {σ : L2.St} {Q : VK} (hc : SE X κ C c mc) (S : Sim X.K κ φ h H) (r : EnvR φ h.length H ev σ) (p : Post X.K κ φ h H (eChn op op2 ma mb mc C ev h) Q) :
    tChain (rD X.K κ op) (rD X.K κ op2) (tD X.K κ C ma) (tD X.K κ C mb) (tD X.K κ C mc) σ H Q := by
  obtain ⟨dx, h1, e1, p⟩ := Post.bind p
  obtain ⟨dy, h2, e2, p⟩ := Post.bind p
  obtain ⟨dz, h3, e3, p⟩ := Post.bind p
  refine td_of S r e1 fun φ1 H1 v st S1 r1 q1 => td_of S1 r1 e2 fun φ2 H2 w st2 S2 r2 q2 => ⟨φ2, h2, dx, dy, S2, q1.step S1 st2, q2, ?_⟩
  rw [e3]
  intro φ3 H3 z st3 S3 q3
  cases dz with
  | bl k =>
    rw [RV.bl_iff] at q3
    refine ⟨k, q3, ?_⟩
    cases k with
    | false =>
      simp only [Bool.false_eq_true, if_false] at p ⊢
      exact (p.step (st.trans (st2.trans st3))).of0 S3 (RV.bl_iff.mpr rfl)
    | true =>
      simp only [if_true] at p ⊢
      obtain ⟨dw, h4, e4, p⟩ := Post.bind p
      exact td_of S3 (r2.step S2 st3) e4 fun φ4 H4 u st4 S4 r4 q4 => ⟨φ4, h4, dy, dw, S4, (q2.step S2 st3).step S3 st4, q4, p.step ((st.trans st2).trans (st3.trans st4))⟩
  | non => exact False.elim p
  | int _ => exact False.elim p
  | str _ => exact False.elim p
  | tup _ => exact False.elim p
  | ref _ => exact False.elim p
theorem se_chn {o o2 : CmpOp} {op op2 : D → D → HP → R D} (ho : OpR X (compareOp o) (rD X.K κ op)) (ho2 : OpR X (compareOp o2) (rD X.K κ op2)) (ha : SE X κ C a ma) (hb : SE X κ C b mb) (hc : SE X κ C c mc)
    (hm : lastMarks [o, o2] [b, c] = false := by with_unfolding_all rfl) : SE X κ C (.Compare a [o, o2] [b, c] pos) (eChn op op2 ma mb mc) :=
  SE.mk' (pe_chain ho ho2 ha.pe hb.pe hc.pe hm) fun φ ev h σ H Q S r p => chn_read hc S r p
theorem st_chn {o o2 : CmpOp} {op op2 : D → D → HP → R D} (ho : OpR X (compareOp o) (rD X.K κ op)) (ho2 : OpR X (compareOp o2) (rD X.K κ op2)) (ha : SE X κ C a ma) (hb : SE X κ C b mb) (hc : SE X κ C c mc)
    (hm : lastMarks [o, o2] [b, c] = false := by with_unfolding_all rfl) : ST X κ C (.Compare a [o, o2] [b, c] pos) (tV (eChn op op2 ma mb mc)) :=
  ST.mk' (pt_chain ho ho2 ha.pe hb.pe hc.pe hm) fun φ ev h σ H Q S r p => by
    obtain ⟨dz, h3, e3, p⟩ := PostT.bind p
    refine chn_read hc S r ?_
    rw [e3]
    intro φ3 H3 z st3 S3 q3
    cases dz with
    | bl k =>
      rw [RV.bl_iff] at q3
      exact ⟨k, q3, p φ3 H3 st3 S3⟩
    | non => exact False.elim p
    | int _ => exact False.elim p
    | str _ => exact False.elim p
    | tup _ => exact False.elim p
    | ref _ => exact False.elim p
end
end Z
/-! Z9: levels, the end of a law. -/
namespace Z
open PySem L2 PyProof.Rows
theorem boot_len_ : bootBuiltins "len" = some (.builtin "len") := by decide +kernel
theorem boot_abs_ : bootBuiltins "abs" = some (.builtin "abs") := by decide +kernel
theorem boot_max_ : bootBuiltins "max" = some (.builtin "max") := by decide +kernel
theorem boot_min_ : bootBuiltins "min" = some (.builtin "min") := by decide +kernel
theorem boot_sum_ : bootBuiltins "sum" = some (.builtin "sum") := by decide +kernel
theorem boot_divmod_ : bootBuiltins "divmod" = some (.builtin "divmod") := by decide +kernel
theorem boot_sorted_ : bootBuiltins "sorted" = some (.builtin "sorted") := by decide +kernel
theorem boot_all_ : bootBuiltins "all" = some (.builtin "all") := by decide +kernel
theorem boot_isinstance_ : bootBuiltins "isinstance" = some (.builtin "isinstance") := by decide +kernel
theorem boot_int_ : bootBuiltins "int" = some (.type "int") := by decide +kernel
theorem boot_str_ : bootBuiltins "str" = some (.type "str") := by decide +kernel
theorem boot_list_ : bootBuiltins "list" = some (.type "list") := by decide +kernel
theorem boot_tuple_ : bootBuiltins "tuple" = some (.type "tuple") := by decide +kernel
theorem boot_dict_ : bootBuiltins "dict" = some (.type "dict") := by decide +kernel
theorem boot_bool_ : bootBuiltins "bool" = some (.type "bool") := by decide +kernel
theorem boot_set_ : bootBuiltins "set" = some (.type "set") := by decide +kernel
theorem boot_range_ : bootBuiltins "range" = some (.type "range") := by decide +kernel
theorem boot_enumerate_ : bootBuiltins "enumerate" = some (.type "enumerate") := by decide +kernel
theorem boot_zip_ : bootBuiltins "zip" = some (.type "zip") := by decide +kernel
theorem boot_reversed_ : bootBuiltins "reversed" = some (.type "reversed") := by decide +kernel
theorem hu65 {k : Nat} {A : Around} (hr : Room k A) : A.units + 65 < cLine := by have := hr.un; omega
section
variable {P : Program} {w : World} {K : PySem.W.Frag} {mg : Str → Option Value} {base : Heap} {κ : Nat → Addr} {T : Tbl}
/-- what stands of a def behind the top -/
structure FunM (K : PySem.W.Frag) (mg : Str → Option Value) (nm : Str) (st : Stmt) (ps : List Str) (dfs : List Int) : Prop where
  ex : ∃ (fa : Addr) (fd : FuncData) (us : List Value), FunZ K nm nm st dfs fa fd ∧ mg nm = some (.ref fa) ∧ Binds K fd ps [] ∧ Binds K fd ps us ∧ Vals (dfs.map V.int) us
theorem fnF_zero {nm : Str} {st : Stmt} {ps : List Str} {dfs : List Int} {f : Nat} (F : FunM K mg nm st ps dfs) : FnF P w K mg base κ 0 nm dfs ((ctx T 0).call f) := by
  obtain ⟨fa, fd, us, F, hm, hb, hb2, hv⟩ := F.ex
  refine ⟨fa, fd, ps, us, hm, F.kp, hb, hb2, hv, fun _ _ _ => rfl, ⟨fun vs H Q E h => h.1, fun A outer s H args us vs Q E hr he hb hv hs => ?_⟩⟩
  obtain ⟨_, φ, h, ds, _, _, p⟩ := hs
  exact False.elim p
theorem fnF_succ {nm : Str} {st : Stmt} {ps : List Str} {dfs : List Int} {f n : Nat} {fn : Fn} (F : FunM K mg nm st ps dfs) (hT : T.fn f = some fn) (hp : ps.length = fn.np)
    (ok : ∀ (fa : Addr) (fd : FuncData), FunZ K nm nm st dfs fa fd → FnOk P w K mg base CX0 (n + 1) fa fd ps (spD K κ ps.length (runFn (ctx T n) fn))) : FnF P w K mg base κ (n + 1) nm dfs ((ctx T (n + 1)).call f) := by
  obtain ⟨fa, fd, us, F, hm, hb, hb2, hv⟩ := F.ex
  have e : (ctx T (n + 1)).call f = runFn (ctx T n) fn := by
    funext ds h
    show (match T.fn f with | some fn => runFn (ctx T n) fn ds h | none => R.no) = _
    rw [hT]
  rw [e]
  exact ⟨fa, fd, ps, us, hm, F.kp, hb, hb2, hv, by rw [hp]; exact ary_run, ok fa fd F⟩
theorem funZ_mk {x qual : Str} {st : Stmt} {f : Addr} {oc : Value} {od an : Option Addr} {osl : Array (Option Value)} {kV doc pm cdv ct : Value} (l : K.lookup f = some ⟨oc, od, .func (PySem.W.fnOf x qual (defArgs st) (defBody st) (defScope st) .none kV doc pm an cdv ct), osl⟩)
    (c : PySem.W.codeIn K cdv qual = true) (k : PySem.W.keepIn K (.ref f) = true) : FunZ K x qual st [] f (PySem.W.fnOf x qual (defArgs st) (defBody st) (defScope st) .none kV doc pm an cdv ct) := ⟨⟨oc, od, .none, kV, doc, pm, an, cdv, ct, osl, rfl, l, c, .inl ⟨rfl, rfl⟩, .inl rfl⟩, k⟩
theorem funZ_mkd {x qual : Str} {st : Stmt} {f T : Addr} {oc toc : Value} {od an tod : Option Addr} {osl tsl : Array (Option Value)} {kV doc pm cdv ct : Value} {dfs : List Int} {its : List Value} {n : Nat} (hd : dfs.map V.int ≠ [])
    (l : K.lookup f = some ⟨oc, od, .func (PySem.W.fnOf x qual (defArgs st) (defBody st) (defScope st) (.ref T) kV doc pm an cdv ct), osl⟩)
    (c : PySem.W.codeIn K cdv qual = true) (k : PySem.W.keepIn K (.ref f) = true) (t : K.lookup T = some ⟨toc, tod, .seq its.toArray n, tsl⟩) (v : Vals (dfs.map V.int) its) :
    FunZ K x qual st dfs f (PySem.W.fnOf x qual (defArgs st) (defBody st) (defScope st) (.ref T) kV doc pm an cdv ct) := ⟨⟨oc, od, .ref T, kV, doc, pm, an, cdv, ct, osl, rfl, l, c, .inr ⟨hd, T, _, its, n, rfl, t, rfl, v⟩, .inl rfl⟩, k⟩
/-- the law's promise -/
def spL (K : PySem.W.Frag) (f : List D → HP → R D) : Sp := fun vs H Q _ => vs.length = 1 ∧ ∀ κ : Nat → Addr, ∃ φ h ds, Sim K κ φ h H ∧ RVs φ h.length H ds vs ∧ Post K κ φ h H (f ds h) Q
theorem spL_of {k : Nat} {fa : Addr} {fd : FuncData} {ps : List Str} {f : List D → HP → R D} (hp : ps.length = 1) (F : FnOk P w K mg base CX0 k fa fd ps (spD K κ ps.length f)) : FnOk P w K mg base CX0 k fa fd ps (spL K f) :=
  F.imp fun vs H Q E h => ⟨by rw [hp]; exact h.1, h.2 κ⟩
end
theorem law_end {l : PySem.W.OpenLaw} {k : Nat} {q : Program} {loose : List Str} {XP : (Str → Option Value) → Heap → Prop} {YP : World → Heap → Prop} {d : DefRec} {K : Params → PySem.W.Frag} {f : List D → HP → R D}
    (hn : l.most = some 63) (hdf : d.params.defaults = []) (hr : Room k callerA) (hY : ∀ (w : World) (h : Heap), YP w h → (K w.params).In h)
    (F : ∀ (w : World) (mg : Str → Option Value) (fa : Addr) (h : Heap), (K w.params).In h → h.Ns mainGlobals mg → mg d.name = some (.ref fa) → ∃ fd : FuncData, (∀ (s : Shared) (u : Value), BindsTo s fd ⟨[u], []⟩ [("script", u)]) ∧ ∀ base : Heap, (K w.params).In base → base.Ns mainGlobals mg → FnOk l.prog w (K w.params) mg base CX0 k fa fd ["script"] (spL (K w.params) f))
    (M : ∀ ns : List Int, ns.length ≤ 63 → (∀ z ∈ ns, Builtin.Int.intBits z ≤ 1048576) → ∃ h', f [.ref 0] [.fz (ns.map D.int)] = .ok (.bl true) h') :
    PySem.W.WalkO q loose XP YP l.row.toRowW d [] (fun g us => PySem.call g us) := by
  refine L2.walk_ofB (n := 63) (k := k) (x := "script") (CX := fun _ => CX0) (sp := fun w => spL (K w.params) f) hn (by decide) hdf hr hY F (fun w H a ns hl hb hO hS => ?_) fun _ _ _ _ _ z => z
  obtain ⟨h', e⟩ := M ns hl hb
  refine ⟨rfl, fun κ => ⟨fun _ => a, [.fz (ns.map D.int)], [.ref 0], ⟨fun i j o o' hi hj mi => ?_, fun i o hi => ?_⟩, RVs.one (RV.ref_iff.mpr ⟨by simp, rfl⟩), ?_⟩⟩
  · cases i with
    | zero => simp at hi; subst hi; cases mi
    | succ i => simp at hi
  · cases i with
    | zero =>
      simp at hi
      subst hi
      refine ⟨ns.map V.int, ?_, RVs.of_ints⟩
      rcases hS with (hS | ⟨o, hS⟩) | hS
      · rcases hO a with z | ⟨o, xs, z⟩
        · rw [z] at hS; cases hS
        · rw [z] at hS; cases hS
      · exact .inl ⟨o, hS⟩
      · exact .inr hS
    | succ i => simp at hi
  · rw [e]
    intro φ' H' v st S rv
    rw [RV.bl_iff] at rv
    exact rv
end Z
/-! The defs of the law, printed by gen.py. -/
namespace Z.k06
open PySem L2 Z
def b_is_word_1 : MS :=
    (sIf (tV (eOp opNin (eV 1) (eC (.str "abcdefghijklmnopqrstuvwxyz")))) (sRt (eC (.bl false))) sSk)
/-- is_word(text, sign) -/
def f_is_word : Fn := ⟨1, 2,
    (sSq (sIf (tOr (tV (eOp opLt (eBf bLen (aC (eV 0) aN)) (eC (.int 1)))) (tV (eOp opGt (eBf bLen (aC (eV 0) aN)) (eC (.int 8))))) (sRt (eC (.bl false))) sSk)
    (sSq (sFo (gN 1) (iA (eV 0)) b_is_word_1)
    (sRt (eC (.bl true)))))⟩
def b_number_of_1 : MS :=
    (sIf (tV (eOp opNin (eV 2) (eC (.str "0123456789")))) (sRt (eC .non)) sSk)
/-- number_of(text, most, sign) -/
def f_number_of : Fn := ⟨2, 3,
    (sSq (sIf (tOr (tV (eOp opLt (eBf bLen (aC (eV 0) aN)) (eC (.int 1)))) (tV (eOp opGt (eBf bLen (aC (eV 0) aN)) (eV 1)))) (sRt (eC .non)) sSk)
    (sSq (sFo (gN 2) (iA (eV 0)) b_number_of_1)
    (sSq (sIf (tAn (tV (eOp opGt (eBf bLen (aC (eV 0) aN)) (eC (.int 1)))) (tV (eOp opEq (eOp opIx (eV 0) (eC (.int 0))) (eC (.str "0"))))) (sRt (eC .non)) sSk)
    (sRt (eBf bInt (aC (eV 0) aN))))))⟩
def b_l_stream_1 : MS :=
    (sSq (sEx (eBk okL mApp (eV 2) (aC (eOp opMod (eV 3) (eC (.int 33554432))) aN)))
    (sAs (gN 3) (eOp opDiv (eV 3) (eC (.int 33554432)))))
def b_l_stream_2 : MS :=
    (sSq (sAs (gN 3) (eOp opAdd (eOp opAdd (eOp opAdd (eOp opMul (eV 3) (eV 3)) (eOp opMul (eC (.int 48271)) (eV 3))) (eOp opMul (eC (.int 7)) (eV 4))) (eC (.int 1))))
    (sSq (sAs (gN 3) (eOp opMod (eV 3) (eC (.int 2147483647))))
    (sEx (eBk okL mApp (eV 2) (aC (eOp opDiv (eV 3) (eC (.int 64))) aN)))))
/-- _law_stream(cell, many, found, number, k) -/
def f_l_stream : Fn := ⟨2, 5,
    (sSq (sAs (gN 2) (eLst aN))
    (sSq (sIf (tV (eOp opGe (eV 0) (eOp opPow (eC (.int 10)) (eC (.int 20))))) (sSq (sAs (gN 3) (eOp opSub (eV 0) (eOp opPow (eC (.int 10)) (eC (.int 20)))))
    (sSq (sFo (gN 4) (iR1 (eV 1)) b_l_stream_1)
    (sRt (eV 2)))) sSk)
    (sSq (sAs (gN 3) (eOp opAdd (eOp opMod (eV 0) (eC (.int 2147483647))) (eC (.int 48271))))
    (sSq (sFo (gN 4) (iR1 (eV 1)) b_l_stream_2)
    (sRt (eV 2))))))⟩
/-- _law_sign_by(number, some) -/
def f_l_sign_by : Fn := ⟨1, 2,
    (sSq (sAs (gN 1) (eC (.str " !\"#$&'()*+,-./0123456789:;<=>?@ABCDEFGHIJKLMNOPQRSTUVWXYZ[\\]^_`")))
    (sSq (sAs (gN 1) (eOp opAdd (eV 1) (eC (.str "abcdefghijklmnopqrstuvwxyz{|}~\n\t"))))
    (sRt (eOp opIx (eV 1) (eOp opMod (eV 0) (eC (.int 96)))))))⟩
/-- _law_text(cell, some, signs, many, text, at, one) -/
def f_l_text : Fn := ⟨1, 7,
    (sSq (sAs (gN 1) (eCall 21 (aC (eV 0) (aC (eC (.int 94)) aN)) []))
    (sSq (sAs (gN 2) (eOp opIx (eLst (aC (eC (.str "0123456789")) (aC (eC (.str "abcdefghijklmnopqrstuvwxyz")) aN))) (eOp opMod (eOp opIx (eV 1) (eC (.int 90))) (eC (.int 2)))))
    (sSq (sAs (gN 3) (eOp opIx (eLst (aC (eOp opMod (eOp opIx (eV 1) (eC (.int 91))) (eC (.int 11))) (aC (eOp opMod (eOp opIx (eV 1) (eC (.int 91))) (eC (.int 91))) aN))) (eOp opMod (eOp opDiv (eOp opIx (eV 1) (eC (.int 91))) (eC (.int 91))) (eC (.int 2)))))
    (sSq (sAs (gN 4) (eBk okS mJoin (eC (.str "")) (aC (eLc [6] (gN 6) (iA (eSl opSl (eV 1) oN (oS (eV 3)))) tY (eOp opIx (eV 2) (eOp opMod (eV 6) (eBf bLen (aC (eV 2) aN))))) aN)))
    (sSq (sIf (tAn (tV (eOp opEq (eOp opMod (eOp opIx (eV 1) (eC (.int 92))) (eC (.int 4))) (eC (.int 1)))) (tV (eOp opGt (eV 3) (eC (.int 0))))) (sSq (sAs (gN 5) (eOp opMod (eOp opDiv (eOp opIx (eV 1) (eC (.int 92))) (eC (.int 4))) (eV 3)))
    (sAs (gN 4) (eOp opAdd (eOp opAdd (eSl opSl (eV 4) oN (oS (eV 5))) (eCall 22 (aC (eOp opIx (eV 1) (eC (.int 93))) aN) [])) (eSl opSl (eV 4) (oS (eOp opAdd (eV 5) (eC (.int 1)))) oN)))) sSk)
    (sRt (eV 4)))))))⟩
def b_l_is_word_1 : MS :=
    (sIf (tV (eOp opNin (eV 1) (eC (.str "abcdefghijklmnopqrstuvwxyz")))) (sRt (eC (.bl false))) sSk)
/-- _law_is_word(text, sign) -/
def f_l_is_word : Fn := ⟨1, 2,
    (sSq (sFo (gN 1) (iA (eV 0)) b_l_is_word_1)
    (sRt (eChn opLe opLe (eC (.int 1)) (eBf bLen (aC (eV 0) aN)) (eC (.int 8)))))⟩
def b_l_worth_1 : MS :=
    (sSq (sAs (gN 4) (eBk okS mFind (eC (.str "0123456789")) (aC (eV 3) aN)))
    (sSq (sIf (tV (eOp opLt (eV 4) (eC (.int 0)))) (sRt (eC .non)) sSk)
    (sAs (gN 2) (eOp opAdd (eOp opMul (eC (.int 10)) (eV 2)) (eV 4)))))
/-- _law_worth(text, most, worth, sign, at) -/
def f_l_worth : Fn := ⟨2, 5,
    (sSq (sAs (gN 2) (eC (.int 0)))
    (sSq (sFo (gN 3) (iA (eV 0)) b_l_worth_1)
    (sSq (sIf (tOr (tV (eOp opEq (eV 0) (eC (.str "")))) (tOr (tV (eOp opGt (eBf bLen (aC (eV 0) aN)) (eV 1))) (tAn (tV (eOp opEq (eOp opIx (eV 0) (eC (.int 0))) (eC (.str "0")))) (tV (eOp opGt (eBf bLen (aC (eV 0) aN)) (eC (.int 1))))))) (sRt (eC .non)) sSk)
    (sRt (eV 2)))))⟩
/-- _law_tells(found, due) -/
def f_l_tells : Fn := ⟨2, 2,
    (sSq (sIf (tV (eOp opIsN (eV 1) (eC .non))) (sRt (eOp opIsN (eV 0) (eC .non))) sSk)
    (sRt (eAn (eIs "int" (eV 0)) (eAn (eNt (eIs "bool" (eV 0))) (eOp opEq (eV 0) (eV 1))))))⟩
def b_law_1 : MS :=
    (sSq (sAs (gN 3) (eCall 19 (aC (eOp opIx (eV 1) (eV 2)) aN) []))
    (sSq (sIf (tOr (tNt (tV (eIs "bool" (eV 3)))) (tV (eOp opNe (eV 3) (eCall 24 (aC (eOp opIx (eV 1) (eV 2)) aN) [])))) (sRt (eC (.bl false))) sSk)
    (sSq (sAs (gN 4) (eOp opAdd (eC (.int 1)) (eOp opMod (eOp opAdd (eOp opMul (eBf bLen (aC (eOp opIx (eV 1) (eV 2)) aN)) (eC (.int 7))) (eV 2)) (eC (.int 90)))))
    (sSq (sIf (tV (eOp opEq (eOp opMod (eV 2) (eC (.int 3))) (eC (.int 1)))) (sAs (gN 4) (eBf bMax (aC (eC (.int 1)) (aC (eOp opSub (eBf bLen (aC (eOp opIx (eV 1) (eV 2)) aN)) (eOp opMod (eOp opDiv (eV 2) (eC (.int 3))) (eC (.int 2)))) aN)))) sSk)
    (sSq (sIf (tNt (tV (eCall 26 (aC (eCall 20 (aC (eOp opIx (eV 1) (eV 2)) aN) [.int 80]) (aC (eCall 25 (aC (eOp opIx (eV 1) (eV 2)) (aC (eC (.int 80)) aN)) []) aN)) []))) (sRt (eC (.bl false))) sSk)
    (sIf (tNt (tV (eCall 26 (aC (eCall 20 (aC (eOp opIx (eV 1) (eV 2)) (aC (eV 4) aN)) []) (aC (eCall 25 (aC (eOp opIx (eV 1) (eV 2)) (aC (eV 4) aN)) []) aN)) []))) (sRt (eC (.bl false))) sSk))))))
/-- law(script, texts, k, found, most, cell) -/
def f_law : Fn := ⟨1, 6,
    (sSq (sAs (gN 1) (eOp opAdd (eLst (aC (eC (.str "")) aN)) (eLc [5] (gN 5) (iA (eSl opSl (eV 0) oN (oS (eC (.int 40))))) tY (eCall 23 (aC (eV 5) aN) []))))
    (sSq (sFo (gN 2) (iR1 (eBf bLen (aC (eV 1) aN))) b_law_1)
    (sRt (eC (.bl true)))))⟩
def T : Tbl := ⟨fun f => match f with
  | 19 => some f_is_word
  | 20 => some f_number_of
  | 21 => some f_l_stream
  | 22 => some f_l_sign_by
  | 23 => some f_l_text
  | 24 => some f_l_is_word
  | 25 => some f_l_worth
  | 26 => some f_l_tells
  | _ => none, fun _ _ => none, FUEL⟩
end Z.k06
namespace Z.k06
open PySem L2 Z
/-! sizes of ints -/
structure Lt2 (i : Int) (a : Nat) : Prop where
  h : i.natAbs < 2 ^ a
theorem log2_le {n a : Nat} (h : n < 2 ^ a) : n.log2 ≤ a := by
  by_cases h0 : n = 0
  · subst h0; simp
  · exact Nat.le_of_lt ((Nat.log2_lt h0).mpr h)
theorem mulOk_of {i j : Int} {a b : Nat} (hi : Lt2 i a) (hj : Lt2 j b) (h : a + b < 100000000) : mulOk i j = true := by
  unfold mulOk
  have h1 := log2_le hi.h
  have h2 := log2_le hj.h
  exact decide_eq_true (by omega)
theorem Lt2.mono {i : Int} {a b : Nat} (h : Lt2 i a) (q : a ≤ b) : Lt2 i b := ⟨Nat.lt_of_lt_of_le h.h (Nat.pow_le_pow_right (by decide) q)⟩
theorem Lt2.of_le {i j : Int} {a : Nat} (h : Lt2 j a) (q : i.natAbs ≤ j.natAbs) : Lt2 i a := ⟨Nat.lt_of_le_of_lt q h.h⟩
theorem Lt2.mul {i j : Int} {a b : Nat} (hi : Lt2 i a) (hj : Lt2 j b) : Lt2 (i * j) (a + b) := ⟨by rw [Int.natAbs_mul, Nat.pow_add]; exact Nat.mul_lt_mul'' hi.h hj.h⟩
theorem Lt2.add {i j : Int} {a : Nat} (hi : Lt2 i a) (hj : Lt2 j a) : Lt2 (i + j) (a + 1) := ⟨by
  have h1 := hi.h
  have h2 := hj.h
  rw [Nat.pow_succ]
  omega⟩
theorem Lt2.sub {i j : Int} {a : Nat} (hi : Lt2 i a) (hj : Lt2 j a) : Lt2 (i - j) (a + 1) := ⟨by
  have h1 := hi.h
  have h2 := hj.h
  rw [Nat.pow_succ]
  omega⟩
theorem Lt2.neg {i : Int} {a : Nat} (hi : Lt2 i a) : Lt2 (-i) a := ⟨by rw [Int.natAbs_neg]; exact hi.h⟩
theorem Lt2.div {i j : Int} {a : Nat} (hi : Lt2 i a) : Lt2 (i / j) a := ⟨by
  refine Nat.lt_of_le_of_lt ?_ hi.h
  exact Int.natAbs_ediv_le_natAbs i j⟩
theorem Lt2.of_bits {i : Int} {a : Nat} (h : Builtin.Int.intBits i ≤ a) : Lt2 i a := by
  refine ⟨?_⟩
  unfold Builtin.Int.intBits at h
  split at h
  · rename_i h0
    have : i.natAbs = 0 := by simpa using h0
    rw [this]
    exact Nat.pos_of_ne_zero (by simp)
  · rename_i h0
    have hn : i.natAbs ≠ 0 := by simpa using h0
    exact (Nat.log2_lt hn).mp (by omega)
theorem fdiv_pos {a b : Int} (h : 0 < b) : a.fdiv b = a / b := Int.fdiv_eq_ediv_of_nonneg a (Int.le_of_lt h)
theorem fmod_pos {a b : Int} (h : 0 < b) : a.fmod b = a % b := Int.fmod_eq_emod_of_nonneg a (Int.le_of_lt h)
theorem divOk_of {j : Int} {a : Nat} (h0 : j ≠ 0) (h : Lt2 j a) (ha : a < 9000) : divOk j = true := by
  unfold divOk
  rw [decide_eq_true h0, decide_eq_true (Nat.lt_of_le_of_lt (log2_le h.h) ha)]; rfl
/-! statements one behind the other -/
theorem sq_nx {a b : MS} {C : Ctx} {e e' : Ev} {h h' : HP} (q : a C e h = .ok (.nx e') h') : sSq a b C e h = b C e' h' := by unfold sSq; rw [q]; rfl
theorem sq_rt {a b : MS} {C : Ctx} {e : Ev} {d : D} {h h' : HP} (q : a C e h = .ok (.rt d) h') : sSq a b C e h = .ok (.rt d) h' := by unfold sSq; rw [q]; rfl
/-- a for that goes through, by an invariant of the turn -/
theorem for_go {it : Itr} {g : Tg} {b : MS} {C : Ctx} {n : Nat} (ds : Nat → D) (Pv : Nat → Ev → HP → Prop) (hi : ∀ j e h, j < n → Pv j e h → it j h = some (some (ds j))) (hd : ∀ e h, Pv n e h → it n h = some none)
    (hs : ∀ j e h, j < n → Pv j e h → ∃ e1, g e (ds j) = some e1 ∧ ∃ e2 h2, (b C e1 h = .ok (.nx e2) h2 ∨ b C e1 h = .ok (.ct e2) h2) ∧ Pv (j + 1) e2 h2) :
    ∀ (m j : Nat) (e : Ev) (h : HP), j + m = n → Pv j e h → ∀ fuel, m < fuel → ∃ e2 h2, forN it g b fuel j C e h = .ok (.nx e2) h2 ∧ Pv n e2 h2
  | 0, j, e, h, hj, p, fuel, hf => by
    obtain ⟨f, rfl⟩ : ∃ f, fuel = f + 1 := ⟨fuel - 1, by omega⟩
    have : j = n := by omega
    subst this
    exact ⟨e, h, by simp only [forN, hd e h p], p⟩
  | m + 1, j, e, h, hj, p, fuel, hf => by
    obtain ⟨f, rfl⟩ : ∃ f, fuel = f + 1 := ⟨fuel - 1, by omega⟩
    obtain ⟨e1, g1, e2, h2, hb, p2⟩ := hs j e h (by omega) p
    obtain ⟨e3, h3, q, p3⟩ := for_go ds Pv hi hd hs m (j + 1) e2 h2 (by omega) p2 f (by omega)
    refine ⟨e3, h3, ?_, p3⟩
    rcases hb with hb | hb <;> simp only [forN, hi j e h (by omega) p, g1, hb, R.bind_ok, q]
theorem fo_of {g : Tg} {mi : MI} {b : MS} {C : Ctx} {e : Ev} {h h1 h2 : HP} {it : Itr} {fl : FL} (hi : mi C e h = .ok it h1) (hf : forN it g b C.fuel 0 C e h1 = .ok fl h2) : sFo g mi b C e h = .ok fl h2 := by
  unfold sFo
  rw [hi]
  exact hf
theorem iR1_of {a : ME} {C : Ctx} {e : Ev} {h h1 : HP} {n : Int} (ha : a C e h = .ok (.int n) h1) (l : -(2 ^ 62) ≤ n) (u : n < 2 ^ 62) : iR1 a C e h = .ok (itR 0 n.toNat) h1 := by
  unfold iR1
  rw [ha]
  simp only [R.bind_ok]
  rw [if_pos ⟨l, u⟩]
theorem iR2_of {a b : ME} {C : Ctx} {e : Ev} {h h1 h2 : HP} {m n : Int} (ha : a C e h = .ok (.int m) h1) (hb : b C e h1 = .ok (.int n) h2) (l : -(2 ^ 62) ≤ m ∧ m < 2 ^ 62) (u : -(2 ^ 62) ≤ n ∧ n < 2 ^ 62) : iR2 a b C e h = .ok (itR m (n - m).toNat) h2 := by
  unfold iR2
  rw [ha]
  simp only [R.bind_ok]
  rw [hb]
  simp only [R.bind_ok]
  rw [if_pos ⟨l.1, l.2, u.1, u.2⟩]
/-! the evaluator's steps, as rules to go by -/
section
variable {C : Ctx} {e e1 e2 : Ev} {h h1 h2 h3 : HP} {a b : ME} {as : MA} {d x y z : D} {xs ys ds : List D} {t u : MT} {s w : MS} {g : Tg} {i : Nat} {p q : Int} {bb : Bool} {op : D → D → HP → R D} {r : R D} {rb : R Bool} {rs : R FL}
theorem g_v (l : e[i]? = some (some d)) : eV i C e h = .ok d h := by unfold eV; rw [l]
theorem g_c : eC d C e h = .ok d h := rfl
theorem g_op (ha : a C e h = .ok x h1) (hb : b C e h1 = .ok y h2) (ho : op x y h2 = r) : eOp op a b C e h = r := by unfold eOp; rw [ha]; simp only [R.bind_ok]; rw [hb]; exact ho
theorem g_un {op : D → HP → R D} (ha : a C e h = .ok x h1) (ho : op x h1 = r) : eUn op a C e h = r := by unfold eUn; rw [ha]; exact ho
theorem g_add : opAdd (.int p) (.int q) h = .ok (.int (p + q)) h := rfl
theorem g_sub : opSub (.int p) (.int q) h = .ok (.int (p - q)) h := rfl
theorem g_iadd : opIAdd (.int p) (.int q) h = .ok (.int (p + q)) h := rfl
theorem g_mul (l : mulOk p q = true) : opMul (.int p) (.int q) h = .ok (.int (p * q)) h := by simp only [opMul, l, if_true]
theorem g_div (l : divOk q = true) (k : 0 < q) : opDiv (.int p) (.int q) h = .ok (.int (p / q)) h := by simp only [opDiv, l, if_true, Int.fdiv_eq_ediv_of_nonneg p (Int.le_of_lt k)]
theorem g_mod (k : 0 < q) : opMod (.int p) (.int q) h = .ok (.int (p % q)) h := by
  have : q ≠ 0 := by omega
  simp only [opMod, ne_eq, this, not_false_eq_true, if_true, Int.fmod_eq_emod_of_nonneg p (Int.le_of_lt k)]
theorem g_neg : opNeg (.int p) h = .ok (.int (-p)) h := rfl
theorem g_lt : opLt (.int p) (.int q) h = .ok (.bl (decide (p < q))) h := rfl
theorem g_le : opLe (.int p) (.int q) h = .ok (.bl (decide (p ≤ q))) h := rfl
theorem g_gt : opGt (.int p) (.int q) h = .ok (.bl (decide (q < p))) h := rfl
theorem g_ge : opGe (.int p) (.int q) h = .ok (.bl (decide (q ≤ p))) h := rfl
theorem g_eq : opEq (.int p) (.int q) h = .ok (.bl (decide (p = q))) h := rfl
theorem g_ne : opNe (.int p) (.int q) h = .ok (.bl (decide (p ≠ q))) h := by
  show R.ok (D.bl !decide (p = q)) h = _
  rw [show (!decide (p = q)) = decide (p ≠ q) by simp]
theorem g_eqs {p q : Str} : opEq (.str p) (.str q) h = .ok (.bl (decide (p = q))) h := rfl
theorem g_nes {p q : Str} : opNe (.str p) (.str q) h = .ok (.bl (decide (p ≠ q))) h := by
  show R.ok (D.bl !decide (p = q)) h = _
  rw [show (!decide (p = q)) = decide (p ≠ q) by simp]
theorem g_neni : opNe .non (.int p) h = .ok (.bl true) h := rfl
theorem g_nein : opNe (.int p) .non h = .ok (.bl true) h := rfl
theorem g_nenn : opNe .non .non h = .ok (.bl false) h := rfl
theorem g_isn : opIsN .non .non h = .ok (.bl true) h := rfl
theorem g_isi : opIsN (.int p) .non h = .ok (.bl false) h := rfl
theorem g_nsn : opNotN .non .non h = .ok (.bl false) h := rfl
theorem g_nsi : opNotN (.int p) .non h = .ok (.bl true) h := rfl
theorem g_tv (ha : a C e h = .ok (.bl bb) h1) : tV a C e h = .ok bb h1 := by unfold tV; rw [ha]; rfl
theorem g_tan (ha : t C e h = .ok bb h1) (hb : (if bb = true then u C e h1 else .ok false h1) = rb) : tAn t u C e h = rb := by unfold tAn; rw [ha]; exact hb
theorem g_tor (ha : t C e h = .ok bb h1) (hb : (if bb = true then .ok true h1 else u C e h1) = rb) : tOr t u C e h = rb := by unfold tOr; rw [ha]; exact hb
theorem g_tnt (ha : t C e h = .ok bb h1) : tNt t C e h = .ok (!bb) h1 := by unfold tNt; rw [ha]; rfl
theorem g_ean (ha : a C e h = .ok (.bl bb) h1) (hb : (if bb = true then b C e h1 else .ok (.bl false) h1) = r) : eAn a b C e h = r := by unfold eAn; rw [ha]; exact hb
theorem g_eor (ha : a C e h = .ok (.bl bb) h1) (hb : (if bb = true then .ok (.bl true) h1 else b C e h1) = r) : eOr a b C e h = r := by unfold eOr; rw [ha]; exact hb
theorem g_ent (ha : a C e h = .ok (.bl bb) h1) : eNt a C e h = .ok (.bl (!bb)) h1 := by unfold eNt; rw [ha]; rfl
theorem g_eif (ha : t C e h = .ok bb h1) (hb : (if bb = true then a C e h1 else b C e h1) = r) : eIf t a b C e h = r := by unfold eIf; rw [ha]; exact hb
theorem g_iftt {α : Type} {m n r : α} (k : m = r) : (if true = true then m else n) = r := k
theorem g_iffn {α : Type} {m n r : α} (k : m = r) : (if (!false) = true then m else n) = r := k
theorem g_ifff {α : Type} {m n r : α} (k : n = r) : (if false = true then m else n) = r := k
theorem g_iftn {α : Type} {m n r : α} (k : n = r) : (if (!true) = true then m else n) = r := k
theorem g_ift {α : Type} {c : Prop} [Decidable c] {m n r : α} (l : c) (k : m = r) : (if decide c = true then m else n) = r := by rw [if_pos (decide_eq_true l)]; exact k
theorem g_iff {α : Type} {c : Prop} [Decidable c] {m n r : α} (l : ¬ c) (k : n = r) : (if decide c = true then m else n) = r := by rw [if_neg (by simpa using l)]; exact k
theorem g_ifnt {α : Type} {c : Prop} [Decidable c] {m n r : α} (l : ¬ c) (k : m = r) : (if (!decide c) = true then m else n) = r := by rw [if_pos (by simpa using l)]; exact k
theorem g_ifnf {α : Type} {c : Prop} [Decidable c] {m n r : α} (l : c) (k : n = r) : (if (!decide c) = true then m else n) = r := by rw [if_neg (by simpa using l)]; exact k
theorem g_an : aN C e h = .ok [] h := rfl
theorem g_ac (ha : a C e h = .ok x h1) (hb : as C e h1 = .ok xs h2) : aC a as C e h = .ok (x :: xs) h2 := by unfold aC; rw [ha]; simp only [R.bind_ok]; rw [hb]; rfl
theorem g_call {f : Nat} (ha : as C e h = .ok xs h1) (hc : C.call f xs h1 = r) : eCall f as [] C e h = r := by unfold eCall; rw [ha]; simp only [R.bind_ok, List.append_nil]; exact hc
theorem g_calld {f : Nat} (ha : as C e h = .ok xs h1) (hx : xs ++ ds = ys) (hc : C.call f ys h1 = r) : eCall f as ds C e h = r := by unfold eCall; rw [ha]; simp only [R.bind_ok]; rw [hx]; exact hc
theorem g_ap0 : ([] : List D) ++ ds = ds := rfl
theorem g_apS (k : xs ++ ds = ys) : (x :: xs) ++ ds = x :: ys := by rw [← k]; rfl
theorem g_bf {f : List D → HP → R D} (ha : as C e h = .ok xs h1) (hc : f xs h1 = r) : eBf f as C e h = r := by unfold eBf; rw [ha]; exact hc
theorem g_tup (ha : as C e h = .ok xs h1) (l : xs.length ≤ sizeLine) : eTup as C e h = .ok (.tup xs) h1 := by unfold eTup; rw [ha]; simp only [R.bind_ok]; rw [if_pos l]
theorem g_lst (ha : as C e h = .ok xs h1) (l : xs.length ≤ sizeLine) : eLst as C e h = .ok (.ref h1.length) (h1 ++ [.lst xs]) := by unfold eLst; rw [ha]; simp only [R.bind_ok]; rw [if_pos l]
theorem g_max : bMax [.int p, .int q] h = .ok (.int (max p q)) h := by
  simp only [bMax]
  congr 2
  split <;> omega
theorem g_max3 {k : Int} : bMax [.int p, .int q, .int k] h = .ok (.int (max (max p q) k)) h := by
  simp only [bMax]
  congr 2
  split <;> split <;> omega
theorem g_min : bMin [.int p, .int q] h = .ok (.int (min p q)) h := by
  simp only [bMin]
  congr 2
  split <;> omega
theorem g_intb : bInt [.bl bb] h = .ok (.int (if bb then 1 else 0)) h := rfl
theorem g_ixl {ks : List D} {j : Nat} {k : Int} (l : h[j]? = some (.lst ks)) (k0 : 0 ≤ k) (m : ks[k.toNat]? = some d) : opIx (.ref j) (.int k) h = .ok d h := by
  have hk : k.toNat < ks.length := (List.getElem?_eq_some_iff.mp m).1
  have e1 : atI ks k = some d := by
    have z : ixN ks.length k = some k.toNat := by unfold ixN; rw [if_pos k0, if_pos (by omega)]
    unfold atI; rw [z]; exact m
  simp only [opIx, l, isL, e1]
theorem g_ixz {ks : List D} {j : Nat} {k : Int} (l : h[j]? = some (.fz ks)) (k0 : 0 ≤ k) (m : ks[k.toNat]? = some d) : opIx (.ref j) (.int k) h = .ok d h := by
  have hk : k.toNat < ks.length := (List.getElem?_eq_some_iff.mp m).1
  have e1 : atI ks k = some d := by
    have z : ixN ks.length k = some k.toNat := by unfold ixN; rw [if_pos k0, if_pos (by omega)]
    unfold atI; rw [z]; exact m
  simp only [opIx, l, isL, e1]
theorem g_ixt {ks : List D} {k : Int} (k0 : 0 ≤ k) (m : ks[k.toNat]? = some d) : opIx (.tup ks) (.int k) h = .ok d h := by
  have hk : k.toNat < ks.length := (List.getElem?_eq_some_iff.mp m).1
  have e1 : atI ks k = some d := by
    have z : ixN ks.length k = some k.toNat := by unfold ixN; rw [if_pos k0, if_pos (by omega)]
    unfold atI; rw [z]; exact m
  simp only [opIx, e1]
theorem g_gn0 {o : Option D} : gN 0 (o :: e) d = some (some d :: e) := rfl
theorem g_gns {o : Option D} (k : gN i e d = some e1) : gN (i + 1) (o :: e) d = some (o :: e1) := by
  simp only [gN, Option.some.injEq] at k
  rw [← k]; rfl
theorem g_gt2 {j : Nat} (k : gN i e x = some e1) (k2 : gN j e1 y = some e2) : gT [i, j] e (.tup [x, y]) = some e2 := by
  simp only [gN, Option.some.injEq] at k k2
  rw [← k2, ← k]; rfl
theorem g_gt3 {j k' : Nat} {e3 : Ev} (k : gN i e x = some e1) (k2 : gN j e1 y = some e2) (k3 : gN k' e2 z = some e3) : gT [i, j, k'] e (.tup [x, y, z]) = some e3 := by
  simp only [gN, Option.some.injEq] at k k2 k3
  rw [← k3, ← k2, ← k]; rfl
theorem g_as (ha : a C e h = .ok d h1) (hg : g e d = some e1) : sAs g a C e h = .ok (.nx e1) h1 := by unfold sAs; rw [ha]; simp only [R.bind_ok]; rw [hg]
theorem g_pr {j : Nat} (ha : a C e h = .ok x h1) (hb : b C e h1 = .ok y h2) (k : gN i e x = some e1) (k2 : gN j e1 y = some e2) : sPr i j a b C e h = .ok (.nx e2) h2 := by
  simp only [gN, Option.some.injEq] at k k2
  unfold sPr; rw [ha]; simp only [R.bind_ok]; rw [hb, ← k2, ← k]; rfl
theorem g_au (l : e[i]? = some (some x)) (ha : a C e h = .ok y h1) (ho : op x y h1 = .ok z h2) (k : gN i e z = some e1) : sAu i op a C e h = .ok (.nx e1) h2 := by
  simp only [gN, Option.some.injEq] at k
  unfold sAu; rw [l]; simp only; rw [ha]; simp only [R.bind_ok]; rw [ho, ← k]; rfl
theorem g_rt (ha : a C e h = .ok d h1) : sRt a C e h = .ok (.rt d) h1 := by unfold sRt; rw [ha]; rfl
theorem g_rn : sRN C e h = .ok (.rt .non) h := rfl
theorem g_ex (ha : a C e h = .ok d h1) : sEx a C e h = .ok (.nx e) h1 := by unfold sEx; rw [ha]; rfl
theorem g_if (ha : t C e h = .ok bb h1) (hb : (if bb = true then s C e h1 else w C e h1) = rs) : sIf t s w C e h = rs := by unfold sIf; rw [ha]; exact hb
theorem g_sk : sSk C e h = .ok (.nx e) h := rfl
theorem g_bk : sBk C e h = .ok (.bk e) h := rfl
theorem g_ct : sCt C e h = .ok (.ct e) h := rfl
def sqK (f : FL) (w : MS) (C : Ctx) (h : HP) : R FL := match f with
  | .nx e => w C e h
  | f => .ok f h
theorem g_sq {f : FL} (ha : s C e h = .ok f h1) (hb : sqK f w C h1 = rs) : sSq s w C e h = rs := by
  unfold sSq; rw [ha]; exact hb
theorem g_kn (k : w C e h = rs) : sqK (.nx e) w C h = rs := k
theorem g_kr : sqK (.rt d) w C h = .ok (.rt d) h := rfl
theorem g_kb : sqK (.bk e) w C h = .ok (.bk e) h := rfl
theorem g_kc : sqK (.ct e) w C h = .ok (.ct e) h := rfl
theorem run_rt {np nn : Nat} {m : MS} (l : ds.length = np) {e' : Ev} (l2 : ds.map some ++ List.replicate (nn - ds.length) none = e') (k : m C e' h = .ok (.rt d) h1) : runFn C ⟨np, nn, m⟩ ds h = .ok d h1 := by
  unfold runFn; rw [if_pos l, l2]; simp only; rw [k]; rfl
theorem run_nx {np nn : Nat} {m : MS} (l : ds.length = np) {e' : Ev} (l2 : ds.map some ++ List.replicate (nn - ds.length) none = e') (k : m C e' h = .ok (.nx e1) h1) : runFn C ⟨np, nn, m⟩ ds h = .ok .non h1 := by
  unfold runFn; rw [if_pos l, l2]; simp only; rw [k]; rfl
theorem turn_of {P : Ev → Prop} (q : g e d = some e1) (k : P e1) : ∃ e1, g e d = some e1 ∧ P e1 := ⟨e1, q, k⟩
theorem body_nx {P : Ev → HP → Prop} (q : s C e h = .ok (.nx e2) h2) (p : P e2 h2) : ∃ e2 h2, (s C e h = .ok (.nx e2) h2 ∨ s C e h = .ok (.ct e2) h2) ∧ P e2 h2 := ⟨_, _, .inl q, p⟩
theorem body_ct {P : Ev → HP → Prop} (q : s C e h = .ok (.ct e2) h2) (p : P e2 h2) : ∃ e2 h2, (s C e h = .ok (.nx e2) h2 ∨ s C e h = .ok (.ct e2) h2) ∧ P e2 h2 := ⟨_, _, .inr q, p⟩
end
theorem g_divn {p q : Int} {h : HP} (l : divOk q = true) : opDiv (.int p) (.int q) h = .ok (.int (p.fdiv q)) h := by simp only [opDiv, l, if_true]
theorem g_ixn {xs : List D} {d : D} {k : Int} {h : HP} (k0 : 0 ≤ k) (m : xs[k.toNat]? = some d) : opIx (.ref h.length) (.int k) (h ++ [.lst xs]) = .ok d (h ++ [.lst xs]) := g_ixl (by rw [List.getElem?_append_right (Nat.le_refl _)]; simp) k0 m
theorem g_pow {p q : Int} {h : HP} (l : 0 ≤ q ∧ q ≤ 1000000 ∧ p.natAbs < 2 ^ 64) : opPow (.int p) (.int q) h = .ok (.int (p ^ q.toNat)) h := by simp only [opPow]; rw [if_pos l]
theorem g_isint {C : Ctx} {e : Ev} {h h1 : HP} {a : ME} {p : Int} {T : String} (ha : a C e h = .ok (.int p) h1) : eIs T a C e h = .ok (.bl ("int" == T || ("int" == "bool" && T == "int"))) h1 := by unfold eIs; rw [ha]; rfl
theorem lenOk {α : Type} {xs : List α} (h : Nat.ble xs.length 1000 = true) : xs.length ≤ sizeLine := Nat.le_trans (Nat.le_of_ble_eq_true h) (by decide)
section
variable {C : Ctx} {e : Ev} {h h1 h2 h3 : HP} {a o : ME} {lo hi : MO} {as : MA} {x : D} {xs : List D} {l u : Option Int} {p : Int} {r : R D}
theorem g_on : oN C e h = .ok none h := rfl
theorem g_os (ha : a C e h = .ok (.int p) h1) : oS a C e h = .ok (some p) h1 := by unfold oS; rw [ha]; rfl
theorem g_sl {f : D → Option Int → Option Int → HP → R D} (ha : a C e h = .ok x h1) (hl : lo C e h1 = .ok l h2) (hu : hi C e h2 = .ok u h3) (hf : f x l u h3 = r) : eSl f a lo hi C e h = r := by
  unfold eSl; rw [ha]; simp only [R.bind_ok]; rw [hl]; simp only [R.bind_ok]; rw [hu]; exact hf
theorem g_bkm {ok : D → HP → Bool} {f : D → List D → HP → R D} (ho : o C e h = .ok x h1) (hk : ok x h1 = true) (ha : as C e h1 = .ok xs h2) (hf : f x xs h2 = r) : eBk ok f o as C e h = r := by
  unfold eBk; rw [ho]; simp only [R.bind_ok]; rw [if_pos hk, ha]; exact hf
theorem g_okS {z : Str} : okS (.str z) h = true := rfl
theorem g_okL {i : Nat} {ds : List D} (k : isL i h = some ds) : okL (.ref i) h = true := by unfold okL; simp only [k]; rfl
theorem isL_of {i : Nat} {ds : List D} (k : h[i]? = some (.lst ds)) : isL i h = some ds := by unfold isL; rw [k]
theorem isL_fz {i : Nat} {ds : List D} (k : h[i]? = some (.fz ds)) : isL i h = some ds := by unfold isL; rw [k]
theorem isL_new {ds : List D} : isL h.length (h ++ [.lst ds]) = some ds := isL_of (by rw [List.getElem?_append_right (Nat.le_refl _)]; simp)
theorem g_slL {i : Nat} {ds : List D} (k : isL i h = some ds) : opSl (.ref i) l u h = .ok (.ref h.length) (h ++ [.lst (cutD ds l u)]) := by unfold opSl; simp only [k]
theorem g_lenL {i : Nat} {ds : List D} (k : h[i]? = some (.lst ds)) : bLen [.ref i] h = .ok (.int ds.length) h := by unfold bLen; simp only [k, isL]
theorem g_sumL {i : Nat} {ns : List Int} (k : isL i h = some (ns.map D.int)) : bSum [.ref i] h = .ok (.int ns.sum) h := by unfold bSum; simp only [k, intsD_ints]
theorem g_cnt {i : Nat} {ns : List Int} (k : isL i h = some (ns.map D.int)) : mCnt (.ref i) [.int p] h = .ok (.int (ns.count p : Nat)) h := by unfold mCnt; simp only [k, intsD_ints]
/-- [.. for .. in ..], no test, nothing new in the heap -/
theorem cmp_all {it : Itr} {g : Tg} {n : Nat} {e0 : Ev} (ds out : Nat → D) (hi : ∀ j, j < n → it j h = some (some (ds j))) (hd : it n h = some none) (hs : ∀ j, j < n → ∃ e1, g e0 (ds j) = some e1 ∧ a C e1 h = .ok (out j) h) (hn : n ≤ sizeLine) :
    ∀ (m j : Nat) (acc : List D), j + m = n → acc = (List.range j).map out → ∀ fuel, m < fuel → cmpN it g tY a e0 C fuel j acc h = .ok ((List.range n).map out) h
  | 0, j, acc, hj, ha, fuel, hf => by
    obtain ⟨f, rfl⟩ : ∃ f, fuel = f + 1 := ⟨fuel - 1, by omega⟩
    have : j = n := by omega
    subst this
    simp only [cmpN, hd, ha]
  | m + 1, j, acc, hj, ha, fuel, hf => by
    obtain ⟨f, rfl⟩ : ∃ f, fuel = f + 1 := ⟨fuel - 1, by omega⟩
    obtain ⟨e1, g1, q⟩ := hs j (by omega)
    have hl : acc.length < sizeLine := by rw [ha, List.length_map, List.length_range]; omega
    simp only [cmpN, hi j (by omega), g1, tY, R.bind_ok, if_true, q, hl]
    exact cmp_all ds out hi hd hs hn m (j + 1) _ (by omega) (by rw [ha, List.range_succ, List.map_append]; rfl) f (by omega)
theorem lc_of {vs : List Nat} {g : Tg} {mi : MI} {t : MT} {it : Itr} {ys : List D} (hi : mi C e h = .ok it h1) (hc : cmpN it g t a (wipeE e vs) C C.fuel 0 [] h1 = .ok ys h2) : eLc vs g mi t a C e h = .ok (.ref h2.length) (h2 ++ [.lst ys]) := by
  unfold eLc; rw [hi]; simp only [R.bind_ok]; rw [hc]; rfl
end
theorem g_eqr {p : Int} {h : HP} : opEq (.int p) (.int p) h = .ok (.bl true) h := by rw [g_eq, decide_eq_true rfl]
theorem g_ner {p : Int} {h : HP} : opNe (.int p) (.int p) h = .ok (.bl false) h := by rw [g_ne]; simp
theorem g_ixm1 {h : HP} {ks : List D} {d : D} {j : Nat} (l : h[j]? = some (.lst ks)) (m : ks[ks.length - 1]? = some d) : opIx (.ref j) (.int (-1)) h = .ok d h := by
  have hk : ks.length - 1 < ks.length := (List.getElem?_eq_some_iff.mp m).1
  have e1 : atI ks (-1) = some d := by
    have z : ixN ks.length (-1) = some (ks.length - 1) := by
      unfold ixN
      rw [if_neg (by omega), if_pos (by omega)]
      congr 1
      omega
    unfold atI; rw [z]; exact m
  simp only [opIx, l, isL, e1]
section
variable {h : HP} {xs : List D} {y : D}
theorem g_app_new (l : xs.length < sizeLine) : mApp (.ref h.length) [y] (h ++ [.lst xs]) = .ok .non (h ++ [.lst (xs ++ [y])]) := by
  have e : (h ++ [O.lst xs])[h.length]? = some (.lst xs) := by rw [List.getElem?_append_right (Nat.le_refl _)]; simp
  unfold mApp
  simp only [e, if_pos l]
  congr 1
  rw [List.set_append_right _ _ (Nat.le_refl _)]
  simp
theorem g_okL_new : okL (.ref h.length) (h ++ [.lst xs]) = true := g_okL isL_new
end
/-! lists of whole numbers -/
theorem cut_int (ns : List Int) (lo hi : Option Int) : ∃ zs : List Int, cutD (ns.map D.int) lo hi = zs.map D.int ∧ (∀ z ∈ zs, z ∈ ns) ∧ zs.length ≤ ns.length := by
  refine ⟨(ns.drop (HT.sIx (ns.map D.int).length 0 lo)).take (HT.sIx (ns.map D.int).length (ns.map D.int).length hi - HT.sIx (ns.map D.int).length 0 lo), ?_, ?_, ?_⟩
  · unfold cutD
    rw [List.map_take, List.map_drop]
  · exact fun z hz => List.mem_of_mem_drop (List.mem_of_mem_take hz)
  · rw [List.length_take, List.length_drop]; omega
theorem for_ints {C : Ctx} {g : Tg} {b : MS} {i : Nat} {zs : List Int} (Pv : Nat → Ev → HP → Prop) (hl : ∀ j e h, Pv j e h → h[i]? = some (.lst (zs.map D.int)))
    (hs : ∀ j z e h, zs[j]? = some z → Pv j e h → ∃ e1, g e (.int z) = some e1 ∧ ∃ e2 h2, (b C e1 h = .ok (.nx e2) h2 ∨ b C e1 h = .ok (.ct e2) h2) ∧ Pv (j + 1) e2 h2) {e : Ev} {h : HP} (p : Pv 0 e h) {fuel : Nat} (hf : zs.length < fuel) :
    ∃ e2 h2, forN (itL i) g b fuel 0 C e h = .ok (.nx e2) h2 ∧ Pv zs.length e2 h2 := by
  refine for_go (n := zs.length) (fun j => .int (zs.getD j 0)) Pv (fun j e h hj p => ?_) (fun e h p => ?_) (fun j e h hj p => ?_) zs.length 0 e h (by omega) p fuel hf
  · simp only [itL, hl j e h p]
    rw [List.getElem?_map, List.getElem?_eq_getElem hj, List.getD_eq_getElem?_getD, List.getElem?_eq_getElem hj]
    rfl
  · simp only [itL, hl _ e h p]
    rw [List.getElem?_eq_none (by simp)]
  · have hz : zs[j]? = some (zs.getD j 0) := by rw [List.getD_eq_getElem?_getD, List.getElem?_eq_getElem hj]; rfl
    exact hs j _ e h hz p
theorem get_app {h t : HP} {i : Nat} {o : O} (q : h[i]? = some o) : (h ++ t)[i]? = some o := by
  rw [List.getElem?_append_left (List.getElem?_eq_some_iff.mp q).1]; exact q
theorem cut_take {α : Type} (xs : List D) (m : Int) (h0 : 0 ≤ m) (h1 : m.toNat ≤ xs.length) : cutD xs none (some m) = xs.take m.toNat := by
  obtain ⟨k, rfl⟩ : ∃ k : Nat, m = k := ⟨m.toNat, by omega⟩
  rw [Int.toNat_natCast] at h1 ⊢
  unfold cutD
  rw [HT.sIx_none, HT.sIx_nat, Nat.min_eq_left h1]
  simp
theorem cut_any {α : Type} (xs : List D) (lo hi : Option Int) : (∀ d ∈ cutD xs lo hi, d ∈ xs) ∧ (cutD xs lo hi).length ≤ xs.length := by
  unfold cutD
  refine ⟨fun z hz => List.mem_of_mem_drop (List.mem_of_mem_take hz), ?_⟩
  rw [List.length_take, List.length_drop]; omega
/-- a comprehension whose heap grows -/
theorem cmp_grow {it : Itr} {g : Tg} {n : Nat} {e0 : Ev} {C : Ctx} {a : ME} (ds : Nat → D) (Pv : HP → Prop) (Qo : D → Prop) (hi : ∀ j h, j < n → Pv h → it j h = some (some (ds j))) (hd : ∀ h, Pv h → it n h = some none)
    (hs : ∀ j h, j < n → Pv h → ∃ e1, g e0 (ds j) = some e1 ∧ ∃ o h2, a C e1 h = .ok o h2 ∧ Pv h2 ∧ Qo o) (hn : n ≤ sizeLine) :
    ∀ (m j : Nat) (acc : List D) (h : HP), j + m = n → acc.length = j → (∀ o ∈ acc, Qo o) → Pv h → ∀ fuel, m < fuel → ∃ ys h2, cmpN it g tY a e0 C fuel j acc h = .ok ys h2 ∧ ys.length = n ∧ (∀ o ∈ ys, Qo o) ∧ Pv h2
  | 0, j, acc, h, hj, ha, hq, p, fuel, hf => by
    obtain ⟨f, rfl⟩ : ∃ f, fuel = f + 1 := ⟨fuel - 1, by omega⟩
    have : j = n := by omega
    subst this
    exact ⟨acc, h, by simp only [cmpN, hd h p], ha, hq, p⟩
  | m + 1, j, acc, h, hj, ha, hq, p, fuel, hf => by
    obtain ⟨f, rfl⟩ : ∃ f, fuel = f + 1 := ⟨fuel - 1, by omega⟩
    obtain ⟨e1, g1, o, h2, q, p2, qo⟩ := hs j h (by omega) p
    have hl : acc.length < sizeLine := by omega
    obtain ⟨ys, h3, r, r2⟩ := cmp_grow (C := C) (a := a) ds Pv Qo hi hd hs hn m (j + 1) (acc ++ [o]) h2 (by omega) (by rw [List.length_append]; simp [ha]) (fun w hw => by
      rcases List.mem_append.mp hw with q | q
      · exact hq w q
      · rw [List.mem_singleton.mp q]; exact qo) p2 f (by omega)
    refine ⟨ys, h3, ?_, r2⟩
    simp only [cmpN, hi j h (by omega) p, g1, tY, R.bind_ok, if_true, q, hl]
    exact r
/-! _law_stream -/
theorem stream_run (C : Ctx) (h : HP) {cell many : Int} (hc : Lt2 cell 2000000) (hm : 0 ≤ many) (hm2 : many ≤ 3000) (hf : 3000 < C.fuel) :
    ∃ zs : List Int, zs.length = many.toNat ∧ (∀ z ∈ zs, 0 ≤ z) ∧ runFn C f_l_stream [.int cell, .int many] h = .ok (.ref h.length) (h ++ [.lst (zs.map D.int)]) := by
  have hi : ∀ e : Ev, e[1]? = some (some (.int many)) → ∀ h, iR1 (eV 1) C e h = .ok (itR 0 many.toNat) h := fun e q h => iR1_of (n := many) (g_v q) (by omega) (by omega)
  have nn : ∀ {zs : List Int} {z : Int}, (∀ z ∈ zs, 0 ≤ z) → 0 ≤ z → ∀ w ∈ zs ++ [z], 0 ≤ w := fun {zs z} q0 q1 w hw => by
    rcases List.mem_append.mp hw with q | q
    · exact q0 w q
    · rw [List.mem_singleton.mp q]; exact q1
  have dk : divOk (33554432 : Int) = true := by decide
  have dk2 : divOk (64 : Int) = true := by decide
  by_cases hb : (10 : Int) ^ (20 : Int).toNat ≤ cell
  · obtain ⟨e2, h2, hfor, hv⟩ := for_go (it := itR 0 many.toNat) (g := gN 4) (b := b_l_stream_1) (C := C) (n := many.toNat) (fun j => .int (0 + j))
      (fun j e h' => ∃ (zs : List Int) (num : Int) (x : Option D), zs.length = j ∧ (∀ z ∈ zs, 0 ≤ z) ∧ h' = h ++ [.lst (zs.map D.int)] ∧ e = [some (.int cell), some (.int many), some (.ref h.length), some (.int num), x] ∧ 0 ≤ num)
      (fun j e h' hj _ => by simp only [itR, if_pos hj]) (fun e h' _ => by simp [itR])
      (fun j e h' hj ⟨zs, num, x, z1, z2, e1, e2, z3⟩ => by
        subst e1 e2
        have ap := g_app_new (h := h) (xs := zs.map D.int) (y := .int (num % 33554432)) (by rw [List.length_map, sizeLine_eq]; omega)
        have p0 : 0 ≤ num % 33554432 := Int.emod_nonneg _ (by decide)
        have p1 : 0 ≤ num / 33554432 := Int.ediv_nonneg z3 (by decide)
        unfold b_l_stream_1
        apply turn_of
        · (repeat' first | with_reducible exact g_v rfl | with_reducible exact g_c | with_reducible exact g_an | with_reducible exact g_add | with_reducible exact g_sub | with_reducible exact g_iadd | with_reducible exact g_lt | with_reducible exact g_le | with_reducible exact g_gt | with_reducible exact g_ge | with_reducible exact g_eq | with_reducible exact g_ne | with_reducible exact g_neg | with_reducible exact g_mul (by first | assumption | omega | decide) | with_reducible exact g_div (by first | assumption | omega | decide) (by first | assumption | omega | decide) | with_reducible exact g_mod (by first | assumption | omega | decide) | with_reducible exact g_pow (by decide) | with_reducible apply g_isint | with_reducible exact g_sk | with_reducible exact g_rn | with_reducible exact g_bk | with_reducible exact g_ct | with_reducible exact g_gn0 | with_reducible apply g_gns | with_reducible exact g_ap0 | with_reducible apply g_apS | with_reducible apply g_op | with_reducible apply g_un | with_reducible apply g_ac | with_reducible apply g_call | with_reducible apply g_calld | with_reducible apply g_bf | with_reducible apply g_sq | with_reducible apply g_kn | with_reducible exact g_kr | with_reducible exact g_kb | with_reducible exact g_kc | with_reducible apply g_as | with_reducible apply g_pr | with_reducible apply g_au rfl | with_reducible apply g_rt | with_reducible apply g_ex | with_reducible apply g_if | with_reducible apply g_tv | with_reducible apply g_tan | with_reducible apply g_tor | with_reducible apply g_tnt | with_reducible apply g_ean | with_reducible apply g_eor | with_reducible apply g_ent | with_reducible apply g_eif | with_reducible apply g_iftt | with_reducible apply g_iffn | with_reducible apply g_ifff | with_reducible apply g_iftn | with_reducible refine g_ift (by first | assumption | omega | decide) ?_ | with_reducible refine g_iff (by first | assumption | omega | decide) ?_ | with_reducible refine g_ifnt (by first | assumption | omega | decide) ?_ | with_reducible refine g_ifnf (by first | assumption | omega | decide) ?_ | with_reducible exact rfl | with_reducible exact g_eqs | with_reducible exact g_nes | with_reducible exact g_neni | with_reducible exact g_nein | with_reducible exact g_nenn | with_reducible exact g_isn | with_reducible exact g_isi | with_reducible exact g_nsn | with_reducible exact g_nsi | with_reducible exact g_max | with_reducible exact g_max3 | with_reducible exact g_min | with_reducible exact g_intb | with_reducible apply g_gt2 | with_reducible apply g_gt3 | with_reducible apply g_tup | with_reducible apply g_lst | with_reducible exact lenOk rfl | with_reducible exact g_on | with_reducible apply g_os | with_reducible apply g_sl | with_reducible apply g_bkm | with_reducible exact g_okS )
        apply body_nx
        · (repeat' first | with_reducible exact g_okL_new | with_reducible exact ap | with_reducible exact g_v rfl | with_reducible exact g_c | with_reducible exact g_an | with_reducible exact g_add | with_reducible exact g_sub | with_reducible exact g_iadd | with_reducible exact g_lt | with_reducible exact g_le | with_reducible exact g_gt | with_reducible exact g_ge | with_reducible exact g_eq | with_reducible exact g_ne | with_reducible exact g_neg | with_reducible exact g_mul (by first | assumption | omega | decide) | with_reducible exact g_div (by first | assumption | omega | decide) (by first | assumption | omega | decide) | with_reducible exact g_mod (by first | assumption | omega | decide) | with_reducible exact g_pow (by decide) | with_reducible apply g_isint | with_reducible exact g_sk | with_reducible exact g_rn | with_reducible exact g_bk | with_reducible exact g_ct | with_reducible exact g_gn0 | with_reducible apply g_gns | with_reducible exact g_ap0 | with_reducible apply g_apS | with_reducible apply g_op | with_reducible apply g_un | with_reducible apply g_ac | with_reducible apply g_call | with_reducible apply g_calld | with_reducible apply g_bf | with_reducible apply g_sq | with_reducible apply g_kn | with_reducible exact g_kr | with_reducible exact g_kb | with_reducible exact g_kc | with_reducible apply g_as | with_reducible apply g_pr | with_reducible apply g_au rfl | with_reducible apply g_rt | with_reducible apply g_ex | with_reducible apply g_if | with_reducible apply g_tv | with_reducible apply g_tan | with_reducible apply g_tor | with_reducible apply g_tnt | with_reducible apply g_ean | with_reducible apply g_eor | with_reducible apply g_ent | with_reducible apply g_eif | with_reducible apply g_iftt | with_reducible apply g_iffn | with_reducible apply g_ifff | with_reducible apply g_iftn | with_reducible refine g_ift (by first | assumption | omega | decide) ?_ | with_reducible refine g_iff (by first | assumption | omega | decide) ?_ | with_reducible refine g_ifnt (by first | assumption | omega | decide) ?_ | with_reducible refine g_ifnf (by first | assumption | omega | decide) ?_ | with_reducible exact rfl | with_reducible exact g_eqs | with_reducible exact g_nes | with_reducible exact g_neni | with_reducible exact g_nein | with_reducible exact g_nenn | with_reducible exact g_isn | with_reducible exact g_isi | with_reducible exact g_nsn | with_reducible exact g_nsi | with_reducible exact g_max | with_reducible exact g_max3 | with_reducible exact g_min | with_reducible exact g_intb | with_reducible apply g_gt2 | with_reducible apply g_gt3 | with_reducible apply g_tup | with_reducible apply g_lst | with_reducible exact lenOk rfl | with_reducible exact g_on | with_reducible apply g_os | with_reducible apply g_sl | with_reducible apply g_bkm | with_reducible exact g_okS )
        · exact ⟨zs ++ [num % 33554432], num / 33554432, _, by rw [List.length_append, z1]; rfl, nn z2 p0, by rw [List.map_append]; rfl, rfl, p1⟩)
      many.toNat 0 [some (.int cell), some (.int many), some (.ref h.length), some (.int (cell - 10 ^ (20 : Int).toNat)), none] (h ++ [.lst []]) (by omega) ⟨[], _, _, rfl, fun z hz => (by cases hz), rfl, rfl, by omega⟩ C.fuel (by omega)
    obtain ⟨zs, num, x, z1, z2, rfl, rfl, _⟩ := hv
    have F := fo_of (g := gN 4) (hi [some (.int cell), some (.int many), some (.ref h.length), some (.int (cell - 10 ^ (20 : Int).toNat)), none] rfl _) hfor
    refine ⟨zs, z1, z2, ?_⟩
    refine run_rt rfl (by simp only [List.map_cons, List.map_nil, List.length_cons, List.length_nil, List.cons_append, List.nil_append, Nat.reduceAdd, Nat.reduceSub, List.replicate_succ, List.replicate_zero]; exact rfl) ?_
    (repeat' first | with_reducible exact F | with_reducible exact g_v rfl | with_reducible exact g_c | with_reducible exact g_an | with_reducible exact g_add | with_reducible exact g_sub | with_reducible exact g_iadd | with_reducible exact g_lt | with_reducible exact g_le | with_reducible exact g_gt | with_reducible exact g_ge | with_reducible exact g_eq | with_reducible exact g_ne | with_reducible exact g_neg | with_reducible exact g_mul (by first | assumption | omega | decide) | with_reducible exact g_div (by first | assumption | omega | decide) (by first | assumption | omega | decide) | with_reducible exact g_mod (by first | assumption | omega | decide) | with_reducible exact g_pow (by decide) | with_reducible apply g_isint | with_reducible exact g_sk | with_reducible exact g_rn | with_reducible exact g_bk | with_reducible exact g_ct | with_reducible exact g_gn0 | with_reducible apply g_gns | with_reducible exact g_ap0 | with_reducible apply g_apS | with_reducible apply g_op | with_reducible apply g_un | with_reducible apply g_ac | with_reducible apply g_call | with_reducible apply g_calld | with_reducible apply g_bf | with_reducible apply g_sq | with_reducible apply g_kn | with_reducible exact g_kr | with_reducible exact g_kb | with_reducible exact g_kc | with_reducible apply g_as | with_reducible apply g_pr | with_reducible apply g_au rfl | with_reducible apply g_rt | with_reducible apply g_ex | with_reducible apply g_if | with_reducible apply g_tv | with_reducible apply g_tan | with_reducible apply g_tor | with_reducible apply g_tnt | with_reducible apply g_ean | with_reducible apply g_eor | with_reducible apply g_ent | with_reducible apply g_eif | with_reducible apply g_iftt | with_reducible apply g_iffn | with_reducible apply g_ifff | with_reducible apply g_iftn | with_reducible refine g_ift (by first | assumption | omega | decide) ?_ | with_reducible refine g_iff (by first | assumption | omega | decide) ?_ | with_reducible refine g_ifnt (by first | assumption | omega | decide) ?_ | with_reducible refine g_ifnf (by first | assumption | omega | decide) ?_ | with_reducible exact rfl | with_reducible exact g_eqs | with_reducible exact g_nes | with_reducible exact g_neni | with_reducible exact g_nein | with_reducible exact g_nenn | with_reducible exact g_isn | with_reducible exact g_isi | with_reducible exact g_nsn | with_reducible exact g_nsi | with_reducible exact g_max | with_reducible exact g_max3 | with_reducible exact g_min | with_reducible exact g_intb | with_reducible apply g_gt2 | with_reducible apply g_gt3 | with_reducible apply g_tup | with_reducible apply g_lst | with_reducible exact lenOk rfl | with_reducible exact g_on | with_reducible apply g_os | with_reducible apply g_sl | with_reducible apply g_bkm | with_reducible exact g_okS )
  · have c0 := Int.emod_nonneg cell (show (2147483647 : Int) ≠ 0 by decide)
    have c1 := Int.emod_lt_of_pos cell (show (0 : Int) < 2147483647 by decide)
    obtain ⟨e2, h2, hfor, hv⟩ := for_go (it := itR 0 many.toNat) (g := gN 4) (b := b_l_stream_2) (C := C) (n := many.toNat) (fun j => .int (0 + j))
      (fun j e h' => ∃ (zs : List Int) (num : Int) (x : Option D), zs.length = j ∧ (∀ z ∈ zs, 0 ≤ z) ∧ h' = h ++ [.lst (zs.map D.int)] ∧ e = [some (.int cell), some (.int many), some (.ref h.length), some (.int num), x] ∧ 0 ≤ num ∧ num < 2147600000)
      (fun j e h' hj _ => by simp only [itR, if_pos hj]) (fun e h' _ => by simp [itR])
      (fun j e h' hj ⟨zs, num, x, z1, z2, e1, e2, z3, z4⟩ => by
        subst e1 e2
        have ln : Lt2 num 40 := ⟨Nat.lt_of_lt_of_le (show num.natAbs < 2147600000 by omega) (by decide)⟩
        have m1 : mulOk num num = true := mulOk_of ln ln (by decide)
        have m2 : mulOk 48271 num = true := mulOk_of (a := 40) ⟨by decide⟩ ln (by decide)
        have m3 : mulOk 7 (0 + (j : Int)) = true := mulOk_of (a := 40) (b := 40) ⟨by decide⟩ ⟨Nat.lt_of_lt_of_le (show (0 + (j : Int)).natAbs < 4000 by omega) (by decide)⟩ (by decide)
        have p0 : 0 ≤ (num * num + 48271 * num + 7 * (0 + (j : Int)) + 1) % 2147483647 := Int.emod_nonneg _ (by decide)
        have p1 : (num * num + 48271 * num + 7 * (0 + (j : Int)) + 1) % 2147483647 < 2147483647 := Int.emod_lt_of_pos _ (by decide)
        have p2 : 0 ≤ (num * num + 48271 * num + 7 * (0 + (j : Int)) + 1) % 2147483647 / 64 := Int.ediv_nonneg p0 (by decide)
        have ap := g_app_new (h := h) (xs := zs.map D.int) (y := .int ((num * num + 48271 * num + 7 * (0 + (j : Int)) + 1) % 2147483647 / 64)) (by rw [List.length_map, sizeLine_eq]; omega)
        unfold b_l_stream_2
        apply turn_of
        · (repeat' first | with_reducible exact g_v rfl | with_reducible exact g_c | with_reducible exact g_an | with_reducible exact g_add | with_reducible exact g_sub | with_reducible exact g_iadd | with_reducible exact g_lt | with_reducible exact g_le | with_reducible exact g_gt | with_reducible exact g_ge | with_reducible exact g_eq | with_reducible exact g_ne | with_reducible exact g_neg | with_reducible exact g_mul (by first | assumption | omega | decide) | with_reducible exact g_div (by first | assumption | omega | decide) (by first | assumption | omega | decide) | with_reducible exact g_mod (by first | assumption | omega | decide) | with_reducible exact g_pow (by decide) | with_reducible apply g_isint | with_reducible exact g_sk | with_reducible exact g_rn | with_reducible exact g_bk | with_reducible exact g_ct | with_reducible exact g_gn0 | with_reducible apply g_gns | with_reducible exact g_ap0 | with_reducible apply g_apS | with_reducible apply g_op | with_reducible apply g_un | with_reducible apply g_ac | with_reducible apply g_call | with_reducible apply g_calld | with_reducible apply g_bf | with_reducible apply g_sq | with_reducible apply g_kn | with_reducible exact g_kr | with_reducible exact g_kb | with_reducible exact g_kc | with_reducible apply g_as | with_reducible apply g_pr | with_reducible apply g_au rfl | with_reducible apply g_rt | with_reducible apply g_ex | with_reducible apply g_if | with_reducible apply g_tv | with_reducible apply g_tan | with_reducible apply g_tor | with_reducible apply g_tnt | with_reducible apply g_ean | with_reducible apply g_eor | with_reducible apply g_ent | with_reducible apply g_eif | with_reducible apply g_iftt | with_reducible apply g_iffn | with_reducible apply g_ifff | with_reducible apply g_iftn | with_reducible refine g_ift (by first | assumption | omega | decide) ?_ | with_reducible refine g_iff (by first | assumption | omega | decide) ?_ | with_reducible refine g_ifnt (by first | assumption | omega | decide) ?_ | with_reducible refine g_ifnf (by first | assumption | omega | decide) ?_ | with_reducible exact rfl | with_reducible exact g_eqs | with_reducible exact g_nes | with_reducible exact g_neni | with_reducible exact g_nein | with_reducible exact g_nenn | with_reducible exact g_isn | with_reducible exact g_isi | with_reducible exact g_nsn | with_reducible exact g_nsi | with_reducible exact g_max | with_reducible exact g_max3 | with_reducible exact g_min | with_reducible exact g_intb | with_reducible apply g_gt2 | with_reducible apply g_gt3 | with_reducible apply g_tup | with_reducible apply g_lst | with_reducible exact lenOk rfl | with_reducible exact g_on | with_reducible apply g_os | with_reducible apply g_sl | with_reducible apply g_bkm | with_reducible exact g_okS )
        apply body_nx
        · (repeat' first | with_reducible exact g_okL_new | with_reducible exact ap | with_reducible exact g_v rfl | with_reducible exact g_c | with_reducible exact g_an | with_reducible exact g_add | with_reducible exact g_sub | with_reducible exact g_iadd | with_reducible exact g_lt | with_reducible exact g_le | with_reducible exact g_gt | with_reducible exact g_ge | with_reducible exact g_eq | with_reducible exact g_ne | with_reducible exact g_neg | with_reducible exact g_mul (by first | assumption | omega | decide) | with_reducible exact g_div (by first | assumption | omega | decide) (by first | assumption | omega | decide) | with_reducible exact g_mod (by first | assumption | omega | decide) | with_reducible exact g_pow (by decide) | with_reducible apply g_isint | with_reducible exact g_sk | with_reducible exact g_rn | with_reducible exact g_bk | with_reducible exact g_ct | with_reducible exact g_gn0 | with_reducible apply g_gns | with_reducible exact g_ap0 | with_reducible apply g_apS | with_reducible apply g_op | with_reducible apply g_un | with_reducible apply g_ac | with_reducible apply g_call | with_reducible apply g_calld | with_reducible apply g_bf | with_reducible apply g_sq | with_reducible apply g_kn | with_reducible exact g_kr | with_reducible exact g_kb | with_reducible exact g_kc | with_reducible apply g_as | with_reducible apply g_pr | with_reducible apply g_au rfl | with_reducible apply g_rt | with_reducible apply g_ex | with_reducible apply g_if | with_reducible apply g_tv | with_reducible apply g_tan | with_reducible apply g_tor | with_reducible apply g_tnt | with_reducible apply g_ean | with_reducible apply g_eor | with_reducible apply g_ent | with_reducible apply g_eif | with_reducible apply g_iftt | with_reducible apply g_iffn | with_reducible apply g_ifff | with_reducible apply g_iftn | with_reducible refine g_ift (by first | assumption | omega | decide) ?_ | with_reducible refine g_iff (by first | assumption | omega | decide) ?_ | with_reducible refine g_ifnt (by first | assumption | omega | decide) ?_ | with_reducible refine g_ifnf (by first | assumption | omega | decide) ?_ | with_reducible exact rfl | with_reducible exact g_eqs | with_reducible exact g_nes | with_reducible exact g_neni | with_reducible exact g_nein | with_reducible exact g_nenn | with_reducible exact g_isn | with_reducible exact g_isi | with_reducible exact g_nsn | with_reducible exact g_nsi | with_reducible exact g_max | with_reducible exact g_max3 | with_reducible exact g_min | with_reducible exact g_intb | with_reducible apply g_gt2 | with_reducible apply g_gt3 | with_reducible apply g_tup | with_reducible apply g_lst | with_reducible exact lenOk rfl | with_reducible exact g_on | with_reducible apply g_os | with_reducible apply g_sl | with_reducible apply g_bkm | with_reducible exact g_okS )
        · exact ⟨zs ++ [(num * num + 48271 * num + 7 * (0 + (j : Int)) + 1) % 2147483647 / 64], (num * num + 48271 * num + 7 * (0 + (j : Int)) + 1) % 2147483647, _, by rw [List.length_append, z1]; rfl, nn z2 p2, by rw [List.map_append]; rfl, rfl, p0, by omega⟩)
      many.toNat 0 [some (.int cell), some (.int many), some (.ref h.length), some (.int (cell % 2147483647 + 48271)), none] (h ++ [.lst []]) (by omega) ⟨[], _, _, rfl, fun z hz => (by cases hz), rfl, rfl, by omega, by omega⟩ C.fuel (by omega)
    obtain ⟨zs, num, x, z1, z2, rfl, rfl, _⟩ := hv
    have F := fo_of (g := gN 4) (hi [some (.int cell), some (.int many), some (.ref h.length), some (.int (cell % 2147483647 + 48271)), none] rfl _) hfor
    refine ⟨zs, z1, z2, ?_⟩
    refine run_rt rfl (by simp only [List.map_cons, List.map_nil, List.length_cons, List.length_nil, List.cons_append, List.nil_append, Nat.reduceAdd, Nat.reduceSub, List.replicate_succ, List.replicate_zero]; exact rfl) ?_
    (repeat' first | with_reducible exact F | with_reducible exact g_v rfl | with_reducible exact g_c | with_reducible exact g_an | with_reducible exact g_add | with_reducible exact g_sub | with_reducible exact g_iadd | with_reducible exact g_lt | with_reducible exact g_le | with_reducible exact g_gt | with_reducible exact g_ge | with_reducible exact g_eq | with_reducible exact g_ne | with_reducible exact g_neg | with_reducible exact g_mul (by first | assumption | omega | decide) | with_reducible exact g_div (by first | assumption | omega | decide) (by first | assumption | omega | decide) | with_reducible exact g_mod (by first | assumption | omega | decide) | with_reducible exact g_pow (by decide) | with_reducible apply g_isint | with_reducible exact g_sk | with_reducible exact g_rn | with_reducible exact g_bk | with_reducible exact g_ct | with_reducible exact g_gn0 | with_reducible apply g_gns | with_reducible exact g_ap0 | with_reducible apply g_apS | with_reducible apply g_op | with_reducible apply g_un | with_reducible apply g_ac | with_reducible apply g_call | with_reducible apply g_calld | with_reducible apply g_bf | with_reducible apply g_sq | with_reducible apply g_kn | with_reducible exact g_kr | with_reducible exact g_kb | with_reducible exact g_kc | with_reducible apply g_as | with_reducible apply g_pr | with_reducible apply g_au rfl | with_reducible apply g_rt | with_reducible apply g_ex | with_reducible apply g_if | with_reducible apply g_tv | with_reducible apply g_tan | with_reducible apply g_tor | with_reducible apply g_tnt | with_reducible apply g_ean | with_reducible apply g_eor | with_reducible apply g_ent | with_reducible apply g_eif | with_reducible apply g_iftt | with_reducible apply g_iffn | with_reducible apply g_ifff | with_reducible apply g_iftn | with_reducible refine g_ift (by first | assumption | omega | decide) ?_ | with_reducible refine g_iff (by first | assumption | omega | decide) ?_ | with_reducible refine g_ifnt (by first | assumption | omega | decide) ?_ | with_reducible refine g_ifnf (by first | assumption | omega | decide) ?_ | with_reducible exact rfl | with_reducible exact g_eqs | with_reducible exact g_nes | with_reducible exact g_neni | with_reducible exact g_nein | with_reducible exact g_nenn | with_reducible exact g_isn | with_reducible exact g_isi | with_reducible exact g_nsn | with_reducible exact g_nsi | with_reducible exact g_max | with_reducible exact g_max3 | with_reducible exact g_min | with_reducible exact g_intb | with_reducible apply g_gt2 | with_reducible apply g_gt3 | with_reducible apply g_tup | with_reducible apply g_lst | with_reducible exact lenOk rfl | with_reducible exact g_on | with_reducible apply g_os | with_reducible apply g_sl | with_reducible apply g_bkm | with_reducible exact g_okS )
/-! texts -/
def ch (z : Str) (i : Int) : Str := ⟨#[z.cps.toList.getD i.toNat 0]⟩
theorem len_cps (z : Str) : z.cps.toList.length = z.length := Array.length_toList
theorem g_ixs {z : Str} {i : Int} {h : HP} (l : z.length ≤ 1000000) (h0 : 0 ≤ i) (h1 : i < z.length) : opIx (.str z) (.int i) h = .ok (.str (ch z i)) h := by
  have e1 : atI z.cps.toList i = some (z.cps.toList.getD i.toNat 0) := by
    have q : ixN z.cps.toList.length i = some i.toNat := by
      unfold ixN
      rw [len_cps, if_pos h0, if_pos h1]
    unfold atI
    rw [q]
    show z.cps.toList[i.toNat]? = _
    rw [List.getD_eq_getElem?_getD, List.getElem?_eq_getElem (by rw [len_cps]; omega)]
    rfl
  have l2 : z.length ≤ sizeLine := by rw [sizeLine_eq]; omega
  simp only [opIx, if_pos l2, e1, ch]
theorem ch_len (z : Str) (i : Int) : (ch z i).length = 1 := rfl
theorem g_lenS {z : Str} {h : HP} (l : z.length ≤ 1000000) : bLen [.str z] h = .ok (.int z.length) h := by
  have l2 : z.length ≤ sizeLine := by rw [sizeLine_eq]; omega
  simp only [bLen, if_pos l2]
theorem g_slS {z : Str} {a b : Option Int} {h : HP} (l : z.length ≤ 1000000) : opSl (.str z) a b h = .ok (.str (cutS z a b)) h := by
  have l2 : z.length ≤ sizeLine := by rw [sizeLine_eq]; omega
  simp only [opSl, if_pos l2]
theorem cutS_len (z : Str) (a b : Option Int) : (cutS z a b).length ≤ z.length := by
  unfold cutS
  show (List.toArray _).size ≤ _
  rw [List.size_toArray, List.length_take, List.length_drop, len_cps]
  omega
theorem app_len (a b : Str) : (a ++ b).length = a.length + b.length := by
  show (a.cps ++ b.cps).size = _
  rw [Array.size_append]; rfl
theorem g_addS {a b : Str} {h : HP} (l : a.length + b.length ≤ 1000000) : opAdd (.str a) (.str b) h = .ok (.str (a ++ b)) h := by
  have l2 : a.length + b.length ≤ sizeLine := by rw [sizeLine_eq]; omega
  simp only [opAdd, if_pos l2]
theorem join_len (glue : Str) : ∀ (ys : List Str) (a : Array Nat), (ys.foldl (fun acc p => acc ++ glue.cps ++ p.cps) a).size = a.size + (ys.map (·.length)).sum + ys.length * glue.length
  | [], a => by simp
  | y :: ys, a => by
    rw [List.foldl_cons, join_len glue ys, Array.size_append, Array.size_append, List.map_cons, List.sum_cons, List.length_cons, Nat.add_mul]
    show a.size + glue.length + y.length + _ + _ = _
    omega
theorem txtjoin_len (glue : Str) (ys : List Str) : (Txt.join glue ys).length ≤ (ys.map (·.length)).sum + ys.length * glue.length := by
  show (Array.size _) ≤ _
  cases ys with
  | nil => exact Nat.zero_le _
  | cons y ys =>
    show ((List.foldl (fun acc p => acc ++ glue.cps ++ p.cps) y.cps ys)).size ≤ _
    rw [join_len, List.map_cons, List.sum_cons, List.length_cons, Nat.add_mul]
    show y.length + _ + _ ≤ _
    omega
theorem g_join {a : Str} {i : Nat} {ys : List Str} {h : HP} (k : isL i h = some (ys.map D.str)) (l : (ys.map (·.length)).sum + ys.length * a.length ≤ 16777216) : mJoin (.str a) [.ref i] h = .ok (.str (Txt.join a ys)) h := by
  unfold mJoin; simp only [k, strsD_strs, if_pos l]
theorem g_nin1 {c : Nat} {z : Str} {h : HP} : opNin (.str ⟨#[c]⟩) (.str z) h = .ok (.bl (!decide (c ∈ z.cps.toList))) h := rfl
/-- for sign in text: goes on where p, ends with d else -/
theorem for_text {t : Str} {E : Option D → Ev} {g : Tg} {b : MS} {C : Ctx} {h : HP} {d : D} (p : Nat → Bool) (hg : ∀ x y, g (E x) y = some (E (some y)))
    (hb : ∀ c, b C (E (some (.str ⟨#[c]⟩))) h = if p c = true then .ok (.nx (E (some (.str ⟨#[c]⟩)))) h else .ok (.rt d) h) :
    ∀ (m j : Nat) (x : Option D), j + m = t.length → ∀ fuel, m < fuel → (if (t.cps.toList.drop j).all p = true then ∃ y, forN (itS t) g b fuel j C (E x) h = .ok (.nx (E y)) h else forN (itS t) g b fuel j C (E x) h = .ok (.rt d) h)
  | 0, j, x, hj, fuel, hf => by
    obtain ⟨f, rfl⟩ : ∃ f, fuel = f + 1 := ⟨fuel - 1, by omega⟩
    have e1 : t.cps.toList.drop j = [] := List.drop_eq_nil_of_le (by rw [len_cps]; omega)
    have e2 : t.cps[j]? = none := Array.getElem?_eq_none (by show t.length ≤ j; omega)
    rw [e1]
    refine ⟨x, ?_⟩
    simp only [forN, itS, e2, Option.map_none]
  | m + 1, j, x, hj, fuel, hf => by
    obtain ⟨f, rfl⟩ : ∃ f, fuel = f + 1 := ⟨fuel - 1, by omega⟩
    have hl : j < t.cps.toList.length := by rw [len_cps]; omega
    have e2 : t.cps[j]? = some (t.cps.toList[j]) := by rw [← Array.getElem?_toList, List.getElem?_eq_getElem hl]
    have e1 : t.cps.toList.drop j = t.cps.toList[j] :: t.cps.toList.drop (j + 1) := List.drop_eq_getElem_cons hl
    rw [e1, List.all_cons]
    generalize t.cps.toList[j] = c at *
    have ih := for_text (t := t) (d := d) p hg hb m (j + 1) (some (.str ⟨#[c]⟩)) (by omega) f (by omega)
    have hbc := hb c
    simp only [forN, itS, e2, Option.map_some, hg]
    by_cases hp : p c = true
    · rw [if_pos hp] at hbc
      simp only [hbc, R.bind_ok, hp, Bool.true_and]
      exact ih
    · rw [if_neg hp] at hbc
      simp [hbc, hp]
abbrev digitsVal (cs : List Nat) : Nat := NumText.digitsVal cs
abbrev DIG : Str := "0123456789"
abbrev LET : Str := "abcdefghijklmnopqrstuvwxyz"
def isW (t : Str) : Bool := decide (1 ≤ t.length) && decide (t.length ≤ 8) && t.cps.toList.all (fun c => decide (c ∈ LET.cps.toList))
theorem is_word_run (C : Ctx) (h : HP) {t : Str} (ht : t.length ≤ 300) (hf : 1000 < C.fuel) : runFn C f_is_word [.str t] h = .ok (.bl (isW t)) h := by
  have ln := g_lenS (z := t) (h := h) (by omega)
  have L := for_text (t := t) (E := fun x => [some (.str t), x]) (g := gN 1) (b := b_is_word_1) (C := C) (h := h) (d := .bl false) (fun c => decide (c ∈ LET.cps.toList)) (fun x y => rfl)
    (fun c => by
      by_cases q : c ∈ LET.cps.toList
      · rw [if_pos (by simpa using q)]
        unfold b_is_word_1
        (repeat' first | with_reducible exact g_nin1 | with_reducible exact g_v rfl | with_reducible exact g_c | with_reducible exact g_an | with_reducible exact g_add | with_reducible exact g_sub | with_reducible exact g_iadd | with_reducible exact g_lt | with_reducible exact g_le | with_reducible exact g_gt | with_reducible exact g_ge | with_reducible exact g_eq | with_reducible exact g_ne | with_reducible exact g_neg | with_reducible exact g_mul (by first | assumption | omega | decide) | with_reducible exact g_div (by first | assumption | omega | decide) (by first | assumption | omega | decide) | with_reducible exact g_mod (by first | assumption | omega | decide) | with_reducible exact g_pow (by decide) | with_reducible apply g_isint | with_reducible exact g_sk | with_reducible exact g_rn | with_reducible exact g_bk | with_reducible exact g_ct | with_reducible exact g_gn0 | with_reducible apply g_gns | with_reducible exact g_ap0 | with_reducible apply g_apS | with_reducible apply g_op | with_reducible apply g_un | with_reducible apply g_ac | with_reducible apply g_call | with_reducible apply g_calld | with_reducible apply g_bf | with_reducible apply g_sq | with_reducible apply g_kn | with_reducible exact g_kr | with_reducible exact g_kb | with_reducible exact g_kc | with_reducible apply g_as | with_reducible apply g_pr | with_reducible apply g_au rfl | with_reducible apply g_rt | with_reducible apply g_ex | with_reducible apply g_if | with_reducible apply g_tv | with_reducible apply g_tan | with_reducible apply g_tor | with_reducible apply g_tnt | with_reducible apply g_ean | with_reducible apply g_eor | with_reducible apply g_ent | with_reducible apply g_eif | with_reducible apply g_iftt | with_reducible apply g_iffn | with_reducible apply g_ifff | with_reducible apply g_iftn | with_reducible refine g_ift (by first | assumption | omega | decide) ?_ | with_reducible refine g_iff (by first | assumption | omega | decide) ?_ | with_reducible refine g_ifnt (by first | assumption | omega | decide) ?_ | with_reducible refine g_ifnf (by first | assumption | omega | decide) ?_ | with_reducible exact rfl | with_reducible exact g_eqs | with_reducible exact g_nes | with_reducible exact g_neni | with_reducible exact g_nein | with_reducible exact g_nenn | with_reducible exact g_isn | with_reducible exact g_isi | with_reducible exact g_nsn | with_reducible exact g_nsi | with_reducible exact g_max | with_reducible exact g_max3 | with_reducible exact g_min | with_reducible exact g_intb | with_reducible apply g_gt2 | with_reducible apply g_gt3 | with_reducible apply g_tup | with_reducible apply g_lst | with_reducible exact lenOk rfl | with_reducible exact g_on | with_reducible apply g_os | with_reducible apply g_sl | with_reducible apply g_bkm | with_reducible exact g_okS )
      · rw [if_neg (by simpa using q)]
        unfold b_is_word_1
        (repeat' first | with_reducible exact g_nin1 | with_reducible exact g_v rfl | with_reducible exact g_c | with_reducible exact g_an | with_reducible exact g_add | with_reducible exact g_sub | with_reducible exact g_iadd | with_reducible exact g_lt | with_reducible exact g_le | with_reducible exact g_gt | with_reducible exact g_ge | with_reducible exact g_eq | with_reducible exact g_ne | with_reducible exact g_neg | with_reducible exact g_mul (by first | assumption | omega | decide) | with_reducible exact g_div (by first | assumption | omega | decide) (by first | assumption | omega | decide) | with_reducible exact g_mod (by first | assumption | omega | decide) | with_reducible exact g_pow (by decide) | with_reducible apply g_isint | with_reducible exact g_sk | with_reducible exact g_rn | with_reducible exact g_bk | with_reducible exact g_ct | with_reducible exact g_gn0 | with_reducible apply g_gns | with_reducible exact g_ap0 | with_reducible apply g_apS | with_reducible apply g_op | with_reducible apply g_un | with_reducible apply g_ac | with_reducible apply g_call | with_reducible apply g_calld | with_reducible apply g_bf | with_reducible apply g_sq | with_reducible apply g_kn | with_reducible exact g_kr | with_reducible exact g_kb | with_reducible exact g_kc | with_reducible apply g_as | with_reducible apply g_pr | with_reducible apply g_au rfl | with_reducible apply g_rt | with_reducible apply g_ex | with_reducible apply g_if | with_reducible apply g_tv | with_reducible apply g_tan | with_reducible apply g_tor | with_reducible apply g_tnt | with_reducible apply g_ean | with_reducible apply g_eor | with_reducible apply g_ent | with_reducible apply g_eif | with_reducible apply g_iftt | with_reducible apply g_iffn | with_reducible apply g_ifff | with_reducible apply g_iftn | with_reducible refine g_ift (by first | assumption | omega | decide) ?_ | with_reducible refine g_iff (by first | assumption | omega | decide) ?_ | with_reducible refine g_ifnt (by first | assumption | omega | decide) ?_ | with_reducible refine g_ifnf (by first | assumption | omega | decide) ?_ | with_reducible exact rfl | with_reducible exact g_eqs | with_reducible exact g_nes | with_reducible exact g_neni | with_reducible exact g_nein | with_reducible exact g_nenn | with_reducible exact g_isn | with_reducible exact g_isi | with_reducible exact g_nsn | with_reducible exact g_nsi | with_reducible exact g_max | with_reducible exact g_max3 | with_reducible exact g_min | with_reducible exact g_intb | with_reducible apply g_gt2 | with_reducible apply g_gt3 | with_reducible apply g_tup | with_reducible apply g_lst | with_reducible exact lenOk rfl | with_reducible exact g_on | with_reducible apply g_os | with_reducible apply g_sl | with_reducible apply g_bkm | with_reducible exact g_okS ))
    t.length 0 none (by omega) C.fuel (by omega)
  rw [List.drop_zero] at L
  have hi : iA (eV 0) C [some (.str t), none] h = .ok (itS t) h := rfl
  unfold isW
  by_cases h1 : t.length < 1
  · rw [decide_eq_false (by omega : ¬ 1 ≤ t.length), Bool.false_and, Bool.false_and]
    refine run_rt rfl (by simp only [List.map_cons, List.map_nil, List.length_cons, List.length_nil, List.cons_append, List.nil_append, Nat.reduceAdd, Nat.reduceSub, List.replicate_succ, List.replicate_zero]; exact rfl) ?_
    (repeat' first | with_reducible exact ln | with_reducible exact g_v rfl | with_reducible exact g_c | with_reducible exact g_an | with_reducible exact g_add | with_reducible exact g_sub | with_reducible exact g_iadd | with_reducible exact g_lt | with_reducible exact g_le | with_reducible exact g_gt | with_reducible exact g_ge | with_reducible exact g_eq | with_reducible exact g_ne | with_reducible exact g_neg | with_reducible exact g_mul (by first | assumption | omega | decide) | with_reducible exact g_div (by first | assumption | omega | decide) (by first | assumption | omega | decide) | with_reducible exact g_mod (by first | assumption | omega | decide) | with_reducible exact g_pow (by decide) | with_reducible apply g_isint | with_reducible exact g_sk | with_reducible exact g_rn | with_reducible exact g_bk | with_reducible exact g_ct | with_reducible exact g_gn0 | with_reducible apply g_gns | with_reducible exact g_ap0 | with_reducible apply g_apS | with_reducible apply g_op | with_reducible apply g_un | with_reducible apply g_ac | with_reducible apply g_call | with_reducible apply g_calld | with_reducible apply g_bf | with_reducible apply g_sq | with_reducible apply g_kn | with_reducible exact g_kr | with_reducible exact g_kb | with_reducible exact g_kc | with_reducible apply g_as | with_reducible apply g_pr | with_reducible apply g_au rfl | with_reducible apply g_rt | with_reducible apply g_ex | with_reducible apply g_if | with_reducible apply g_tv | with_reducible apply g_tan | with_reducible apply g_tor | with_reducible apply g_tnt | with_reducible apply g_ean | with_reducible apply g_eor | with_reducible apply g_ent | with_reducible apply g_eif | with_reducible apply g_iftt | with_reducible apply g_iffn | with_reducible apply g_ifff | with_reducible apply g_iftn | with_reducible refine g_ift (by first | assumption | omega | decide) ?_ | with_reducible refine g_iff (by first | assumption | omega | decide) ?_ | with_reducible refine g_ifnt (by first | assumption | omega | decide) ?_ | with_reducible refine g_ifnf (by first | assumption | omega | decide) ?_ | with_reducible exact rfl | with_reducible exact g_eqs | with_reducible exact g_nes | with_reducible exact g_neni | with_reducible exact g_nein | with_reducible exact g_nenn | with_reducible exact g_isn | with_reducible exact g_isi | with_reducible exact g_nsn | with_reducible exact g_nsi | with_reducible exact g_max | with_reducible exact g_max3 | with_reducible exact g_min | with_reducible exact g_intb | with_reducible apply g_gt2 | with_reducible apply g_gt3 | with_reducible apply g_tup | with_reducible apply g_lst | with_reducible exact lenOk rfl | with_reducible exact g_on | with_reducible apply g_os | with_reducible apply g_sl | with_reducible apply g_bkm | with_reducible exact g_okS )
  · rw [decide_eq_true (by omega : 1 ≤ t.length), Bool.true_and]
    by_cases h2 : 8 < t.length
    · rw [decide_eq_false (by omega : ¬ t.length ≤ 8), Bool.false_and]
      refine run_rt rfl (by simp only [List.map_cons, List.map_nil, List.length_cons, List.length_nil, List.cons_append, List.nil_append, Nat.reduceAdd, Nat.reduceSub, List.replicate_succ, List.replicate_zero]; exact rfl) ?_
      (repeat' first | with_reducible exact ln | with_reducible exact g_v rfl | with_reducible exact g_c | with_reducible exact g_an | with_reducible exact g_add | with_reducible exact g_sub | with_reducible exact g_iadd | with_reducible exact g_lt | with_reducible exact g_le | with_reducible exact g_gt | with_reducible exact g_ge | with_reducible exact g_eq | with_reducible exact g_ne | with_reducible exact g_neg | with_reducible exact g_mul (by first | assumption | omega | decide) | with_reducible exact g_div (by first | assumption | omega | decide) (by first | assumption | omega | decide) | with_reducible exact g_mod (by first | assumption | omega | decide) | with_reducible exact g_pow (by decide) | with_reducible apply g_isint | with_reducible exact g_sk | with_reducible exact g_rn | with_reducible exact g_bk | with_reducible exact g_ct | with_reducible exact g_gn0 | with_reducible apply g_gns | with_reducible exact g_ap0 | with_reducible apply g_apS | with_reducible apply g_op | with_reducible apply g_un | with_reducible apply g_ac | with_reducible apply g_call | with_reducible apply g_calld | with_reducible apply g_bf | with_reducible apply g_sq | with_reducible apply g_kn | with_reducible exact g_kr | with_reducible exact g_kb | with_reducible exact g_kc | with_reducible apply g_as | with_reducible apply g_pr | with_reducible apply g_au rfl | with_reducible apply g_rt | with_reducible apply g_ex | with_reducible apply g_if | with_reducible apply g_tv | with_reducible apply g_tan | with_reducible apply g_tor | with_reducible apply g_tnt | with_reducible apply g_ean | with_reducible apply g_eor | with_reducible apply g_ent | with_reducible apply g_eif | with_reducible apply g_iftt | with_reducible apply g_iffn | with_reducible apply g_ifff | with_reducible apply g_iftn | with_reducible refine g_ift (by first | assumption | omega | decide) ?_ | with_reducible refine g_iff (by first | assumption | omega | decide) ?_ | with_reducible refine g_ifnt (by first | assumption | omega | decide) ?_ | with_reducible refine g_ifnf (by first | assumption | omega | decide) ?_ | with_reducible exact rfl | with_reducible exact g_eqs | with_reducible exact g_nes | with_reducible exact g_neni | with_reducible exact g_nein | with_reducible exact g_nenn | with_reducible exact g_isn | with_reducible exact g_isi | with_reducible exact g_nsn | with_reducible exact g_nsi | with_reducible exact g_max | with_reducible exact g_max3 | with_reducible exact g_min | with_reducible exact g_intb | with_reducible apply g_gt2 | with_reducible apply g_gt3 | with_reducible apply g_tup | with_reducible apply g_lst | with_reducible exact lenOk rfl | with_reducible exact g_on | with_reducible apply g_os | with_reducible apply g_sl | with_reducible apply g_bkm | with_reducible exact g_okS )
    · rw [decide_eq_true (by omega : t.length ≤ 8), Bool.true_and]
      by_cases q : (t.cps.toList.all fun c => decide (c ∈ LET.cps.toList)) = true
      · rw [if_pos q] at L
        obtain ⟨y, L⟩ := L
        have F := fo_of hi L
        rw [q]
        refine run_rt rfl (by simp only [List.map_cons, List.map_nil, List.length_cons, List.length_nil, List.cons_append, List.nil_append, Nat.reduceAdd, Nat.reduceSub, List.replicate_succ, List.replicate_zero]; exact rfl) ?_
        (repeat' first | with_reducible exact ln | with_reducible exact F | with_reducible exact g_v rfl | with_reducible exact g_c | with_reducible exact g_an | with_reducible exact g_add | with_reducible exact g_sub | with_reducible exact g_iadd | with_reducible exact g_lt | with_reducible exact g_le | with_reducible exact g_gt | with_reducible exact g_ge | with_reducible exact g_eq | with_reducible exact g_ne | with_reducible exact g_neg | with_reducible exact g_mul (by first | assumption | omega | decide) | with_reducible exact g_div (by first | assumption | omega | decide) (by first | assumption | omega | decide) | with_reducible exact g_mod (by first | assumption | omega | decide) | with_reducible exact g_pow (by decide) | with_reducible apply g_isint | with_reducible exact g_sk | with_reducible exact g_rn | with_reducible exact g_bk | with_reducible exact g_ct | with_reducible exact g_gn0 | with_reducible apply g_gns | with_reducible exact g_ap0 | with_reducible apply g_apS | with_reducible apply g_op | with_reducible apply g_un | with_reducible apply g_ac | with_reducible apply g_call | with_reducible apply g_calld | with_reducible apply g_bf | with_reducible apply g_sq | with_reducible apply g_kn | with_reducible exact g_kr | with_reducible exact g_kb | with_reducible exact g_kc | with_reducible apply g_as | with_reducible apply g_pr | with_reducible apply g_au rfl | with_reducible apply g_rt | with_reducible apply g_ex | with_reducible apply g_if | with_reducible apply g_tv | with_reducible apply g_tan | with_reducible apply g_tor | with_reducible apply g_tnt | with_reducible apply g_ean | with_reducible apply g_eor | with_reducible apply g_ent | with_reducible apply g_eif | with_reducible apply g_iftt | with_reducible apply g_iffn | with_reducible apply g_ifff | with_reducible apply g_iftn | with_reducible refine g_ift (by first | assumption | omega | decide) ?_ | with_reducible refine g_iff (by first | assumption | omega | decide) ?_ | with_reducible refine g_ifnt (by first | assumption | omega | decide) ?_ | with_reducible refine g_ifnf (by first | assumption | omega | decide) ?_ | with_reducible exact rfl | with_reducible exact g_eqs | with_reducible exact g_nes | with_reducible exact g_neni | with_reducible exact g_nein | with_reducible exact g_nenn | with_reducible exact g_isn | with_reducible exact g_isi | with_reducible exact g_nsn | with_reducible exact g_nsi | with_reducible exact g_max | with_reducible exact g_max3 | with_reducible exact g_min | with_reducible exact g_intb | with_reducible apply g_gt2 | with_reducible apply g_gt3 | with_reducible apply g_tup | with_reducible apply g_lst | with_reducible exact lenOk rfl | with_reducible exact g_on | with_reducible apply g_os | with_reducible apply g_sl | with_reducible apply g_bkm | with_reducible exact g_okS )
      · rw [if_neg q] at L
        have F := fo_of hi L
        rw [Bool.eq_false_iff.mpr q]
        refine run_rt rfl (by simp only [List.map_cons, List.map_nil, List.length_cons, List.length_nil, List.cons_append, List.nil_append, Nat.reduceAdd, Nat.reduceSub, List.replicate_succ, List.replicate_zero]; exact rfl) ?_
        (repeat' first | with_reducible exact ln | with_reducible exact F | with_reducible exact g_v rfl | with_reducible exact g_c | with_reducible exact g_an | with_reducible exact g_add | with_reducible exact g_sub | with_reducible exact g_iadd | with_reducible exact g_lt | with_reducible exact g_le | with_reducible exact g_gt | with_reducible exact g_ge | with_reducible exact g_eq | with_reducible exact g_ne | with_reducible exact g_neg | with_reducible exact g_mul (by first | assumption | omega | decide) | with_reducible exact g_div (by first | assumption | omega | decide) (by first | assumption | omega | decide) | with_reducible exact g_mod (by first | assumption | omega | decide) | with_reducible exact g_pow (by decide) | with_reducible apply g_isint | with_reducible exact g_sk | with_reducible exact g_rn | with_reducible exact g_bk | with_reducible exact g_ct | with_reducible exact g_gn0 | with_reducible apply g_gns | with_reducible exact g_ap0 | with_reducible apply g_apS | with_reducible apply g_op | with_reducible apply g_un | with_reducible apply g_ac | with_reducible apply g_call | with_reducible apply g_calld | with_reducible apply g_bf | with_reducible apply g_sq | with_reducible apply g_kn | with_reducible exact g_kr | with_reducible exact g_kb | with_reducible exact g_kc | with_reducible apply g_as | with_reducible apply g_pr | with_reducible apply g_au rfl | with_reducible apply g_rt | with_reducible apply g_ex | with_reducible apply g_if | with_reducible apply g_tv | with_reducible apply g_tan | with_reducible apply g_tor | with_reducible apply g_tnt | with_reducible apply g_ean | with_reducible apply g_eor | with_reducible apply g_ent | with_reducible apply g_eif | with_reducible apply g_iftt | with_reducible apply g_iffn | with_reducible apply g_ifff | with_reducible apply g_iftn | with_reducible refine g_ift (by first | assumption | omega | decide) ?_ | with_reducible refine g_iff (by first | assumption | omega | decide) ?_ | with_reducible refine g_ifnt (by first | assumption | omega | decide) ?_ | with_reducible refine g_ifnf (by first | assumption | omega | decide) ?_ | with_reducible exact rfl | with_reducible exact g_eqs | with_reducible exact g_nes | with_reducible exact g_neni | with_reducible exact g_nein | with_reducible exact g_nenn | with_reducible exact g_isn | with_reducible exact g_isi | with_reducible exact g_nsn | with_reducible exact g_nsi | with_reducible exact g_max | with_reducible exact g_max3 | with_reducible exact g_min | with_reducible exact g_intb | with_reducible apply g_gt2 | with_reducible apply g_gt3 | with_reducible apply g_tup | with_reducible apply g_lst | with_reducible exact lenOk rfl | with_reducible exact g_on | with_reducible apply g_os | with_reducible apply g_sl | with_reducible apply g_bkm | with_reducible exact g_okS )
theorem g_chn {op op2 : D → D → HP → R D} {a b c : ME} {C : Ctx} {e : Ev} {h h1 h2 h3 : HP} {x y : D} {k : Bool} {r : R D} (ha : a C e h = .ok x h1) (hb : b C e h1 = .ok y h2) (ho : op x y h2 = .ok (.bl k) h3)
    (hr : (if k = true then (c C e h3).bind fun w h => op2 y w h else .ok (.bl false) h3) = r) : eChn op op2 a b c C e h = r := by
  unfold eChn; rw [ha]; simp only [R.bind_ok]; rw [hb]; simp only [R.bind_ok]; rw [ho]; exact hr
theorem l_is_word_run (C : Ctx) (h : HP) {t : Str} (ht : t.length ≤ 300) (hf : 1000 < C.fuel) : runFn C f_l_is_word [.str t] h = .ok (.bl (isW t)) h := by
  have ln := g_lenS (z := t) (h := h) (by omega)
  have L := for_text (t := t) (E := fun x => [some (.str t), x]) (g := gN 1) (b := b_l_is_word_1) (C := C) (h := h) (d := .bl false) (fun c => decide (c ∈ LET.cps.toList)) (fun x y => rfl)
    (fun c => by
      by_cases q : c ∈ LET.cps.toList
      · rw [if_pos (by simpa using q)]
        unfold b_l_is_word_1
        (repeat' first | with_reducible exact g_nin1 | with_reducible exact g_v rfl | with_reducible exact g_c | with_reducible exact g_an | with_reducible exact g_add | with_reducible exact g_sub | with_reducible exact g_iadd | with_reducible exact g_lt | with_reducible exact g_le | with_reducible exact g_gt | with_reducible exact g_ge | with_reducible exact g_eq | with_reducible exact g_ne | with_reducible exact g_neg | with_reducible exact g_mul (by first | assumption | omega | decide) | with_reducible exact g_div (by first | assumption | omega | decide) (by first | assumption | omega | decide) | with_reducible exact g_mod (by first | assumption | omega | decide) | with_reducible exact g_pow (by decide) | with_reducible apply g_isint | with_reducible exact g_sk | with_reducible exact g_rn | with_reducible exact g_bk | with_reducible exact g_ct | with_reducible exact g_gn0 | with_reducible apply g_gns | with_reducible exact g_ap0 | with_reducible apply g_apS | with_reducible apply g_op | with_reducible apply g_un | with_reducible apply g_ac | with_reducible apply g_call | with_reducible apply g_calld | with_reducible apply g_bf | with_reducible apply g_sq | with_reducible apply g_kn | with_reducible exact g_kr | with_reducible exact g_kb | with_reducible exact g_kc | with_reducible apply g_as | with_reducible apply g_pr | with_reducible apply g_au rfl | with_reducible apply g_rt | with_reducible apply g_ex | with_reducible apply g_if | with_reducible apply g_tv | with_reducible apply g_tan | with_reducible apply g_tor | with_reducible apply g_tnt | with_reducible apply g_ean | with_reducible apply g_eor | with_reducible apply g_ent | with_reducible apply g_eif | with_reducible apply g_iftt | with_reducible apply g_iffn | with_reducible apply g_ifff | with_reducible apply g_iftn | with_reducible refine g_ift (by first | assumption | omega | decide) ?_ | with_reducible refine g_iff (by first | assumption | omega | decide) ?_ | with_reducible refine g_ifnt (by first | assumption | omega | decide) ?_ | with_reducible refine g_ifnf (by first | assumption | omega | decide) ?_ | with_reducible exact rfl | with_reducible exact g_eqs | with_reducible exact g_nes | with_reducible exact g_neni | with_reducible exact g_nein | with_reducible exact g_nenn | with_reducible exact g_isn | with_reducible exact g_isi | with_reducible exact g_nsn | with_reducible exact g_nsi | with_reducible exact g_max | with_reducible exact g_max3 | with_reducible exact g_min | with_reducible exact g_intb | with_reducible apply g_gt2 | with_reducible apply g_gt3 | with_reducible apply g_tup | with_reducible apply g_lst | with_reducible exact lenOk rfl | with_reducible exact g_on | with_reducible apply g_os | with_reducible apply g_sl | with_reducible apply g_bkm | with_reducible exact g_okS )
      · rw [if_neg (by simpa using q)]
        unfold b_l_is_word_1
        (repeat' first | with_reducible exact g_nin1 | with_reducible exact g_v rfl | with_reducible exact g_c | with_reducible exact g_an | with_reducible exact g_add | with_reducible exact g_sub | with_reducible exact g_iadd | with_reducible exact g_lt | with_reducible exact g_le | with_reducible exact g_gt | with_reducible exact g_ge | with_reducible exact g_eq | with_reducible exact g_ne | with_reducible exact g_neg | with_reducible exact g_mul (by first | assumption | omega | decide) | with_reducible exact g_div (by first | assumption | omega | decide) (by first | assumption | omega | decide) | with_reducible exact g_mod (by first | assumption | omega | decide) | with_reducible exact g_pow (by decide) | with_reducible apply g_isint | with_reducible exact g_sk | with_reducible exact g_rn | with_reducible exact g_bk | with_reducible exact g_ct | with_reducible exact g_gn0 | with_reducible apply g_gns | with_reducible exact g_ap0 | with_reducible apply g_apS | with_reducible apply g_op | with_reducible apply g_un | with_reducible apply g_ac | with_reducible apply g_call | with_reducible apply g_calld | with_reducible apply g_bf | with_reducible apply g_sq | with_reducible apply g_kn | with_reducible exact g_kr | with_reducible exact g_kb | with_reducible exact g_kc | with_reducible apply g_as | with_reducible apply g_pr | with_reducible apply g_au rfl | with_reducible apply g_rt | with_reducible apply g_ex | with_reducible apply g_if | with_reducible apply g_tv | with_reducible apply g_tan | with_reducible apply g_tor | with_reducible apply g_tnt | with_reducible apply g_ean | with_reducible apply g_eor | with_reducible apply g_ent | with_reducible apply g_eif | with_reducible apply g_iftt | with_reducible apply g_iffn | with_reducible apply g_ifff | with_reducible apply g_iftn | with_reducible refine g_ift (by first | assumption | omega | decide) ?_ | with_reducible refine g_iff (by first | assumption | omega | decide) ?_ | with_reducible refine g_ifnt (by first | assumption | omega | decide) ?_ | with_reducible refine g_ifnf (by first | assumption | omega | decide) ?_ | with_reducible exact rfl | with_reducible exact g_eqs | with_reducible exact g_nes | with_reducible exact g_neni | with_reducible exact g_nein | with_reducible exact g_nenn | with_reducible exact g_isn | with_reducible exact g_isi | with_reducible exact g_nsn | with_reducible exact g_nsi | with_reducible exact g_max | with_reducible exact g_max3 | with_reducible exact g_min | with_reducible exact g_intb | with_reducible apply g_gt2 | with_reducible apply g_gt3 | with_reducible apply g_tup | with_reducible apply g_lst | with_reducible exact lenOk rfl | with_reducible exact g_on | with_reducible apply g_os | with_reducible apply g_sl | with_reducible apply g_bkm | with_reducible exact g_okS ))
    t.length 0 none (by omega) C.fuel (by omega)
  rw [List.drop_zero] at L
  have hi : iA (eV 0) C [some (.str t), none] h = .ok (itS t) h := rfl
  unfold isW
  by_cases q : (t.cps.toList.all fun c => decide (c ∈ LET.cps.toList)) = true
  · rw [if_pos q] at L
    obtain ⟨y, L⟩ := L
    have F := fo_of hi L
    rw [q, Bool.and_true]
    have R1 : ∀ e : Ev, e[0]? = some (some (.str t)) → eChn opLe opLe (eC (.int 1)) (eBf bLen (aC (eV 0) aN)) (eC (.int 8)) C e h = .ok (.bl (decide (1 ≤ t.length) && decide (t.length ≤ 8))) h := fun e he => by
      refine g_chn g_c (g_bf (g_ac (g_v he) g_an) ln) g_le ?_
      by_cases c1 : 1 ≤ t.length
      · rw [if_pos (by simpa using (by omega : (1 : Int) ≤ t.length)), decide_eq_true c1, Bool.true_and]
        show R.ok (D.bl (decide ((t.length : Int) ≤ 8))) h = _
        congr 2
        simp only [decide_eq_decide]
        omega
      · rw [if_neg (by simpa using (by omega : ¬ (1 : Int) ≤ t.length)), decide_eq_false c1, Bool.false_and]
    have R2 := R1 [some (.str t), y] rfl
    refine run_rt rfl (by simp only [List.map_cons, List.map_nil, List.length_cons, List.length_nil, List.cons_append, List.nil_append, Nat.reduceAdd, Nat.reduceSub, List.replicate_succ, List.replicate_zero]; exact rfl) ?_
    (repeat' first | with_reducible exact F | with_reducible exact R2 | with_reducible exact g_v rfl | with_reducible exact g_c | with_reducible exact g_an | with_reducible exact g_add | with_reducible exact g_sub | with_reducible exact g_iadd | with_reducible exact g_lt | with_reducible exact g_le | with_reducible exact g_gt | with_reducible exact g_ge | with_reducible exact g_eq | with_reducible exact g_ne | with_reducible exact g_neg | with_reducible exact g_mul (by first | assumption | omega | decide) | with_reducible exact g_div (by first | assumption | omega | decide) (by first | assumption | omega | decide) | with_reducible exact g_mod (by first | assumption | omega | decide) | with_reducible exact g_pow (by decide) | with_reducible apply g_isint | with_reducible exact g_sk | with_reducible exact g_rn | with_reducible exact g_bk | with_reducible exact g_ct | with_reducible exact g_gn0 | with_reducible apply g_gns | with_reducible exact g_ap0 | with_reducible apply g_apS | with_reducible apply g_op | with_reducible apply g_un | with_reducible apply g_ac | with_reducible apply g_call | with_reducible apply g_calld | with_reducible apply g_bf | with_reducible apply g_sq | with_reducible apply g_kn | with_reducible exact g_kr | with_reducible exact g_kb | with_reducible exact g_kc | with_reducible apply g_as | with_reducible apply g_pr | with_reducible apply g_au rfl | with_reducible apply g_rt | with_reducible apply g_ex | with_reducible apply g_if | with_reducible apply g_tv | with_reducible apply g_tan | with_reducible apply g_tor | with_reducible apply g_tnt | with_reducible apply g_ean | with_reducible apply g_eor | with_reducible apply g_ent | with_reducible apply g_eif | with_reducible apply g_iftt | with_reducible apply g_iffn | with_reducible apply g_ifff | with_reducible apply g_iftn | with_reducible refine g_ift (by first | assumption | omega | decide) ?_ | with_reducible refine g_iff (by first | assumption | omega | decide) ?_ | with_reducible refine g_ifnt (by first | assumption | omega | decide) ?_ | with_reducible refine g_ifnf (by first | assumption | omega | decide) ?_ | with_reducible exact rfl | with_reducible exact g_eqs | with_reducible exact g_nes | with_reducible exact g_neni | with_reducible exact g_nein | with_reducible exact g_nenn | with_reducible exact g_isn | with_reducible exact g_isi | with_reducible exact g_nsn | with_reducible exact g_nsi | with_reducible exact g_max | with_reducible exact g_max3 | with_reducible exact g_min | with_reducible exact g_intb | with_reducible apply g_gt2 | with_reducible apply g_gt3 | with_reducible apply g_tup | with_reducible apply g_lst | with_reducible exact lenOk rfl | with_reducible exact g_on | with_reducible apply g_os | with_reducible apply g_sl | with_reducible apply g_bkm | with_reducible exact g_okS )
  · rw [if_neg q] at L
    have F := fo_of hi L
    rw [Bool.eq_false_iff.mpr q, Bool.and_false]
    refine run_rt rfl (by simp only [List.map_cons, List.map_nil, List.length_cons, List.length_nil, List.cons_append, List.nil_append, Nat.reduceAdd, Nat.reduceSub, List.replicate_succ, List.replicate_zero]; exact rfl) ?_
    (repeat' first | with_reducible exact F | with_reducible exact g_v rfl | with_reducible exact g_c | with_reducible exact g_an | with_reducible exact g_add | with_reducible exact g_sub | with_reducible exact g_iadd | with_reducible exact g_lt | with_reducible exact g_le | with_reducible exact g_gt | with_reducible exact g_ge | with_reducible exact g_eq | with_reducible exact g_ne | with_reducible exact g_neg | with_reducible exact g_mul (by first | assumption | omega | decide) | with_reducible exact g_div (by first | assumption | omega | decide) (by first | assumption | omega | decide) | with_reducible exact g_mod (by first | assumption | omega | decide) | with_reducible exact g_pow (by decide) | with_reducible apply g_isint | with_reducible exact g_sk | with_reducible exact g_rn | with_reducible exact g_bk | with_reducible exact g_ct | with_reducible exact g_gn0 | with_reducible apply g_gns | with_reducible exact g_ap0 | with_reducible apply g_apS | with_reducible apply g_op | with_reducible apply g_un | with_reducible apply g_ac | with_reducible apply g_call | with_reducible apply g_calld | with_reducible apply g_bf | with_reducible apply g_sq | with_reducible apply g_kn | with_reducible exact g_kr | with_reducible exact g_kb | with_reducible exact g_kc | with_reducible apply g_as | with_reducible apply g_pr | with_reducible apply g_au rfl | with_reducible apply g_rt | with_reducible apply g_ex | with_reducible apply g_if | with_reducible apply g_tv | with_reducible apply g_tan | with_reducible apply g_tor | with_reducible apply g_tnt | with_reducible apply g_ean | with_reducible apply g_eor | with_reducible apply g_ent | with_reducible apply g_eif | with_reducible apply g_iftt | with_reducible apply g_iffn | with_reducible apply g_ifff | with_reducible apply g_iftn | with_reducible refine g_ift (by first | assumption | omega | decide) ?_ | with_reducible refine g_iff (by first | assumption | omega | decide) ?_ | with_reducible refine g_ifnt (by first | assumption | omega | decide) ?_ | with_reducible refine g_ifnf (by first | assumption | omega | decide) ?_ | with_reducible exact rfl | with_reducible exact g_eqs | with_reducible exact g_nes | with_reducible exact g_neni | with_reducible exact g_nein | with_reducible exact g_nenn | with_reducible exact g_isn | with_reducible exact g_isi | with_reducible exact g_nsn | with_reducible exact g_nsi | with_reducible exact g_max | with_reducible exact g_max3 | with_reducible exact g_min | with_reducible exact g_intb | with_reducible apply g_gt2 | with_reducible apply g_gt3 | with_reducible apply g_tup | with_reducible apply g_lst | with_reducible exact lenOk rfl | with_reducible exact g_on | with_reducible apply g_os | with_reducible apply g_sl | with_reducible apply g_bkm | with_reducible exact g_okS )
/-! figures -/
def dig (c : Nat) : Bool := decide (c ∈ DIG.cps.toList)
theorem dig_list : DIG.cps.toList = [48, 49, 50, 51, 52, 53, 54, 55, 56, 57] := by decide +kernel
theorem dig_iff {c : Nat} : dig c = true ↔ 48 ≤ c ∧ c ≤ 57 := by
  unfold dig
  rw [dig_list]
  simp only [List.mem_cons, List.not_mem_nil, or_false, decide_eq_true_eq]
  omega
theorem sub_one {x : Str} {c i : Nat} (h : PySem.StrLaws.At x ⟨#[c]⟩ x.length i) : x.cps.toList[i]? = some c := by
  obtain ⟨h1, h2⟩ := h
  unfold Builtin.Str.subAt at h2
  have h3 : x.cps.extract i (i + 1) = #[c] := eq_of_beq h2
  have h4 := congrArg (fun a : Array Nat => a[0]?) h3
  simp only [Array.getElem?_extract, List.getElem?_toArray, List.getElem?_cons_zero] at h4
  rw [Array.getElem?_toList]
  split at h4
  · simpa using h4
  · cases h4
theorem find_dig {c : Nat} : Txt.find DIG ⟨#[c]⟩ = if dig c = true then ((c - 48 : Nat) : Int) else -1 := by
  by_cases q : dig c = true
  · rw [if_pos q]
    have := dig_iff.mp q
    have hc : c = 48 ∨ c = 49 ∨ c = 50 ∨ c = 51 ∨ c = 52 ∨ c = 53 ∨ c = 54 ∨ c = 55 ∨ c = 56 ∨ c = 57 := by omega
    rcases hc with rfl | rfl | rfl | rfl | rfl | rfl | rfl | rfl | rfl | rfl <;> decide +kernel
  · rw [if_neg q]
    rcases PyProof.Rows.find_whole DIG ⟨#[c]⟩ with ⟨e, _⟩ | ⟨i, e, hi, _⟩
    · exact e
    · exfalso
      have := sub_one hi
      apply q
      unfold dig
      exact decide_eq_true (List.mem_of_getElem? this)
/-- what number_of tells -/
def nV (t : Str) (most : Int) : D := if 1 ≤ t.length ∧ (t.length : Int) ≤ most ∧ t.cps.toList.all dig = true ∧ ¬ (ch t 0 = "0" ∧ 1 < t.length) then .int ((digitsVal t.cps.toList : Nat) : Int) else .non
theorem int_dig {t : Str} {h : HP} (h1 : 1 ≤ t.length) (h2 : t.length ≤ 300) (q : t.cps.toList.all dig = true) : bInt [.str t] h = .ok (.int ((digitsVal t.cps.toList : Nat) : Int)) h := by
  have e : PySem.intText? t = some ((digitsVal t.cps.toList : Nat) : Int) := intText_digits (fun c hc => dig_iff.mp (List.all_eq_true.mp q c hc)) (fun z => by
    have := len_cps t
    rw [z] at this
    simp at this
    omega) (by omega)
  have l : t.length ≤ 640 := by omega
  simp only [bInt, e, if_pos l]
theorem number_of_run (C : Ctx) (h : HP) {t : Str} {most : Int} (ht : t.length ≤ 300) (hf : 1000 < C.fuel) : runFn C f_number_of [.str t, .int most] h = .ok (nV t most) h := by
  have ln := g_lenS (z := t) (h := h) (by omega)
  have L := for_text (t := t) (E := fun x => [some (.str t), some (.int most), x]) (g := gN 2) (b := b_number_of_1) (C := C) (h := h) (d := .non) dig (fun x y => rfl)
    (fun c => by
      by_cases q : c ∈ DIG.cps.toList
      · rw [if_pos (show dig c = true from decide_eq_true q)]
        unfold b_number_of_1
        (repeat' first | with_reducible exact g_nin1 | with_reducible exact g_v rfl | with_reducible exact g_c | with_reducible exact g_an | with_reducible exact g_add | with_reducible exact g_sub | with_reducible exact g_iadd | with_reducible exact g_lt | with_reducible exact g_le | with_reducible exact g_gt | with_reducible exact g_ge | with_reducible exact g_eq | with_reducible exact g_ne | with_reducible exact g_neg | with_reducible exact g_mul (by first | assumption | omega | decide) | with_reducible exact g_div (by first | assumption | omega | decide) (by first | assumption | omega | decide) | with_reducible exact g_mod (by first | assumption | omega | decide) | with_reducible exact g_pow (by decide) | with_reducible apply g_isint | with_reducible exact g_sk | with_reducible exact g_rn | with_reducible exact g_bk | with_reducible exact g_ct | with_reducible exact g_gn0 | with_reducible apply g_gns | with_reducible exact g_ap0 | with_reducible apply g_apS | with_reducible apply g_op | with_reducible apply g_un | with_reducible apply g_ac | with_reducible apply g_call | with_reducible apply g_calld | with_reducible apply g_bf | with_reducible apply g_sq | with_reducible apply g_kn | with_reducible exact g_kr | with_reducible exact g_kb | with_reducible exact g_kc | with_reducible apply g_as | with_reducible apply g_pr | with_reducible apply g_au rfl | with_reducible apply g_rt | with_reducible apply g_ex | with_reducible apply g_if | with_reducible apply g_tv | with_reducible apply g_tan | with_reducible apply g_tor | with_reducible apply g_tnt | with_reducible apply g_ean | with_reducible apply g_eor | with_reducible apply g_ent | with_reducible apply g_eif | with_reducible apply g_iftt | with_reducible apply g_iffn | with_reducible apply g_ifff | with_reducible apply g_iftn | with_reducible refine g_ift (by first | assumption | omega | decide) ?_ | with_reducible refine g_iff (by first | assumption | omega | decide) ?_ | with_reducible refine g_ifnt (by first | assumption | omega | decide) ?_ | with_reducible refine g_ifnf (by first | assumption | omega | decide) ?_ | with_reducible exact rfl | with_reducible exact g_eqs | with_reducible exact g_nes | with_reducible exact g_neni | with_reducible exact g_nein | with_reducible exact g_nenn | with_reducible exact g_isn | with_reducible exact g_isi | with_reducible exact g_nsn | with_reducible exact g_nsi | with_reducible exact g_max | with_reducible exact g_max3 | with_reducible exact g_min | with_reducible exact g_intb | with_reducible apply g_gt2 | with_reducible apply g_gt3 | with_reducible apply g_tup | with_reducible apply g_lst | with_reducible exact lenOk rfl | with_reducible exact g_on | with_reducible apply g_os | with_reducible apply g_sl | with_reducible apply g_bkm | with_reducible exact g_okS )
      · rw [if_neg (by unfold dig; simpa using q)]
        unfold b_number_of_1
        (repeat' first | with_reducible exact g_nin1 | with_reducible exact g_v rfl | with_reducible exact g_c | with_reducible exact g_an | with_reducible exact g_add | with_reducible exact g_sub | with_reducible exact g_iadd | with_reducible exact g_lt | with_reducible exact g_le | with_reducible exact g_gt | with_reducible exact g_ge | with_reducible exact g_eq | with_reducible exact g_ne | with_reducible exact g_neg | with_reducible exact g_mul (by first | assumption | omega | decide) | with_reducible exact g_div (by first | assumption | omega | decide) (by first | assumption | omega | decide) | with_reducible exact g_mod (by first | assumption | omega | decide) | with_reducible exact g_pow (by decide) | with_reducible apply g_isint | with_reducible exact g_sk | with_reducible exact g_rn | with_reducible exact g_bk | with_reducible exact g_ct | with_reducible exact g_gn0 | with_reducible apply g_gns | with_reducible exact g_ap0 | with_reducible apply g_apS | with_reducible apply g_op | with_reducible apply g_un | with_reducible apply g_ac | with_reducible apply g_call | with_reducible apply g_calld | with_reducible apply g_bf | with_reducible apply g_sq | with_reducible apply g_kn | with_reducible exact g_kr | with_reducible exact g_kb | with_reducible exact g_kc | with_reducible apply g_as | with_reducible apply g_pr | with_reducible apply g_au rfl | with_reducible apply g_rt | with_reducible apply g_ex | with_reducible apply g_if | with_reducible apply g_tv | with_reducible apply g_tan | with_reducible apply g_tor | with_reducible apply g_tnt | with_reducible apply g_ean | with_reducible apply g_eor | with_reducible apply g_ent | with_reducible apply g_eif | with_reducible apply g_iftt | with_reducible apply g_iffn | with_reducible apply g_ifff | with_reducible apply g_iftn | with_reducible refine g_ift (by first | assumption | omega | decide) ?_ | with_reducible refine g_iff (by first | assumption | omega | decide) ?_ | with_reducible refine g_ifnt (by first | assumption | omega | decide) ?_ | with_reducible refine g_ifnf (by first | assumption | omega | decide) ?_ | with_reducible exact rfl | with_reducible exact g_eqs | with_reducible exact g_nes | with_reducible exact g_neni | with_reducible exact g_nein | with_reducible exact g_nenn | with_reducible exact g_isn | with_reducible exact g_isi | with_reducible exact g_nsn | with_reducible exact g_nsi | with_reducible exact g_max | with_reducible exact g_max3 | with_reducible exact g_min | with_reducible exact g_intb | with_reducible apply g_gt2 | with_reducible apply g_gt3 | with_reducible apply g_tup | with_reducible apply g_lst | with_reducible exact lenOk rfl | with_reducible exact g_on | with_reducible apply g_os | with_reducible apply g_sl | with_reducible apply g_bkm | with_reducible exact g_okS ))
    t.length 0 none (by omega) C.fuel (by omega)
  rw [List.drop_zero] at L
  have hi : iA (eV 0) C [some (.str t), some (.int most), none] h = .ok (itS t) h := rfl
  unfold nV
  by_cases h1 : t.length < 1
  · rw [if_neg (by omega)]
    refine run_rt rfl (by simp only [List.map_cons, List.map_nil, List.length_cons, List.length_nil, List.cons_append, List.nil_append, Nat.reduceAdd, Nat.reduceSub, List.replicate_succ, List.replicate_zero]; exact rfl) ?_
    (repeat' first | with_reducible exact ln | with_reducible exact g_v rfl | with_reducible exact g_c | with_reducible exact g_an | with_reducible exact g_add | with_reducible exact g_sub | with_reducible exact g_iadd | with_reducible exact g_lt | with_reducible exact g_le | with_reducible exact g_gt | with_reducible exact g_ge | with_reducible exact g_eq | with_reducible exact g_ne | with_reducible exact g_neg | with_reducible exact g_mul (by first | assumption | omega | decide) | with_reducible exact g_div (by first | assumption | omega | decide) (by first | assumption | omega | decide) | with_reducible exact g_mod (by first | assumption | omega | decide) | with_reducible exact g_pow (by decide) | with_reducible apply g_isint | with_reducible exact g_sk | with_reducible exact g_rn | with_reducible exact g_bk | with_reducible exact g_ct | with_reducible exact g_gn0 | with_reducible apply g_gns | with_reducible exact g_ap0 | with_reducible apply g_apS | with_reducible apply g_op | with_reducible apply g_un | with_reducible apply g_ac | with_reducible apply g_call | with_reducible apply g_calld | with_reducible apply g_bf | with_reducible apply g_sq | with_reducible apply g_kn | with_reducible exact g_kr | with_reducible exact g_kb | with_reducible exact g_kc | with_reducible apply g_as | with_reducible apply g_pr | with_reducible apply g_au rfl | with_reducible apply g_rt | with_reducible apply g_ex | with_reducible apply g_if | with_reducible apply g_tv | with_reducible apply g_tan | with_reducible apply g_tor | with_reducible apply g_tnt | with_reducible apply g_ean | with_reducible apply g_eor | with_reducible apply g_ent | with_reducible apply g_eif | with_reducible apply g_iftt | with_reducible apply g_iffn | with_reducible apply g_ifff | with_reducible apply g_iftn | with_reducible refine g_ift (by first | assumption | omega | decide) ?_ | with_reducible refine g_iff (by first | assumption | omega | decide) ?_ | with_reducible refine g_ifnt (by first | assumption | omega | decide) ?_ | with_reducible refine g_ifnf (by first | assumption | omega | decide) ?_ | with_reducible exact rfl | with_reducible exact g_eqs | with_reducible exact g_nes | with_reducible exact g_neni | with_reducible exact g_nein | with_reducible exact g_nenn | with_reducible exact g_isn | with_reducible exact g_isi | with_reducible exact g_nsn | with_reducible exact g_nsi | with_reducible exact g_max | with_reducible exact g_max3 | with_reducible exact g_min | with_reducible exact g_intb | with_reducible apply g_gt2 | with_reducible apply g_gt3 | with_reducible apply g_tup | with_reducible apply g_lst | with_reducible exact lenOk rfl | with_reducible exact g_on | with_reducible apply g_os | with_reducible apply g_sl | with_reducible apply g_bkm | with_reducible exact g_okS )
  by_cases h2 : most < t.length
  · rw [if_neg (by omega)]
    refine run_rt rfl (by simp only [List.map_cons, List.map_nil, List.length_cons, List.length_nil, List.cons_append, List.nil_append, Nat.reduceAdd, Nat.reduceSub, List.replicate_succ, List.replicate_zero]; exact rfl) ?_
    (repeat' first | with_reducible exact ln | with_reducible exact g_v rfl | with_reducible exact g_c | with_reducible exact g_an | with_reducible exact g_add | with_reducible exact g_sub | with_reducible exact g_iadd | with_reducible exact g_lt | with_reducible exact g_le | with_reducible exact g_gt | with_reducible exact g_ge | with_reducible exact g_eq | with_reducible exact g_ne | with_reducible exact g_neg | with_reducible exact g_mul (by first | assumption | omega | decide) | with_reducible exact g_div (by first | assumption | omega | decide) (by first | assumption | omega | decide) | with_reducible exact g_mod (by first | assumption | omega | decide) | with_reducible exact g_pow (by decide) | with_reducible apply g_isint | with_reducible exact g_sk | with_reducible exact g_rn | with_reducible exact g_bk | with_reducible exact g_ct | with_reducible exact g_gn0 | with_reducible apply g_gns | with_reducible exact g_ap0 | with_reducible apply g_apS | with_reducible apply g_op | with_reducible apply g_un | with_reducible apply g_ac | with_reducible apply g_call | with_reducible apply g_calld | with_reducible apply g_bf | with_reducible apply g_sq | with_reducible apply g_kn | with_reducible exact g_kr | with_reducible exact g_kb | with_reducible exact g_kc | with_reducible apply g_as | with_reducible apply g_pr | with_reducible apply g_au rfl | with_reducible apply g_rt | with_reducible apply g_ex | with_reducible apply g_if | with_reducible apply g_tv | with_reducible apply g_tan | with_reducible apply g_tor | with_reducible apply g_tnt | with_reducible apply g_ean | with_reducible apply g_eor | with_reducible apply g_ent | with_reducible apply g_eif | with_reducible apply g_iftt | with_reducible apply g_iffn | with_reducible apply g_ifff | with_reducible apply g_iftn | with_reducible refine g_ift (by first | assumption | omega | decide) ?_ | with_reducible refine g_iff (by first | assumption | omega | decide) ?_ | with_reducible refine g_ifnt (by first | assumption | omega | decide) ?_ | with_reducible refine g_ifnf (by first | assumption | omega | decide) ?_ | with_reducible exact rfl | with_reducible exact g_eqs | with_reducible exact g_nes | with_reducible exact g_neni | with_reducible exact g_nein | with_reducible exact g_nenn | with_reducible exact g_isn | with_reducible exact g_isi | with_reducible exact g_nsn | with_reducible exact g_nsi | with_reducible exact g_max | with_reducible exact g_max3 | with_reducible exact g_min | with_reducible exact g_intb | with_reducible apply g_gt2 | with_reducible apply g_gt3 | with_reducible apply g_tup | with_reducible apply g_lst | with_reducible exact lenOk rfl | with_reducible exact g_on | with_reducible apply g_os | with_reducible apply g_sl | with_reducible apply g_bkm | with_reducible exact g_okS )
  by_cases q : t.cps.toList.all dig = true
  · rw [if_pos q] at L
    obtain ⟨y, L⟩ := L
    have F := fo_of hi L
    have ix := g_ixs (z := t) (i := 0) (h := h) (by omega) (by decide) (by omega)
    have nu := int_dig (h := h) (by omega) ht q
    by_cases h3 : 1 < t.length
    · have h3' : (1 : Int) < t.length := by omega
      by_cases h4 : ch t 0 = "0"
      · rw [if_neg (fun z => z.2.2.2 ⟨h4, h3⟩)]
        refine run_rt rfl (by simp only [List.map_cons, List.map_nil, List.length_cons, List.length_nil, List.cons_append, List.nil_append, Nat.reduceAdd, Nat.reduceSub, List.replicate_succ, List.replicate_zero]; exact rfl) ?_
        (repeat' first | with_reducible exact ln | with_reducible exact F | with_reducible exact ix | with_reducible exact g_v rfl | with_reducible exact g_c | with_reducible exact g_an | with_reducible exact g_add | with_reducible exact g_sub | with_reducible exact g_iadd | with_reducible exact g_lt | with_reducible exact g_le | with_reducible exact g_gt | with_reducible exact g_ge | with_reducible exact g_eq | with_reducible exact g_ne | with_reducible exact g_neg | with_reducible exact g_mul (by first | assumption | omega | decide) | with_reducible exact g_div (by first | assumption | omega | decide) (by first | assumption | omega | decide) | with_reducible exact g_mod (by first | assumption | omega | decide) | with_reducible exact g_pow (by decide) | with_reducible apply g_isint | with_reducible exact g_sk | with_reducible exact g_rn | with_reducible exact g_bk | with_reducible exact g_ct | with_reducible exact g_gn0 | with_reducible apply g_gns | with_reducible exact g_ap0 | with_reducible apply g_apS | with_reducible apply g_op | with_reducible apply g_un | with_reducible apply g_ac | with_reducible apply g_call | with_reducible apply g_calld | with_reducible apply g_bf | with_reducible apply g_sq | with_reducible apply g_kn | with_reducible exact g_kr | with_reducible exact g_kb | with_reducible exact g_kc | with_reducible apply g_as | with_reducible apply g_pr | with_reducible apply g_au rfl | with_reducible apply g_rt | with_reducible apply g_ex | with_reducible apply g_if | with_reducible apply g_tv | with_reducible apply g_tan | with_reducible apply g_tor | with_reducible apply g_tnt | with_reducible apply g_ean | with_reducible apply g_eor | with_reducible apply g_ent | with_reducible apply g_eif | with_reducible apply g_iftt | with_reducible apply g_iffn | with_reducible apply g_ifff | with_reducible apply g_iftn | with_reducible refine g_ift (by first | assumption | omega | decide) ?_ | with_reducible refine g_iff (by first | assumption | omega | decide) ?_ | with_reducible refine g_ifnt (by first | assumption | omega | decide) ?_ | with_reducible refine g_ifnf (by first | assumption | omega | decide) ?_ | with_reducible exact rfl | with_reducible exact g_eqs | with_reducible exact g_nes | with_reducible exact g_neni | with_reducible exact g_nein | with_reducible exact g_nenn | with_reducible exact g_isn | with_reducible exact g_isi | with_reducible exact g_nsn | with_reducible exact g_nsi | with_reducible exact g_max | with_reducible exact g_max3 | with_reducible exact g_min | with_reducible exact g_intb | with_reducible apply g_gt2 | with_reducible apply g_gt3 | with_reducible apply g_tup | with_reducible apply g_lst | with_reducible exact lenOk rfl | with_reducible exact g_on | with_reducible apply g_os | with_reducible apply g_sl | with_reducible apply g_bkm | with_reducible exact g_okS )
      · rw [if_pos ⟨by omega, by omega, q, fun z => h4 z.1⟩]
        refine run_rt rfl (by simp only [List.map_cons, List.map_nil, List.length_cons, List.length_nil, List.cons_append, List.nil_append, Nat.reduceAdd, Nat.reduceSub, List.replicate_succ, List.replicate_zero]; exact rfl) ?_
        (repeat' first | with_reducible exact ln | with_reducible exact F | with_reducible exact ix | with_reducible exact nu | with_reducible exact g_v rfl | with_reducible exact g_c | with_reducible exact g_an | with_reducible exact g_add | with_reducible exact g_sub | with_reducible exact g_iadd | with_reducible exact g_lt | with_reducible exact g_le | with_reducible exact g_gt | with_reducible exact g_ge | with_reducible exact g_eq | with_reducible exact g_ne | with_reducible exact g_neg | with_reducible exact g_mul (by first | assumption | omega | decide) | with_reducible exact g_div (by first | assumption | omega | decide) (by first | assumption | omega | decide) | with_reducible exact g_mod (by first | assumption | omega | decide) | with_reducible exact g_pow (by decide) | with_reducible apply g_isint | with_reducible exact g_sk | with_reducible exact g_rn | with_reducible exact g_bk | with_reducible exact g_ct | with_reducible exact g_gn0 | with_reducible apply g_gns | with_reducible exact g_ap0 | with_reducible apply g_apS | with_reducible apply g_op | with_reducible apply g_un | with_reducible apply g_ac | with_reducible apply g_call | with_reducible apply g_calld | with_reducible apply g_bf | with_reducible apply g_sq | with_reducible apply g_kn | with_reducible exact g_kr | with_reducible exact g_kb | with_reducible exact g_kc | with_reducible apply g_as | with_reducible apply g_pr | with_reducible apply g_au rfl | with_reducible apply g_rt | with_reducible apply g_ex | with_reducible apply g_if | with_reducible apply g_tv | with_reducible apply g_tan | with_reducible apply g_tor | with_reducible apply g_tnt | with_reducible apply g_ean | with_reducible apply g_eor | with_reducible apply g_ent | with_reducible apply g_eif | with_reducible apply g_iftt | with_reducible apply g_iffn | with_reducible apply g_ifff | with_reducible apply g_iftn | with_reducible refine g_ift (by first | assumption | omega | decide) ?_ | with_reducible refine g_iff (by first | assumption | omega | decide) ?_ | with_reducible refine g_ifnt (by first | assumption | omega | decide) ?_ | with_reducible refine g_ifnf (by first | assumption | omega | decide) ?_ | with_reducible exact rfl | with_reducible exact g_eqs | with_reducible exact g_nes | with_reducible exact g_neni | with_reducible exact g_nein | with_reducible exact g_nenn | with_reducible exact g_isn | with_reducible exact g_isi | with_reducible exact g_nsn | with_reducible exact g_nsi | with_reducible exact g_max | with_reducible exact g_max3 | with_reducible exact g_min | with_reducible exact g_intb | with_reducible apply g_gt2 | with_reducible apply g_gt3 | with_reducible apply g_tup | with_reducible apply g_lst | with_reducible exact lenOk rfl | with_reducible exact g_on | with_reducible apply g_os | with_reducible apply g_sl | with_reducible apply g_bkm | with_reducible exact g_okS )
    · have h3' : ¬ (1 : Int) < t.length := by omega
      rw [if_pos ⟨by omega, by omega, q, fun z => h3 z.2⟩]
      refine run_rt rfl (by simp only [List.map_cons, List.map_nil, List.length_cons, List.length_nil, List.cons_append, List.nil_append, Nat.reduceAdd, Nat.reduceSub, List.replicate_succ, List.replicate_zero]; exact rfl) ?_
      (repeat' first | with_reducible exact ln | with_reducible exact F | with_reducible exact ix | with_reducible exact nu | with_reducible exact g_v rfl | with_reducible exact g_c | with_reducible exact g_an | with_reducible exact g_add | with_reducible exact g_sub | with_reducible exact g_iadd | with_reducible exact g_lt | with_reducible exact g_le | with_reducible exact g_gt | with_reducible exact g_ge | with_reducible exact g_eq | with_reducible exact g_ne | with_reducible exact g_neg | with_reducible exact g_mul (by first | assumption | omega | decide) | with_reducible exact g_div (by first | assumption | omega | decide) (by first | assumption | omega | decide) | with_reducible exact g_mod (by first | assumption | omega | decide) | with_reducible exact g_pow (by decide) | with_reducible apply g_isint | with_reducible exact g_sk | with_reducible exact g_rn | with_reducible exact g_bk | with_reducible exact g_ct | with_reducible exact g_gn0 | with_reducible apply g_gns | with_reducible exact g_ap0 | with_reducible apply g_apS | with_reducible apply g_op | with_reducible apply g_un | with_reducible apply g_ac | with_reducible apply g_call | with_reducible apply g_calld | with_reducible apply g_bf | with_reducible apply g_sq | with_reducible apply g_kn | with_reducible exact g_kr | with_reducible exact g_kb | with_reducible exact g_kc | with_reducible apply g_as | with_reducible apply g_pr | with_reducible apply g_au rfl | with_reducible apply g_rt | with_reducible apply g_ex | with_reducible apply g_if | with_reducible apply g_tv | with_reducible apply g_tan | with_reducible apply g_tor | with_reducible apply g_tnt | with_reducible apply g_ean | with_reducible apply g_eor | with_reducible apply g_ent | with_reducible apply g_eif | with_reducible apply g_iftt | with_reducible apply g_iffn | with_reducible apply g_ifff | with_reducible apply g_iftn | with_reducible refine g_ift (by first | assumption | omega | decide) ?_ | with_reducible refine g_iff (by first | assumption | omega | decide) ?_ | with_reducible refine g_ifnt (by first | assumption | omega | decide) ?_ | with_reducible refine g_ifnf (by first | assumption | omega | decide) ?_ | with_reducible exact rfl | with_reducible exact g_eqs | with_reducible exact g_nes | with_reducible exact g_neni | with_reducible exact g_nein | with_reducible exact g_nenn | with_reducible exact g_isn | with_reducible exact g_isi | with_reducible exact g_nsn | with_reducible exact g_nsi | with_reducible exact g_max | with_reducible exact g_max3 | with_reducible exact g_min | with_reducible exact g_intb | with_reducible apply g_gt2 | with_reducible apply g_gt3 | with_reducible apply g_tup | with_reducible apply g_lst | with_reducible exact lenOk rfl | with_reducible exact g_on | with_reducible apply g_os | with_reducible apply g_sl | with_reducible apply g_bkm | with_reducible exact g_okS )
  · rw [if_neg q] at L
    have F := fo_of hi L
    rw [if_neg (fun z => q z.2.2.1)]
    refine run_rt rfl (by simp only [List.map_cons, List.map_nil, List.length_cons, List.length_nil, List.cons_append, List.nil_append, Nat.reduceAdd, Nat.reduceSub, List.replicate_succ, List.replicate_zero]; exact rfl) ?_
    (repeat' first | with_reducible exact ln | with_reducible exact F | with_reducible exact g_v rfl | with_reducible exact g_c | with_reducible exact g_an | with_reducible exact g_add | with_reducible exact g_sub | with_reducible exact g_iadd | with_reducible exact g_lt | with_reducible exact g_le | with_reducible exact g_gt | with_reducible exact g_ge | with_reducible exact g_eq | with_reducible exact g_ne | with_reducible exact g_neg | with_reducible exact g_mul (by first | assumption | omega | decide) | with_reducible exact g_div (by first | assumption | omega | decide) (by first | assumption | omega | decide) | with_reducible exact g_mod (by first | assumption | omega | decide) | with_reducible exact g_pow (by decide) | with_reducible apply g_isint | with_reducible exact g_sk | with_reducible exact g_rn | with_reducible exact g_bk | with_reducible exact g_ct | with_reducible exact g_gn0 | with_reducible apply g_gns | with_reducible exact g_ap0 | with_reducible apply g_apS | with_reducible apply g_op | with_reducible apply g_un | with_reducible apply g_ac | with_reducible apply g_call | with_reducible apply g_calld | with_reducible apply g_bf | with_reducible apply g_sq | with_reducible apply g_kn | with_reducible exact g_kr | with_reducible exact g_kb | with_reducible exact g_kc | with_reducible apply g_as | with_reducible apply g_pr | with_reducible apply g_au rfl | with_reducible apply g_rt | with_reducible apply g_ex | with_reducible apply g_if | with_reducible apply g_tv | with_reducible apply g_tan | with_reducible apply g_tor | with_reducible apply g_tnt | with_reducible apply g_ean | with_reducible apply g_eor | with_reducible apply g_ent | with_reducible apply g_eif | with_reducible apply g_iftt | with_reducible apply g_iffn | with_reducible apply g_ifff | with_reducible apply g_iftn | with_reducible refine g_ift (by first | assumption | omega | decide) ?_ | with_reducible refine g_iff (by first | assumption | omega | decide) ?_ | with_reducible refine g_ifnt (by first | assumption | omega | decide) ?_ | with_reducible refine g_ifnf (by first | assumption | omega | decide) ?_ | with_reducible exact rfl | with_reducible exact g_eqs | with_reducible exact g_nes | with_reducible exact g_neni | with_reducible exact g_nein | with_reducible exact g_nenn | with_reducible exact g_isn | with_reducible exact g_isi | with_reducible exact g_nsn | with_reducible exact g_nsi | with_reducible exact g_max | with_reducible exact g_max3 | with_reducible exact g_min | with_reducible exact g_intb | with_reducible apply g_gt2 | with_reducible apply g_gt3 | with_reducible apply g_tup | with_reducible apply g_lst | with_reducible exact lenOk rfl | with_reducible exact g_on | with_reducible apply g_os | with_reducible apply g_sl | with_reducible apply g_bkm | with_reducible exact g_okS )
def wE (t : Str) (most : Int) (w : Int) (x y : Option D) : Ev := [some (.str t), some (.int most), some (.int w), x, y]
theorem dv_bound : ∀ (cs : List Nat) (a : Nat), cs.all dig = true → cs.foldl (fun acc c => acc * 10 + (c - 48)) a < (a + 1) * 10 ^ cs.length
  | [], a, _ => by simp
  | c :: cs, a, q => by
    simp only [List.all_cons, Bool.and_eq_true] at q
    have := dig_iff.mp q.1
    have ih := dv_bound cs (a * 10 + (c - 48)) q.2
    rw [List.foldl_cons, List.length_cons, Nat.pow_succ]
    refine Nat.lt_of_lt_of_le ih ?_
    rw [← Nat.mul_assoc, Nat.mul_right_comm]
    exact Nat.mul_le_mul_right _ (by omega)
theorem worth_loop (C : Ctx) (h : HP) {t : Str} {most : Int} (ht : t.length ≤ 300) : ∀ (m j : Nat) (w : Nat) (x y : Option D), j + m = t.length → w < 10 ^ j → ∀ fuel, m < fuel →
    (if (t.cps.toList.drop j).all dig = true then ∃ x' y', forN (itS t) (gN 3) b_l_worth_1 fuel j C (wE t most w x y) h = .ok (.nx (wE t most (((t.cps.toList.drop j).foldl (fun acc c => acc * 10 + (c - 48)) w : Nat) : Int) x' y')) h
      else forN (itS t) (gN 3) b_l_worth_1 fuel j C (wE t most w x y) h = .ok (.rt .non) h)
  | 0, j, w, x, y, hj, hw, fuel, hf => by
    obtain ⟨f, rfl⟩ : ∃ f, fuel = f + 1 := ⟨fuel - 1, by omega⟩
    have e1 : t.cps.toList.drop j = [] := List.drop_eq_nil_of_le (by rw [len_cps]; omega)
    have e2 : t.cps[j]? = none := Array.getElem?_eq_none (by show t.length ≤ j; omega)
    rw [e1]
    refine ⟨x, y, ?_⟩
    simp only [forN, itS, e2, Option.map_none, List.foldl_nil]
  | m + 1, j, w, x, y, hj, hw, fuel, hf => by
    obtain ⟨f, rfl⟩ : ∃ f, fuel = f + 1 := ⟨fuel - 1, by omega⟩
    have hl : j < t.cps.toList.length := by rw [len_cps]; omega
    have e2 : t.cps[j]? = some (t.cps.toList[j]) := by rw [← Array.getElem?_toList, List.getElem?_eq_getElem hl]
    have e1 : t.cps.toList.drop j = t.cps.toList[j] :: t.cps.toList.drop (j + 1) := List.drop_eq_getElem_cons hl
    rw [e1, List.all_cons]
    generalize t.cps.toList[j] = c at *
    have fd := find_dig (c := c)
    have ff : ∀ h : HP, mFind (.str DIG) [.str ⟨#[c]⟩] h = .ok (.int (Txt.find DIG ⟨#[c]⟩)) h := fun h => rfl
    simp only [forN, itS, e2, Option.map_some]
    by_cases hp : dig c = true
    · rw [if_pos hp] at fd
      rw [fd] at ff
      have hd := dig_iff.mp hp
      have lw : Lt2 (w : Int) 1000 := ⟨by
        rw [Int.natAbs_natCast]
        exact Nat.lt_of_lt_of_le hw (Nat.le_trans (Nat.pow_le_pow_right (by decide) (show j ≤ 300 by omega)) (by decide))⟩
      have mk : mulOk 10 (w : Int) = true := mulOk_of (a := 10) ⟨by decide⟩ lw (by decide)
      have nb : ¬ (((c - 48 : Nat) : Int) < 0) := by omega
      have B : b_l_worth_1 C (wE t most w (some (.str ⟨#[c]⟩)) y) h = .ok (.nx (wE t most ((w * 10 + (c - 48) : Nat) : Int) (some (.str ⟨#[c]⟩)) (some (.int ((c - 48 : Nat) : Int))))) h := by
        have e3 : ((w * 10 + (c - 48) : Nat) : Int) = 10 * (w : Int) + ((c - 48 : Nat) : Int) := by omega
        rw [e3]
        unfold b_l_worth_1 wE
        (repeat' first | with_reducible exact ff _ | with_reducible exact g_v rfl | with_reducible exact g_c | with_reducible exact g_an | with_reducible exact g_add | with_reducible exact g_sub | with_reducible exact g_iadd | with_reducible exact g_lt | with_reducible exact g_le | with_reducible exact g_gt | with_reducible exact g_ge | with_reducible exact g_eq | with_reducible exact g_ne | with_reducible exact g_neg | with_reducible exact g_mul (by first | assumption | omega | decide) | with_reducible exact g_div (by first | assumption | omega | decide) (by first | assumption | omega | decide) | with_reducible exact g_mod (by first | assumption | omega | decide) | with_reducible exact g_pow (by decide) | with_reducible apply g_isint | with_reducible exact g_sk | with_reducible exact g_rn | with_reducible exact g_bk | with_reducible exact g_ct | with_reducible exact g_gn0 | with_reducible apply g_gns | with_reducible exact g_ap0 | with_reducible apply g_apS | with_reducible apply g_op | with_reducible apply g_un | with_reducible apply g_ac | with_reducible apply g_call | with_reducible apply g_calld | with_reducible apply g_bf | with_reducible apply g_sq | with_reducible apply g_kn | with_reducible exact g_kr | with_reducible exact g_kb | with_reducible exact g_kc | with_reducible apply g_as | with_reducible apply g_pr | with_reducible apply g_au rfl | with_reducible apply g_rt | with_reducible apply g_ex | with_reducible apply g_if | with_reducible apply g_tv | with_reducible apply g_tan | with_reducible apply g_tor | with_reducible apply g_tnt | with_reducible apply g_ean | with_reducible apply g_eor | with_reducible apply g_ent | with_reducible apply g_eif | with_reducible apply g_iftt | with_reducible apply g_iffn | with_reducible apply g_ifff | with_reducible apply g_iftn | with_reducible refine g_ift (by first | assumption | omega | decide) ?_ | with_reducible refine g_iff (by first | assumption | omega | decide) ?_ | with_reducible refine g_ifnt (by first | assumption | omega | decide) ?_ | with_reducible refine g_ifnf (by first | assumption | omega | decide) ?_ | with_reducible exact rfl | with_reducible exact g_eqs | with_reducible exact g_nes | with_reducible exact g_neni | with_reducible exact g_nein | with_reducible exact g_nenn | with_reducible exact g_isn | with_reducible exact g_isi | with_reducible exact g_nsn | with_reducible exact g_nsi | with_reducible exact g_max | with_reducible exact g_max3 | with_reducible exact g_min | with_reducible exact g_intb | with_reducible apply g_gt2 | with_reducible apply g_gt3 | with_reducible apply g_tup | with_reducible apply g_lst | with_reducible exact lenOk rfl | with_reducible exact g_on | with_reducible apply g_os | with_reducible apply g_sl | with_reducible apply g_bkm | with_reducible exact g_okS )
      have hw2 : w * 10 + (c - 48) < 10 ^ (j + 1) := by rw [Nat.pow_succ]; omega
      have ih := worth_loop C h (most := most) ht m (j + 1) (w * 10 + (c - 48)) (some (.str ⟨#[c]⟩)) (some (.int ((c - 48 : Nat) : Int))) (by omega) hw2 f (by omega)
      have G : gN 3 (wE t most w x y) (.str ⟨#[c]⟩) = some (wE t most w (some (.str ⟨#[c]⟩)) y) := rfl
      simp only [G, B, R.bind_ok, hp, Bool.true_and, List.foldl_cons]
      exact ih
    · rw [if_neg hp] at fd
      rw [fd] at ff
      have B : b_l_worth_1 C (wE t most w (some (.str ⟨#[c]⟩)) y) h = .ok (.rt .non) h := by
        unfold b_l_worth_1 wE
        (repeat' first | with_reducible exact ff _ | with_reducible exact g_v rfl | with_reducible exact g_c | with_reducible exact g_an | with_reducible exact g_add | with_reducible exact g_sub | with_reducible exact g_iadd | with_reducible exact g_lt | with_reducible exact g_le | with_reducible exact g_gt | with_reducible exact g_ge | with_reducible exact g_eq | with_reducible exact g_ne | with_reducible exact g_neg | with_reducible exact g_mul (by first | assumption | omega | decide) | with_reducible exact g_div (by first | assumption | omega | decide) (by first | assumption | omega | decide) | with_reducible exact g_mod (by first | assumption | omega | decide) | with_reducible exact g_pow (by decide) | with_reducible apply g_isint | with_reducible exact g_sk | with_reducible exact g_rn | with_reducible exact g_bk | with_reducible exact g_ct | with_reducible exact g_gn0 | with_reducible apply g_gns | with_reducible exact g_ap0 | with_reducible apply g_apS | with_reducible apply g_op | with_reducible apply g_un | with_reducible apply g_ac | with_reducible apply g_call | with_reducible apply g_calld | with_reducible apply g_bf | with_reducible apply g_sq | with_reducible apply g_kn | with_reducible exact g_kr | with_reducible exact g_kb | with_reducible exact g_kc | with_reducible apply g_as | with_reducible apply g_pr | with_reducible apply g_au rfl | with_reducible apply g_rt | with_reducible apply g_ex | with_reducible apply g_if | with_reducible apply g_tv | with_reducible apply g_tan | with_reducible apply g_tor | with_reducible apply g_tnt | with_reducible apply g_ean | with_reducible apply g_eor | with_reducible apply g_ent | with_reducible apply g_eif | with_reducible apply g_iftt | with_reducible apply g_iffn | with_reducible apply g_ifff | with_reducible apply g_iftn | with_reducible refine g_ift (by first | assumption | omega | decide) ?_ | with_reducible refine g_iff (by first | assumption | omega | decide) ?_ | with_reducible refine g_ifnt (by first | assumption | omega | decide) ?_ | with_reducible refine g_ifnf (by first | assumption | omega | decide) ?_ | with_reducible exact rfl | with_reducible exact g_eqs | with_reducible exact g_nes | with_reducible exact g_neni | with_reducible exact g_nein | with_reducible exact g_nenn | with_reducible exact g_isn | with_reducible exact g_isi | with_reducible exact g_nsn | with_reducible exact g_nsi | with_reducible exact g_max | with_reducible exact g_max3 | with_reducible exact g_min | with_reducible exact g_intb | with_reducible apply g_gt2 | with_reducible apply g_gt3 | with_reducible apply g_tup | with_reducible apply g_lst | with_reducible exact lenOk rfl | with_reducible exact g_on | with_reducible apply g_os | with_reducible apply g_sl | with_reducible apply g_bkm | with_reducible exact g_okS )
      have G : gN 3 (wE t most w x y) (.str ⟨#[c]⟩) = some (wE t most w (some (.str ⟨#[c]⟩)) y) := rfl
      simp [G, B, hp]
theorem worth_run (C : Ctx) (h : HP) {t : Str} {most : Int} (ht : t.length ≤ 300) (hf : 1000 < C.fuel) : runFn C f_l_worth [.str t, .int most] h = .ok (nV t most) h := by
  have ln := g_lenS (z := t) (h := h) (by omega)
  have L := worth_loop C h (t := t) (most := most) ht t.length 0 0 none none (by omega) (by decide) C.fuel (by omega)
  rw [List.drop_zero] at L
  have hi : iA (eV 0) C [some (.str t), some (.int most), some (.int 0), none, none] h = .ok (itS t) h := rfl
  unfold nV
  by_cases q : t.cps.toList.all dig = true
  · rw [if_pos q] at L
    obtain ⟨x', y', L⟩ := L
    have F := fo_of (g := gN 3) hi L
    have dv : ((t.cps.toList.foldl (fun acc c => acc * 10 + (c - 48)) 0 : Nat) : Int) = ((digitsVal t.cps.toList : Nat) : Int) := rfl
    rw [dv] at F
    unfold wE at F
    by_cases h1 : t = ""
    · have l0 : t.length = 0 := by rw [h1]; rfl
      rw [if_neg (by omega)]
      refine run_rt rfl (by simp only [List.map_cons, List.map_nil, List.length_cons, List.length_nil, List.cons_append, List.nil_append, Nat.reduceAdd, Nat.reduceSub, List.replicate_succ, List.replicate_zero]; exact rfl) ?_
      (repeat' first | with_reducible exact F | with_reducible exact g_v rfl | with_reducible exact g_c | with_reducible exact g_an | with_reducible exact g_add | with_reducible exact g_sub | with_reducible exact g_iadd | with_reducible exact g_lt | with_reducible exact g_le | with_reducible exact g_gt | with_reducible exact g_ge | with_reducible exact g_eq | with_reducible exact g_ne | with_reducible exact g_neg | with_reducible exact g_mul (by first | assumption | omega | decide) | with_reducible exact g_div (by first | assumption | omega | decide) (by first | assumption | omega | decide) | with_reducible exact g_mod (by first | assumption | omega | decide) | with_reducible exact g_pow (by decide) | with_reducible apply g_isint | with_reducible exact g_sk | with_reducible exact g_rn | with_reducible exact g_bk | with_reducible exact g_ct | with_reducible exact g_gn0 | with_reducible apply g_gns | with_reducible exact g_ap0 | with_reducible apply g_apS | with_reducible apply g_op | with_reducible apply g_un | with_reducible apply g_ac | with_reducible apply g_call | with_reducible apply g_calld | with_reducible apply g_bf | with_reducible apply g_sq | with_reducible apply g_kn | with_reducible exact g_kr | with_reducible exact g_kb | with_reducible exact g_kc | with_reducible apply g_as | with_reducible apply g_pr | with_reducible apply g_au rfl | with_reducible apply g_rt | with_reducible apply g_ex | with_reducible apply g_if | with_reducible apply g_tv | with_reducible apply g_tan | with_reducible apply g_tor | with_reducible apply g_tnt | with_reducible apply g_ean | with_reducible apply g_eor | with_reducible apply g_ent | with_reducible apply g_eif | with_reducible apply g_iftt | with_reducible apply g_iffn | with_reducible apply g_ifff | with_reducible apply g_iftn | with_reducible refine g_ift (by first | assumption | omega | decide) ?_ | with_reducible refine g_iff (by first | assumption | omega | decide) ?_ | with_reducible refine g_ifnt (by first | assumption | omega | decide) ?_ | with_reducible refine g_ifnf (by first | assumption | omega | decide) ?_ | with_reducible exact rfl | with_reducible exact g_eqs | with_reducible exact g_nes | with_reducible exact g_neni | with_reducible exact g_nein | with_reducible exact g_nenn | with_reducible exact g_isn | with_reducible exact g_isi | with_reducible exact g_nsn | with_reducible exact g_nsi | with_reducible exact g_max | with_reducible exact g_max3 | with_reducible exact g_min | with_reducible exact g_intb | with_reducible apply g_gt2 | with_reducible apply g_gt3 | with_reducible apply g_tup | with_reducible apply g_lst | with_reducible exact lenOk rfl | with_reducible exact g_on | with_reducible apply g_os | with_reducible apply g_sl | with_reducible apply g_bkm | with_reducible exact g_okS )
    · have l1 : 1 ≤ t.length := by
        rcases Nat.lt_or_ge t.length 1 with z | z
        · exfalso
          apply h1
          have : t.cps.size = 0 := by show t.length = 0; omega
          have : t.cps = #[] := Array.size_eq_zero_iff.mp this
          cases t
          simp only at this
          rw [this]
          rfl
        · exact z
      by_cases h2 : most < t.length
      · rw [if_neg (by omega)]
        refine run_rt rfl (by simp only [List.map_cons, List.map_nil, List.length_cons, List.length_nil, List.cons_append, List.nil_append, Nat.reduceAdd, Nat.reduceSub, List.replicate_succ, List.replicate_zero]; exact rfl) ?_
        (repeat' first | with_reducible exact F | with_reducible exact ln | with_reducible exact g_v rfl | with_reducible exact g_c | with_reducible exact g_an | with_reducible exact g_add | with_reducible exact g_sub | with_reducible exact g_iadd | with_reducible exact g_lt | with_reducible exact g_le | with_reducible exact g_gt | with_reducible exact g_ge | with_reducible exact g_eq | with_reducible exact g_ne | with_reducible exact g_neg | with_reducible exact g_mul (by first | assumption | omega | decide) | with_reducible exact g_div (by first | assumption | omega | decide) (by first | assumption | omega | decide) | with_reducible exact g_mod (by first | assumption | omega | decide) | with_reducible exact g_pow (by decide) | with_reducible apply g_isint | with_reducible exact g_sk | with_reducible exact g_rn | with_reducible exact g_bk | with_reducible exact g_ct | with_reducible exact g_gn0 | with_reducible apply g_gns | with_reducible exact g_ap0 | with_reducible apply g_apS | with_reducible apply g_op | with_reducible apply g_un | with_reducible apply g_ac | with_reducible apply g_call | with_reducible apply g_calld | with_reducible apply g_bf | with_reducible apply g_sq | with_reducible apply g_kn | with_reducible exact g_kr | with_reducible exact g_kb | with_reducible exact g_kc | with_reducible apply g_as | with_reducible apply g_pr | with_reducible apply g_au rfl | with_reducible apply g_rt | with_reducible apply g_ex | with_reducible apply g_if | with_reducible apply g_tv | with_reducible apply g_tan | with_reducible apply g_tor | with_reducible apply g_tnt | with_reducible apply g_ean | with_reducible apply g_eor | with_reducible apply g_ent | with_reducible apply g_eif | with_reducible apply g_iftt | with_reducible apply g_iffn | with_reducible apply g_ifff | with_reducible apply g_iftn | with_reducible refine g_ift (by first | assumption | omega | decide) ?_ | with_reducible refine g_iff (by first | assumption | omega | decide) ?_ | with_reducible refine g_ifnt (by first | assumption | omega | decide) ?_ | with_reducible refine g_ifnf (by first | assumption | omega | decide) ?_ | with_reducible exact rfl | with_reducible exact g_eqs | with_reducible exact g_nes | with_reducible exact g_neni | with_reducible exact g_nein | with_reducible exact g_nenn | with_reducible exact g_isn | with_reducible exact g_isi | with_reducible exact g_nsn | with_reducible exact g_nsi | with_reducible exact g_max | with_reducible exact g_max3 | with_reducible exact g_min | with_reducible exact g_intb | with_reducible apply g_gt2 | with_reducible apply g_gt3 | with_reducible apply g_tup | with_reducible apply g_lst | with_reducible exact lenOk rfl | with_reducible exact g_on | with_reducible apply g_os | with_reducible apply g_sl | with_reducible apply g_bkm | with_reducible exact g_okS )
      · have ix := g_ixs (z := t) (i := 0) (h := h) (by omega) (by decide) (by omega)
        by_cases h4 : ch t 0 = "0"
        · by_cases h3 : 1 < t.length
          · have h3' : (1 : Int) < t.length := by omega
            rw [if_neg (fun z => z.2.2.2 ⟨h4, h3⟩)]
            refine run_rt rfl (by simp only [List.map_cons, List.map_nil, List.length_cons, List.length_nil, List.cons_append, List.nil_append, Nat.reduceAdd, Nat.reduceSub, List.replicate_succ, List.replicate_zero]; exact rfl) ?_
            (repeat' first | with_reducible exact F | with_reducible exact ln | with_reducible exact ix | with_reducible exact g_v rfl | with_reducible exact g_c | with_reducible exact g_an | with_reducible exact g_add | with_reducible exact g_sub | with_reducible exact g_iadd | with_reducible exact g_lt | with_reducible exact g_le | with_reducible exact g_gt | with_reducible exact g_ge | with_reducible exact g_eq | with_reducible exact g_ne | with_reducible exact g_neg | with_reducible exact g_mul (by first | assumption | omega | decide) | with_reducible exact g_div (by first | assumption | omega | decide) (by first | assumption | omega | decide) | with_reducible exact g_mod (by first | assumption | omega | decide) | with_reducible exact g_pow (by decide) | with_reducible apply g_isint | with_reducible exact g_sk | with_reducible exact g_rn | with_reducible exact g_bk | with_reducible exact g_ct | with_reducible exact g_gn0 | with_reducible apply g_gns | with_reducible exact g_ap0 | with_reducible apply g_apS | with_reducible apply g_op | with_reducible apply g_un | with_reducible apply g_ac | with_reducible apply g_call | with_reducible apply g_calld | with_reducible apply g_bf | with_reducible apply g_sq | with_reducible apply g_kn | with_reducible exact g_kr | with_reducible exact g_kb | with_reducible exact g_kc | with_reducible apply g_as | with_reducible apply g_pr | with_reducible apply g_au rfl | with_reducible apply g_rt | with_reducible apply g_ex | with_reducible apply g_if | with_reducible apply g_tv | with_reducible apply g_tan | with_reducible apply g_tor | with_reducible apply g_tnt | with_reducible apply g_ean | with_reducible apply g_eor | with_reducible apply g_ent | with_reducible apply g_eif | with_reducible apply g_iftt | with_reducible apply g_iffn | with_reducible apply g_ifff | with_reducible apply g_iftn | with_reducible refine g_ift (by first | assumption | omega | decide) ?_ | with_reducible refine g_iff (by first | assumption | omega | decide) ?_ | with_reducible refine g_ifnt (by first | assumption | omega | decide) ?_ | with_reducible refine g_ifnf (by first | assumption | omega | decide) ?_ | with_reducible exact rfl | with_reducible exact g_eqs | with_reducible exact g_nes | with_reducible exact g_neni | with_reducible exact g_nein | with_reducible exact g_nenn | with_reducible exact g_isn | with_reducible exact g_isi | with_reducible exact g_nsn | with_reducible exact g_nsi | with_reducible exact g_max | with_reducible exact g_max3 | with_reducible exact g_min | with_reducible exact g_intb | with_reducible apply g_gt2 | with_reducible apply g_gt3 | with_reducible apply g_tup | with_reducible apply g_lst | with_reducible exact lenOk rfl | with_reducible exact g_on | with_reducible apply g_os | with_reducible apply g_sl | with_reducible apply g_bkm | with_reducible exact g_okS )
          · have h3' : ¬ (1 : Int) < t.length := by omega
            rw [if_pos ⟨by omega, by omega, q, fun z => h3 z.2⟩]
            refine run_rt rfl (by simp only [List.map_cons, List.map_nil, List.length_cons, List.length_nil, List.cons_append, List.nil_append, Nat.reduceAdd, Nat.reduceSub, List.replicate_succ, List.replicate_zero]; exact rfl) ?_
            (repeat' first | with_reducible exact F | with_reducible exact ln | with_reducible exact ix | with_reducible exact g_v rfl | with_reducible exact g_c | with_reducible exact g_an | with_reducible exact g_add | with_reducible exact g_sub | with_reducible exact g_iadd | with_reducible exact g_lt | with_reducible exact g_le | with_reducible exact g_gt | with_reducible exact g_ge | with_reducible exact g_eq | with_reducible exact g_ne | with_reducible exact g_neg | with_reducible exact g_mul (by first | assumption | omega | decide) | with_reducible exact g_div (by first | assumption | omega | decide) (by first | assumption | omega | decide) | with_reducible exact g_mod (by first | assumption | omega | decide) | with_reducible exact g_pow (by decide) | with_reducible apply g_isint | with_reducible exact g_sk | with_reducible exact g_rn | with_reducible exact g_bk | with_reducible exact g_ct | with_reducible exact g_gn0 | with_reducible apply g_gns | with_reducible exact g_ap0 | with_reducible apply g_apS | with_reducible apply g_op | with_reducible apply g_un | with_reducible apply g_ac | with_reducible apply g_call | with_reducible apply g_calld | with_reducible apply g_bf | with_reducible apply g_sq | with_reducible apply g_kn | with_reducible exact g_kr | with_reducible exact g_kb | with_reducible exact g_kc | with_reducible apply g_as | with_reducible apply g_pr | with_reducible apply g_au rfl | with_reducible apply g_rt | with_reducible apply g_ex | with_reducible apply g_if | with_reducible apply g_tv | with_reducible apply g_tan | with_reducible apply g_tor | with_reducible apply g_tnt | with_reducible apply g_ean | with_reducible apply g_eor | with_reducible apply g_ent | with_reducible apply g_eif | with_reducible apply g_iftt | with_reducible apply g_iffn | with_reducible apply g_ifff | with_reducible apply g_iftn | with_reducible refine g_ift (by first | assumption | omega | decide) ?_ | with_reducible refine g_iff (by first | assumption | omega | decide) ?_ | with_reducible refine g_ifnt (by first | assumption | omega | decide) ?_ | with_reducible refine g_ifnf (by first | assumption | omega | decide) ?_ | with_reducible exact rfl | with_reducible exact g_eqs | with_reducible exact g_nes | with_reducible exact g_neni | with_reducible exact g_nein | with_reducible exact g_nenn | with_reducible exact g_isn | with_reducible exact g_isi | with_reducible exact g_nsn | with_reducible exact g_nsi | with_reducible exact g_max | with_reducible exact g_max3 | with_reducible exact g_min | with_reducible exact g_intb | with_reducible apply g_gt2 | with_reducible apply g_gt3 | with_reducible apply g_tup | with_reducible apply g_lst | with_reducible exact lenOk rfl | with_reducible exact g_on | with_reducible apply g_os | with_reducible apply g_sl | with_reducible apply g_bkm | with_reducible exact g_okS )
        · rw [if_pos ⟨by omega, by omega, q, fun z => h4 z.1⟩]
          refine run_rt rfl (by simp only [List.map_cons, List.map_nil, List.length_cons, List.length_nil, List.cons_append, List.nil_append, Nat.reduceAdd, Nat.reduceSub, List.replicate_succ, List.replicate_zero]; exact rfl) ?_
          (repeat' first | with_reducible exact F | with_reducible exact ln | with_reducible exact ix | with_reducible exact g_v rfl | with_reducible exact g_c | with_reducible exact g_an | with_reducible exact g_add | with_reducible exact g_sub | with_reducible exact g_iadd | with_reducible exact g_lt | with_reducible exact g_le | with_reducible exact g_gt | with_reducible exact g_ge | with_reducible exact g_eq | with_reducible exact g_ne | with_reducible exact g_neg | with_reducible exact g_mul (by first | assumption | omega | decide) | with_reducible exact g_div (by first | assumption | omega | decide) (by first | assumption | omega | decide) | with_reducible exact g_mod (by first | assumption | omega | decide) | with_reducible exact g_pow (by decide) | with_reducible apply g_isint | with_reducible exact g_sk | with_reducible exact g_rn | with_reducible exact g_bk | with_reducible exact g_ct | with_reducible exact g_gn0 | with_reducible apply g_gns | with_reducible exact g_ap0 | with_reducible apply g_apS | with_reducible apply g_op | with_reducible apply g_un | with_reducible apply g_ac | with_reducible apply g_call | with_reducible apply g_calld | with_reducible apply g_bf | with_reducible apply g_sq | with_reducible apply g_kn | with_reducible exact g_kr | with_reducible exact g_kb | with_reducible exact g_kc | with_reducible apply g_as | with_reducible apply g_pr | with_reducible apply g_au rfl | with_reducible apply g_rt | with_reducible apply g_ex | with_reducible apply g_if | with_reducible apply g_tv | with_reducible apply g_tan | with_reducible apply g_tor | with_reducible apply g_tnt | with_reducible apply g_ean | with_reducible apply g_eor | with_reducible apply g_ent | with_reducible apply g_eif | with_reducible apply g_iftt | with_reducible apply g_iffn | with_reducible apply g_ifff | with_reducible apply g_iftn | with_reducible refine g_ift (by first | assumption | omega | decide) ?_ | with_reducible refine g_iff (by first | assumption | omega | decide) ?_ | with_reducible refine g_ifnt (by first | assumption | omega | decide) ?_ | with_reducible refine g_ifnf (by first | assumption | omega | decide) ?_ | with_reducible exact rfl | with_reducible exact g_eqs | with_reducible exact g_nes | with_reducible exact g_neni | with_reducible exact g_nein | with_reducible exact g_nenn | with_reducible exact g_isn | with_reducible exact g_isi | with_reducible exact g_nsn | with_reducible exact g_nsi | with_reducible exact g_max | with_reducible exact g_max3 | with_reducible exact g_min | with_reducible exact g_intb | with_reducible apply g_gt2 | with_reducible apply g_gt3 | with_reducible apply g_tup | with_reducible apply g_lst | with_reducible exact lenOk rfl | with_reducible exact g_on | with_reducible apply g_os | with_reducible apply g_sl | with_reducible apply g_bkm | with_reducible exact g_okS )
  · rw [if_neg q] at L
    have F := fo_of (g := gN 3) hi L
    rw [if_neg (fun z => q z.2.2.1)]
    refine run_rt rfl (by simp only [List.map_cons, List.map_nil, List.length_cons, List.length_nil, List.cons_append, List.nil_append, Nat.reduceAdd, Nat.reduceSub, List.replicate_succ, List.replicate_zero]; exact rfl) ?_
    (repeat' first | with_reducible exact F | with_reducible exact g_v rfl | with_reducible exact g_c | with_reducible exact g_an | with_reducible exact g_add | with_reducible exact g_sub | with_reducible exact g_iadd | with_reducible exact g_lt | with_reducible exact g_le | with_reducible exact g_gt | with_reducible exact g_ge | with_reducible exact g_eq | with_reducible exact g_ne | with_reducible exact g_neg | with_reducible exact g_mul (by first | assumption | omega | decide) | with_reducible exact g_div (by first | assumption | omega | decide) (by first | assumption | omega | decide) | with_reducible exact g_mod (by first | assumption | omega | decide) | with_reducible exact g_pow (by decide) | with_reducible apply g_isint | with_reducible exact g_sk | with_reducible exact g_rn | with_reducible exact g_bk | with_reducible exact g_ct | with_reducible exact g_gn0 | with_reducible apply g_gns | with_reducible exact g_ap0 | with_reducible apply g_apS | with_reducible apply g_op | with_reducible apply g_un | with_reducible apply g_ac | with_reducible apply g_call | with_reducible apply g_calld | with_reducible apply g_bf | with_reducible apply g_sq | with_reducible apply g_kn | with_reducible exact g_kr | with_reducible exact g_kb | with_reducible exact g_kc | with_reducible apply g_as | with_reducible apply g_pr | with_reducible apply g_au rfl | with_reducible apply g_rt | with_reducible apply g_ex | with_reducible apply g_if | with_reducible apply g_tv | with_reducible apply g_tan | with_reducible apply g_tor | with_reducible apply g_tnt | with_reducible apply g_ean | with_reducible apply g_eor | with_reducible apply g_ent | with_reducible apply g_eif | with_reducible apply g_iftt | with_reducible apply g_iffn | with_reducible apply g_ifff | with_reducible apply g_iftn | with_reducible refine g_ift (by first | assumption | omega | decide) ?_ | with_reducible refine g_iff (by first | assumption | omega | decide) ?_ | with_reducible refine g_ifnt (by first | assumption | omega | decide) ?_ | with_reducible refine g_ifnf (by first | assumption | omega | decide) ?_ | with_reducible exact rfl | with_reducible exact g_eqs | with_reducible exact g_nes | with_reducible exact g_neni | with_reducible exact g_nein | with_reducible exact g_nenn | with_reducible exact g_isn | with_reducible exact g_isi | with_reducible exact g_nsn | with_reducible exact g_nsi | with_reducible exact g_max | with_reducible exact g_max3 | with_reducible exact g_min | with_reducible exact g_intb | with_reducible apply g_gt2 | with_reducible apply g_gt3 | with_reducible apply g_tup | with_reducible apply g_lst | with_reducible exact lenOk rfl | with_reducible exact g_on | with_reducible apply g_os | with_reducible apply g_sl | with_reducible apply g_bkm | with_reducible exact g_okS )
theorem tells_run (C : Ctx) (h : HP) {x : D} (hx : x = .non ∨ ∃ v, x = .int v) : runFn C f_l_tells [x, x] h = .ok (.bl true) h := by
  rcases hx with rfl | ⟨v, rfl⟩
  · refine run_rt rfl (by simp only [List.map_cons, List.map_nil, List.length_cons, List.length_nil, List.cons_append, List.nil_append, Nat.reduceAdd, Nat.reduceSub, List.replicate_succ, List.replicate_zero]; exact rfl) ?_
    (repeat' first | with_reducible exact g_v rfl | with_reducible exact g_c | with_reducible exact g_an | with_reducible exact g_add | with_reducible exact g_sub | with_reducible exact g_iadd | with_reducible exact g_lt | with_reducible exact g_le | with_reducible exact g_gt | with_reducible exact g_ge | with_reducible exact g_eq | with_reducible exact g_ne | with_reducible exact g_neg | with_reducible exact g_mul (by first | assumption | omega | decide) | with_reducible exact g_div (by first | assumption | omega | decide) (by first | assumption | omega | decide) | with_reducible exact g_mod (by first | assumption | omega | decide) | with_reducible exact g_pow (by decide) | with_reducible apply g_isint | with_reducible exact g_sk | with_reducible exact g_rn | with_reducible exact g_bk | with_reducible exact g_ct | with_reducible exact g_gn0 | with_reducible apply g_gns | with_reducible exact g_ap0 | with_reducible apply g_apS | with_reducible apply g_op | with_reducible apply g_un | with_reducible apply g_ac | with_reducible apply g_call | with_reducible apply g_calld | with_reducible apply g_bf | with_reducible apply g_sq | with_reducible apply g_kn | with_reducible exact g_kr | with_reducible exact g_kb | with_reducible exact g_kc | with_reducible apply g_as | with_reducible apply g_pr | with_reducible apply g_au rfl | with_reducible apply g_rt | with_reducible apply g_ex | with_reducible apply g_if | with_reducible apply g_tv | with_reducible apply g_tan | with_reducible apply g_tor | with_reducible apply g_tnt | with_reducible apply g_ean | with_reducible apply g_eor | with_reducible apply g_ent | with_reducible apply g_eif | with_reducible apply g_iftt | with_reducible apply g_iffn | with_reducible apply g_ifff | with_reducible apply g_iftn | with_reducible refine g_ift (by first | assumption | omega | decide) ?_ | with_reducible refine g_iff (by first | assumption | omega | decide) ?_ | with_reducible refine g_ifnt (by first | assumption | omega | decide) ?_ | with_reducible refine g_ifnf (by first | assumption | omega | decide) ?_ | with_reducible exact rfl | with_reducible exact g_eqs | with_reducible exact g_nes | with_reducible exact g_neni | with_reducible exact g_nein | with_reducible exact g_nenn | with_reducible exact g_isn | with_reducible exact g_isi | with_reducible exact g_nsn | with_reducible exact g_nsi | with_reducible exact g_max | with_reducible exact g_max3 | with_reducible exact g_min | with_reducible exact g_intb | with_reducible apply g_gt2 | with_reducible apply g_gt3 | with_reducible apply g_tup | with_reducible apply g_lst | with_reducible exact lenOk rfl | with_reducible exact g_on | with_reducible apply g_os | with_reducible apply g_sl | with_reducible apply g_bkm | with_reducible exact g_okS )
  · have i1 : ∀ e : Ev, e[0]? = some (some (.int v)) → eIs "int" (eV 0) C e h = .ok (.bl true) h := fun e q => g_isint (g_v q)
    have i2 : ∀ e : Ev, e[0]? = some (some (.int v)) → eIs "bool" (eV 0) C e h = .ok (.bl false) h := fun e q => g_isint (g_v q)
    refine run_rt rfl (by simp only [List.map_cons, List.map_nil, List.length_cons, List.length_nil, List.cons_append, List.nil_append, Nat.reduceAdd, Nat.reduceSub, List.replicate_succ, List.replicate_zero]; exact rfl) ?_
    (repeat' first | with_reducible exact i1 _ rfl | with_reducible exact i2 _ rfl | with_reducible exact g_eqr | with_reducible exact g_v rfl | with_reducible exact g_c | with_reducible exact g_an | with_reducible exact g_add | with_reducible exact g_sub | with_reducible exact g_iadd | with_reducible exact g_lt | with_reducible exact g_le | with_reducible exact g_gt | with_reducible exact g_ge | with_reducible exact g_eq | with_reducible exact g_ne | with_reducible exact g_neg | with_reducible exact g_mul (by first | assumption | omega | decide) | with_reducible exact g_div (by first | assumption | omega | decide) (by first | assumption | omega | decide) | with_reducible exact g_mod (by first | assumption | omega | decide) | with_reducible exact g_pow (by decide) | with_reducible apply g_isint | with_reducible exact g_sk | with_reducible exact g_rn | with_reducible exact g_bk | with_reducible exact g_ct | with_reducible exact g_gn0 | with_reducible apply g_gns | with_reducible exact g_ap0 | with_reducible apply g_apS | with_reducible apply g_op | with_reducible apply g_un | with_reducible apply g_ac | with_reducible apply g_call | with_reducible apply g_calld | with_reducible apply g_bf | with_reducible apply g_sq | with_reducible apply g_kn | with_reducible exact g_kr | with_reducible exact g_kb | with_reducible exact g_kc | with_reducible apply g_as | with_reducible apply g_pr | with_reducible apply g_au rfl | with_reducible apply g_rt | with_reducible apply g_ex | with_reducible apply g_if | with_reducible apply g_tv | with_reducible apply g_tan | with_reducible apply g_tor | with_reducible apply g_tnt | with_reducible apply g_ean | with_reducible apply g_eor | with_reducible apply g_ent | with_reducible apply g_eif | with_reducible apply g_iftt | with_reducible apply g_iffn | with_reducible apply g_ifff | with_reducible apply g_iftn | with_reducible refine g_ift (by first | assumption | omega | decide) ?_ | with_reducible refine g_iff (by first | assumption | omega | decide) ?_ | with_reducible refine g_ifnt (by first | assumption | omega | decide) ?_ | with_reducible refine g_ifnf (by first | assumption | omega | decide) ?_ | with_reducible exact rfl | with_reducible exact g_eqs | with_reducible exact g_nes | with_reducible exact g_neni | with_reducible exact g_nein | with_reducible exact g_nenn | with_reducible exact g_isn | with_reducible exact g_isi | with_reducible exact g_nsn | with_reducible exact g_nsi | with_reducible exact g_max | with_reducible exact g_max3 | with_reducible exact g_min | with_reducible exact g_intb | with_reducible apply g_gt2 | with_reducible apply g_gt3 | with_reducible apply g_tup | with_reducible apply g_lst | with_reducible exact lenOk rfl | with_reducible exact g_on | with_reducible apply g_os | with_reducible apply g_sl | with_reducible apply g_bkm | with_reducible exact g_okS )
theorem nV_kind (t : Str) (m : Int) : nV t m = .non ∨ ∃ v, nV t m = .int v := by
  unfold nV
  split
  · exact .inr ⟨_, rfl⟩
  · exact .inl rfl
abbrev SG1 : Str := " !\"#$&'()*+,-./0123456789:;<=>?@ABCDEFGHIJKLMNOPQRSTUVWXYZ[\\]^_`"
abbrev SG2 : Str := "abcdefghijklmnopqrstuvwxyz{|}~\n\t"
theorem sg1_len : SG1.length = 64 := by decide +kernel
theorem sg2_len : SG2.length = 32 := by decide +kernel
theorem dig_len : DIG.length = 10 := by decide +kernel
theorem let_len : LET.length = 26 := by decide +kernel
theorem sign_by_run (C : Ctx) (h : HP) {n : Int} : runFn C f_l_sign_by [.int n] h = .ok (.str (ch (SG1 ++ SG2) (n % 96))) h := by
  have ad := g_addS (a := SG1) (b := SG2) (h := h) (by rw [sg1_len, sg2_len]; decide)
  have l96 : (SG1 ++ SG2).length = 96 := by rw [app_len, sg1_len, sg2_len]
  have n0 := Int.emod_nonneg n (show (96 : Int) ≠ 0 by decide)
  have n1 := Int.emod_lt_of_pos n (show (0 : Int) < 96 by decide)
  have ix := g_ixs (z := SG1 ++ SG2) (i := n % 96) (h := h) (by rw [l96]; decide) n0 (by rw [l96]; omega)
  refine run_rt rfl (by simp only [List.map_cons, List.map_nil, List.length_cons, List.length_nil, List.cons_append, List.nil_append, Nat.reduceAdd, Nat.reduceSub, List.replicate_succ, List.replicate_zero]; exact rfl) ?_
  (repeat' first | with_reducible exact ad | with_reducible exact ix | with_reducible exact g_v rfl | with_reducible exact g_c | with_reducible exact g_an | with_reducible exact g_add | with_reducible exact g_sub | with_reducible exact g_iadd | with_reducible exact g_lt | with_reducible exact g_le | with_reducible exact g_gt | with_reducible exact g_ge | with_reducible exact g_eq | with_reducible exact g_ne | with_reducible exact g_neg | with_reducible exact g_mul (by first | assumption | omega | decide) | with_reducible exact g_div (by first | assumption | omega | decide) (by first | assumption | omega | decide) | with_reducible exact g_mod (by first | assumption | omega | decide) | with_reducible exact g_pow (by decide) | with_reducible apply g_isint | with_reducible exact g_sk | with_reducible exact g_rn | with_reducible exact g_bk | with_reducible exact g_ct | with_reducible exact g_gn0 | with_reducible apply g_gns | with_reducible exact g_ap0 | with_reducible apply g_apS | with_reducible apply g_op | with_reducible apply g_un | with_reducible apply g_ac | with_reducible apply g_call | with_reducible apply g_calld | with_reducible apply g_bf | with_reducible apply g_sq | with_reducible apply g_kn | with_reducible exact g_kr | with_reducible exact g_kb | with_reducible exact g_kc | with_reducible apply g_as | with_reducible apply g_pr | with_reducible apply g_au rfl | with_reducible apply g_rt | with_reducible apply g_ex | with_reducible apply g_if | with_reducible apply g_tv | with_reducible apply g_tan | with_reducible apply g_tor | with_reducible apply g_tnt | with_reducible apply g_ean | with_reducible apply g_eor | with_reducible apply g_ent | with_reducible apply g_eif | with_reducible apply g_iftt | with_reducible apply g_iffn | with_reducible apply g_ifff | with_reducible apply g_iftn | with_reducible refine g_ift (by first | assumption | omega | decide) ?_ | with_reducible refine g_iff (by first | assumption | omega | decide) ?_ | with_reducible refine g_ifnt (by first | assumption | omega | decide) ?_ | with_reducible refine g_ifnf (by first | assumption | omega | decide) ?_ | with_reducible exact rfl | with_reducible exact g_eqs | with_reducible exact g_nes | with_reducible exact g_neni | with_reducible exact g_nein | with_reducible exact g_nenn | with_reducible exact g_isn | with_reducible exact g_isi | with_reducible exact g_nsn | with_reducible exact g_nsi | with_reducible exact g_max | with_reducible exact g_max3 | with_reducible exact g_min | with_reducible exact g_intb | with_reducible apply g_gt2 | with_reducible apply g_gt3 | with_reducible apply g_tup | with_reducible apply g_lst | with_reducible exact lenOk rfl | with_reducible exact g_on | with_reducible apply g_os | with_reducible apply g_sl | with_reducible apply g_bkm | with_reducible exact g_okS )
theorem pick2 {P : D → Prop} {a0 a1 : D} {k : Int} (k0 : 0 ≤ k) (k1 : k < 2) (p0 : P a0) (p1 : P a1) : ∃ v, P v ∧ [a0, a1][k.toNat]? = some v := by
  obtain ⟨n, rfl⟩ : ∃ n : Nat, k = n := ⟨k.toNat, by omega⟩
  rw [Int.toNat_natCast]
  match n, (show n < 2 by omega) with
  | 0, _ => exact ⟨_, p0, rfl⟩
  | 1, _ => exact ⟨_, p1, rfl⟩
theorem text_run (n : Nat) (h : HP) {cell : Int} (hc : Lt2 cell 2000000) (c21 : ∀ h, ∃ zs : List Int, zs.length = 94 ∧ (∀ z ∈ zs, 0 ≤ z) ∧ (ctx T n).call 21 [.int cell, .int 94] h = .ok (.ref h.length) (h ++ [.lst (zs.map D.int)]))
    (c22 : ∀ k h, (ctx T n).call 22 [.int k] h = .ok (.str (ch (SG1 ++ SG2) (k % 96))) h) (fu : 1000 < (ctx T n).fuel) : ∃ t tl, t.length ≤ 300 ∧ runFn (ctx T n) f_l_text [.int cell] h = .ok (.str t) (h ++ tl) := by
  obtain ⟨zs, zl, z0, st⟩ := c21 h
  have ix : ∀ (k : Int) (tl : HP), 0 ≤ k → k < 94 → opIx (.ref h.length) (.int k) (h ++ [.lst (zs.map D.int)] ++ tl) = .ok (.int (zs.getD k.toNat 0)) (h ++ [.lst (zs.map D.int)] ++ tl) := fun k tl k0 k1 => by
    refine g_ixl (ks := zs.map D.int) (get_app (by rw [List.getElem?_append_right (Nat.le_refl _)]; simp)) k0 ?_
    rw [List.getElem?_map, List.getElem?_eq_getElem (by omega), List.getD_eq_getElem?_getD, List.getElem?_eq_getElem (by omega)]
    rfl
  have nn : ∀ k : Nat, 0 ≤ zs.getD k 0 := fun k => by
    rw [List.getD_eq_getElem?_getD]
    cases e : zs[k]? with
    | none => exact Int.le_refl 0
    | some z => exact z0 z (List.mem_of_getElem? e)
  have i90 := fun tl => ix 90 tl (by decide) (by decide)
  have i91 := fun tl => ix 91 tl (by decide) (by decide)
  have i92 := fun tl => ix 92 tl (by decide) (by decide)
  have i93 := fun tl => ix 93 tl (by decide) (by decide)
  have hs1 : isL h.length (h ++ [.lst (zs.map D.int)]) = some (zs.map D.int) := isL_new
  have ap0 : h ++ [O.lst (zs.map D.int)] = h ++ [O.lst (zs.map D.int)] ++ [] := by simp
  have isA : ∀ tl, isL h.length (h ++ [.lst (zs.map D.int)] ++ tl) = some (zs.map D.int) := fun tl => isL_of (get_app (by rw [List.getElem?_append_right (Nat.le_refl _)]; simp))
  generalize hh1 : h ++ [O.lst (zs.map D.int)] = h1 at *
  have n91 := nn (91 : Int).toNat
  generalize zs.getD (90 : Int).toNat 0 = v90 at *
  generalize zs.getD (91 : Int).toNat 0 = v91 at *
  generalize zs.getD (92 : Int).toNat 0 = v92 at *
  generalize zs.getD (93 : Int).toNat 0 = v93 at *
  -- the signs
  obtain ⟨sg, ⟨w, hw, hw0, hw1⟩, hsg⟩ := pick2 (P := fun d => ∃ w : Str, d = .str w ∧ 0 < w.length ∧ w.length ≤ 26) (a0 := .str DIG) (a1 := .str LET) (Int.emod_nonneg v90 (show (2 : Int) ≠ 0 by decide)) (Int.emod_lt_of_pos v90 (show (0 : Int) < 2 by decide))
    ⟨_, rfl, by rw [dig_len]; decide, by rw [dig_len]; decide⟩ ⟨_, rfl, by rw [let_len]; decide, by rw [let_len]; decide⟩
  subst hw
  have j1 := g_ixn (h := h1) (xs := [.str DIG, .str LET]) (Int.emod_nonneg v90 (show (2 : Int) ≠ 0 by decide)) hsg
  -- how many
  have a0 := Int.emod_nonneg v91 (show (11 : Int) ≠ 0 by decide)
  have a1 := Int.emod_lt_of_pos v91 (show (0 : Int) < 11 by decide)
  have b0 := Int.emod_nonneg v91 (show (91 : Int) ≠ 0 by decide)
  have b1 := Int.emod_lt_of_pos v91 (show (0 : Int) < 91 by decide)
  obtain ⟨mm, ⟨m, hm, hm0, hm1⟩, hmm⟩ := pick2 (P := fun d => ∃ m : Int, d = .int m ∧ 0 ≤ m ∧ m ≤ 90) (a0 := .int (v91 % 11)) (a1 := .int (v91 % 91)) (Int.emod_nonneg (v91 / 91) (show (2 : Int) ≠ 0 by decide)) (Int.emod_lt_of_pos (v91 / 91) (show (0 : Int) < 2 by decide))
    ⟨_, rfl, a0, by omega⟩ ⟨_, rfl, b0, by omega⟩
  subst hm
  have j2 := g_ixn (h := h1 ++ [.lst [.str DIG, .str LET]]) (xs := [.int (v91 % 11), .int (v91 % 91)]) (Int.emod_nonneg (v91 / 91) (show (2 : Int) ≠ 0 by decide)) hmm
  have k90 := i90 [.lst [.str DIG, .str LET]]
  have k91 := i91 [.lst [.str DIG, .str LET]]
  have k91b := i91 ([.lst [.str DIG, .str LET]] ++ [.lst [.int (v91 % 11), .int (v91 % 91)]])
  rw [← List.append_assoc] at k91b
  have d91 : divOk (91 : Int) = true := by decide
  have d4 : divOk (4 : Int) = true := by decide
  obtain ⟨h3, hh3⟩ : ∃ h3, h3 = h1 ++ [O.lst [.str DIG, .str LET]] ++ [O.lst [.int (v91 % 11), .int (v91 % 91)]] := ⟨_, rfl⟩
  have e3 : h3 = h1 ++ ([O.lst [.str DIG, .str LET]] ++ [O.lst [.int (v91 % 11), .int (v91 % 91)]]) := by rw [hh3, List.append_assoc]
  -- the text
  have cut := cut_take (α := Int) (zs.map D.int) m hm0 (by rw [List.length_map]; omega)
  have sl := g_slL (l := none) (u := some m) (h := h3) (i := h.length) (ds := zs.map D.int) (by rw [e3]; exact isA _)
  rw [cut, ← List.map_take] at sl
  obtain ⟨ws, hws⟩ : ∃ ws, ws = zs.take m.toNat := ⟨_, rfl⟩
  rw [← hws] at sl
  have wl : ws.length = m.toNat := by rw [hws, List.length_take]; omega
  obtain ⟨h4, hh4⟩ : ∃ h4, h4 = h3 ++ [O.lst (ws.map D.int)] := ⟨_, rfl⟩
  rw [← hh4] at sl
  have lw : ∀ h : HP, bLen [.str w] h = .ok (.int w.length) h := fun h => g_lenS (by omega)
  have el : isL h3.length h4 = some (ws.map D.int) := by rw [hh4]; exact isL_new
  have g4 : h4[h3.length]? = some (.lst (ws.map D.int)) := by rw [hh4, List.getElem?_append_right (Nat.le_refl _)]; simp
  have LC : eLc [6] (gN 6) (iA (eSl opSl (eV 1) oN (oS (eV 3)))) tY (eOp opIx (eV 2) (eOp opMod (eV 6) (eBf bLen (aC (eV 2) aN)))) (ctx T n) [some (.int cell), some (.ref h.length), some (.str w), some (.int m), none, none, none] h3 =
      .ok (.ref h4.length) (h4 ++ [.lst (((List.range m.toNat).map fun j => ch w (ws.getD j 0 % w.length)).map D.str)]) := by
    have hi : iA (eSl opSl (eV 1) oN (oS (eV 3))) (ctx T n) [some (.int cell), some (.ref h.length), some (.str w), some (.int m), none, none, none] h3 = .ok (itL h3.length) h4 := by
      have q : eSl opSl (eV 1) oN (oS (eV 3)) (ctx T n) [some (.int cell), some (.ref h.length), some (.str w), some (.int m), none, none, none] h3 = .ok (.ref h3.length) h4 := by (repeat' first | with_reducible exact sl | with_reducible exact g_v rfl | with_reducible exact g_c | with_reducible exact g_an | with_reducible exact g_add | with_reducible exact g_sub | with_reducible exact g_iadd | with_reducible exact g_lt | with_reducible exact g_le | with_reducible exact g_gt | with_reducible exact g_ge | with_reducible exact g_eq | with_reducible exact g_ne | with_reducible exact g_neg | with_reducible exact g_mul (by first | assumption | omega | decide) | with_reducible exact g_div (by first | assumption | omega | decide) (by first | assumption | omega | decide) | with_reducible exact g_mod (by first | assumption | omega | decide) | with_reducible exact g_pow (by decide) | with_reducible apply g_isint | with_reducible exact g_sk | with_reducible exact g_rn | with_reducible exact g_bk | with_reducible exact g_ct | with_reducible exact g_gn0 | with_reducible apply g_gns | with_reducible exact g_ap0 | with_reducible apply g_apS | with_reducible apply g_op | with_reducible apply g_un | with_reducible apply g_ac | with_reducible apply g_call | with_reducible apply g_calld | with_reducible apply g_bf | with_reducible apply g_sq | with_reducible apply g_kn | with_reducible exact g_kr | with_reducible exact g_kb | with_reducible exact g_kc | with_reducible apply g_as | with_reducible apply g_pr | with_reducible apply g_au rfl | with_reducible apply g_rt | with_reducible apply g_ex | with_reducible apply g_if | with_reducible apply g_tv | with_reducible apply g_tan | with_reducible apply g_tor | with_reducible apply g_tnt | with_reducible apply g_ean | with_reducible apply g_eor | with_reducible apply g_ent | with_reducible apply g_eif | with_reducible apply g_iftt | with_reducible apply g_iffn | with_reducible apply g_ifff | with_reducible apply g_iftn | with_reducible refine g_ift (by first | assumption | omega | decide) ?_ | with_reducible refine g_iff (by first | assumption | omega | decide) ?_ | with_reducible refine g_ifnt (by first | assumption | omega | decide) ?_ | with_reducible refine g_ifnf (by first | assumption | omega | decide) ?_ | with_reducible exact rfl | with_reducible exact g_eqs | with_reducible exact g_nes | with_reducible exact g_neni | with_reducible exact g_nein | with_reducible exact g_nenn | with_reducible exact g_isn | with_reducible exact g_isi | with_reducible exact g_nsn | with_reducible exact g_nsi | with_reducible exact g_max | with_reducible exact g_max3 | with_reducible exact g_min | with_reducible exact g_intb | with_reducible apply g_gt2 | with_reducible apply g_gt3 | with_reducible apply g_tup | with_reducible apply g_lst | with_reducible exact lenOk rfl | with_reducible exact g_on | with_reducible apply g_os | with_reducible apply g_sl | with_reducible apply g_bkm | with_reducible exact g_okS )
      unfold iA
      rw [q]
      simp only [R.bind_ok, el]
    refine lc_of hi ?_
    rw [List.map_map]
    refine cmp_all (n := m.toNat) (fun j => .int (ws.getD j 0)) (fun j => .str (ch w (ws.getD j 0 % w.length))) (fun j hj => ?_) ?_ (fun j hj => ⟨_, rfl, ?_⟩) (by rw [sizeLine_eq]; omega) m.toNat 0 [] (by omega) rfl _ (by omega)
    · simp only [itL, g4]
      rw [List.getElem?_map, List.getElem?_eq_getElem (by omega), List.getD_eq_getElem?_getD, List.getElem?_eq_getElem (by omega)]
      rfl
    · simp only [itL, g4]
      rw [List.getElem?_eq_none (by simp; omega)]
    · have q0 := Int.emod_nonneg (ws.getD j 0) (show (w.length : Int) ≠ 0 by omega)
      have q1 := Int.emod_lt_of_pos (ws.getD j 0) (show (0 : Int) < w.length by omega)
      have ixs := g_ixs (z := w) (i := ws.getD j 0 % w.length) (h := h4) (by omega) q0 q1
      show (eOp opIx (eV 2) (eOp opMod (eV 6) (eBf bLen (aC (eV 2) aN)))) (ctx T n) [some (.int cell), some (.ref h.length), some (.str w), some (.int m), none, none, some (.int (ws.getD j 0))] h4 = _
      (repeat' first | with_reducible exact lw _ | with_reducible exact ixs | with_reducible exact g_v rfl | with_reducible exact g_c | with_reducible exact g_an | with_reducible exact g_add | with_reducible exact g_sub | with_reducible exact g_iadd | with_reducible exact g_lt | with_reducible exact g_le | with_reducible exact g_gt | with_reducible exact g_ge | with_reducible exact g_eq | with_reducible exact g_ne | with_reducible exact g_neg | with_reducible exact g_mul (by first | assumption | omega | decide) | with_reducible exact g_div (by first | assumption | omega | decide) (by first | assumption | omega | decide) | with_reducible exact g_mod (by first | assumption | omega | decide) | with_reducible exact g_pow (by decide) | with_reducible apply g_isint | with_reducible exact g_sk | with_reducible exact g_rn | with_reducible exact g_bk | with_reducible exact g_ct | with_reducible exact g_gn0 | with_reducible apply g_gns | with_reducible exact g_ap0 | with_reducible apply g_apS | with_reducible apply g_op | with_reducible apply g_un | with_reducible apply g_ac | with_reducible apply g_call | with_reducible apply g_calld | with_reducible apply g_bf | with_reducible apply g_sq | with_reducible apply g_kn | with_reducible exact g_kr | with_reducible exact g_kb | with_reducible exact g_kc | with_reducible apply g_as | with_reducible apply g_pr | with_reducible apply g_au rfl | with_reducible apply g_rt | with_reducible apply g_ex | with_reducible apply g_if | with_reducible apply g_tv | with_reducible apply g_tan | with_reducible apply g_tor | with_reducible apply g_tnt | with_reducible apply g_ean | with_reducible apply g_eor | with_reducible apply g_ent | with_reducible apply g_eif | with_reducible apply g_iftt | with_reducible apply g_iffn | with_reducible apply g_ifff | with_reducible apply g_iftn | with_reducible refine g_ift (by first | assumption | omega | decide) ?_ | with_reducible refine g_iff (by first | assumption | omega | decide) ?_ | with_reducible refine g_ifnt (by first | assumption | omega | decide) ?_ | with_reducible refine g_ifnf (by first | assumption | omega | decide) ?_ | with_reducible exact rfl | with_reducible exact g_eqs | with_reducible exact g_nes | with_reducible exact g_neni | with_reducible exact g_nein | with_reducible exact g_nenn | with_reducible exact g_isn | with_reducible exact g_isi | with_reducible exact g_nsn | with_reducible exact g_nsi | with_reducible exact g_max | with_reducible exact g_max3 | with_reducible exact g_min | with_reducible exact g_intb | with_reducible apply g_gt2 | with_reducible apply g_gt3 | with_reducible apply g_tup | with_reducible apply g_lst | with_reducible exact lenOk rfl | with_reducible exact g_on | with_reducible apply g_os | with_reducible apply g_sl | with_reducible apply g_bkm | with_reducible exact g_okS )
  obtain ⟨ys, hys⟩ : ∃ ys, ys = (List.range m.toNat).map fun j => ch w (ws.getD j 0 % w.length) := ⟨_, rfl⟩
  rw [← hys] at LC
  have yl : ys.length = m.toNat := by rw [hys]; simp
  have ysum : (ys.map (·.length)).sum = m.toNat := by
    have : ys.map (·.length) = List.replicate m.toNat 1 := by
      rw [hys, List.map_map, List.eq_replicate_iff]
      refine ⟨by simp, fun b hb => ?_⟩
      obtain ⟨j, _, rfl⟩ := List.mem_map.mp hb
      rfl
    rw [this]; simp
  have jl := txtjoin_len "" ys
  have z0' : ("" : Str).length = 0 := rfl
  rw [ysum, z0'] at jl
  have jn := g_join (a := "") (i := h4.length) (ys := ys) (h := h4 ++ [.lst (ys.map D.str)]) isL_new (by rw [ysum, z0']; omega)
  obtain ⟨t, ht⟩ : ∃ t, t = Txt.join "" ys := ⟨_, rfl⟩
  rw [← ht] at jn jl
  obtain ⟨h5, hh5⟩ : ∃ h5, h5 = h4 ++ [O.lst (ys.map D.str)] := ⟨_, rfl⟩
  rw [← hh5] at jn LC
  have e5 : h5 = h1 ++ ([O.lst [.str DIG, .str LET]] ++ [O.lst [.int (v91 % 11), .int (v91 % 91)]] ++ [O.lst (ws.map D.int)] ++ [O.lst (ys.map D.str)]) := by rw [hh5, hh4, e3]; simp [List.append_assoc]
  have x92 := i92 ([O.lst [.str DIG, .str LET]] ++ [O.lst [.int (v91 % 11), .int (v91 % 91)]] ++ [O.lst (ws.map D.int)] ++ [O.lst (ys.map D.str)])
  have x93 := i93 ([O.lst [.str DIG, .str LET]] ++ [O.lst [.int (v91 % 11), .int (v91 % 91)]] ++ [O.lst (ws.map D.int)] ++ [O.lst (ys.map D.str)])
  rw [← e5] at x92 x93
  have tail : h5 = h ++ ([O.lst (zs.map D.int)] ++ ([O.lst [.str DIG, .str LET]] ++ [O.lst [.int (v91 % 11), .int (v91 % 91)]] ++ [O.lst (ws.map D.int)] ++ [O.lst (ys.map D.str)])) := by rw [e5, ← hh1]; simp [List.append_assoc]
  obtain ⟨tl, tail⟩ : ∃ tl, h5 = h ++ tl := ⟨_, tail⟩
  subst hh3
  by_cases c1 : v92 % 4 = 1
  · by_cases c2 : 0 < m
    · have q0 := Int.emod_nonneg (v92 / 4) (show m ≠ 0 by omega)
      have q1 := Int.emod_lt_of_pos (v92 / 4) c2
      have s1 := g_slS (z := t) (a := none) (b := some (v92 / 4 % m)) (h := h5) (by omega)
      have s2 := g_slS (z := t) (a := some (v92 / 4 % m + 1)) (b := none) (h := h5) (by omega)
      have l1 := cutS_len t none (some (v92 / 4 % m))
      have l2 := cutS_len t (some (v92 / 4 % m + 1)) none
      have ad1 := g_addS (a := cutS t none (some (v92 / 4 % m))) (b := ch (SG1 ++ SG2) (v93 % 96)) (h := h5) (by rw [ch_len]; omega)
      have ad2 := g_addS (a := cutS t none (some (v92 / 4 % m)) ++ ch (SG1 ++ SG2) (v93 % 96)) (b := cutS t (some (v92 / 4 % m + 1)) none) (h := h5) (by rw [app_len, ch_len]; omega)
      refine ⟨cutS t none (some (v92 / 4 % m)) ++ ch (SG1 ++ SG2) (v93 % 96) ++ cutS t (some (v92 / 4 % m + 1)) none, tl, by rw [app_len, app_len, ch_len]; omega, ?_⟩
      rw [← tail]
      refine run_rt rfl (by simp only [List.map_cons, List.map_nil, List.length_cons, List.length_nil, List.cons_append, List.nil_append, Nat.reduceAdd, Nat.reduceSub, List.replicate_succ, List.replicate_zero]; exact rfl) ?_
      (repeat' first | with_reducible exact st | with_reducible exact k90 | with_reducible exact j1 | with_reducible exact k91 | with_reducible exact k91b | with_reducible exact j2 | with_reducible exact LC | with_reducible exact jn | with_reducible exact x92 | with_reducible exact x93 | with_reducible exact s1 | with_reducible exact s2 | with_reducible exact c22 _ _ | with_reducible exact ad1 | with_reducible exact ad2 | with_reducible exact g_v rfl | with_reducible exact g_c | with_reducible exact g_an | with_reducible exact g_add | with_reducible exact g_sub | with_reducible exact g_iadd | with_reducible exact g_lt | with_reducible exact g_le | with_reducible exact g_gt | with_reducible exact g_ge | with_reducible exact g_eq | with_reducible exact g_ne | with_reducible exact g_neg | with_reducible exact g_mul (by first | assumption | omega | decide) | with_reducible exact g_div (by first | assumption | omega | decide) (by first | assumption | omega | decide) | with_reducible exact g_mod (by first | assumption | omega | decide) | with_reducible exact g_pow (by decide) | with_reducible apply g_isint | with_reducible exact g_sk | with_reducible exact g_rn | with_reducible exact g_bk | with_reducible exact g_ct | with_reducible exact g_gn0 | with_reducible apply g_gns | with_reducible exact g_ap0 | with_reducible apply g_apS | with_reducible apply g_op | with_reducible apply g_un | with_reducible apply g_ac | with_reducible apply g_call | with_reducible apply g_calld | with_reducible apply g_bf | with_reducible apply g_sq | with_reducible apply g_kn | with_reducible exact g_kr | with_reducible exact g_kb | with_reducible exact g_kc | with_reducible apply g_as | with_reducible apply g_pr | with_reducible apply g_au rfl | with_reducible apply g_rt | with_reducible apply g_ex | with_reducible apply g_if | with_reducible apply g_tv | with_reducible apply g_tan | with_reducible apply g_tor | with_reducible apply g_tnt | with_reducible apply g_ean | with_reducible apply g_eor | with_reducible apply g_ent | with_reducible apply g_eif | with_reducible apply g_iftt | with_reducible apply g_iffn | with_reducible apply g_ifff | with_reducible apply g_iftn | with_reducible refine g_ift (by first | assumption | omega | decide) ?_ | with_reducible refine g_iff (by first | assumption | omega | decide) ?_ | with_reducible refine g_ifnt (by first | assumption | omega | decide) ?_ | with_reducible refine g_ifnf (by first | assumption | omega | decide) ?_ | with_reducible exact rfl | with_reducible exact g_eqs | with_reducible exact g_nes | with_reducible exact g_neni | with_reducible exact g_nein | with_reducible exact g_nenn | with_reducible exact g_isn | with_reducible exact g_isi | with_reducible exact g_nsn | with_reducible exact g_nsi | with_reducible exact g_max | with_reducible exact g_max3 | with_reducible exact g_min | with_reducible exact g_intb | with_reducible apply g_gt2 | with_reducible apply g_gt3 | with_reducible apply g_tup | with_reducible apply g_lst | with_reducible exact lenOk rfl | with_reducible exact g_on | with_reducible apply g_os | with_reducible apply g_sl | with_reducible apply g_bkm | with_reducible exact g_okS )
    · refine ⟨t, tl, by omega, ?_⟩
      rw [← tail]
      refine run_rt rfl (by simp only [List.map_cons, List.map_nil, List.length_cons, List.length_nil, List.cons_append, List.nil_append, Nat.reduceAdd, Nat.reduceSub, List.replicate_succ, List.replicate_zero]; exact rfl) ?_
      (repeat' first | with_reducible exact st | with_reducible exact k90 | with_reducible exact j1 | with_reducible exact k91 | with_reducible exact k91b | with_reducible exact j2 | with_reducible exact LC | with_reducible exact jn | with_reducible exact x92 | with_reducible exact g_v rfl | with_reducible exact g_c | with_reducible exact g_an | with_reducible exact g_add | with_reducible exact g_sub | with_reducible exact g_iadd | with_reducible exact g_lt | with_reducible exact g_le | with_reducible exact g_gt | with_reducible exact g_ge | with_reducible exact g_eq | with_reducible exact g_ne | with_reducible exact g_neg | with_reducible exact g_mul (by first | assumption | omega | decide) | with_reducible exact g_div (by first | assumption | omega | decide) (by first | assumption | omega | decide) | with_reducible exact g_mod (by first | assumption | omega | decide) | with_reducible exact g_pow (by decide) | with_reducible apply g_isint | with_reducible exact g_sk | with_reducible exact g_rn | with_reducible exact g_bk | with_reducible exact g_ct | with_reducible exact g_gn0 | with_reducible apply g_gns | with_reducible exact g_ap0 | with_reducible apply g_apS | with_reducible apply g_op | with_reducible apply g_un | with_reducible apply g_ac | with_reducible apply g_call | with_reducible apply g_calld | with_reducible apply g_bf | with_reducible apply g_sq | with_reducible apply g_kn | with_reducible exact g_kr | with_reducible exact g_kb | with_reducible exact g_kc | with_reducible apply g_as | with_reducible apply g_pr | with_reducible apply g_au rfl | with_reducible apply g_rt | with_reducible apply g_ex | with_reducible apply g_if | with_reducible apply g_tv | with_reducible apply g_tan | with_reducible apply g_tor | with_reducible apply g_tnt | with_reducible apply g_ean | with_reducible apply g_eor | with_reducible apply g_ent | with_reducible apply g_eif | with_reducible apply g_iftt | with_reducible apply g_iffn | with_reducible apply g_ifff | with_reducible apply g_iftn | with_reducible refine g_ift (by first | assumption | omega | decide) ?_ | with_reducible refine g_iff (by first | assumption | omega | decide) ?_ | with_reducible refine g_ifnt (by first | assumption | omega | decide) ?_ | with_reducible refine g_ifnf (by first | assumption | omega | decide) ?_ | with_reducible exact rfl | with_reducible exact g_eqs | with_reducible exact g_nes | with_reducible exact g_neni | with_reducible exact g_nein | with_reducible exact g_nenn | with_reducible exact g_isn | with_reducible exact g_isi | with_reducible exact g_nsn | with_reducible exact g_nsi | with_reducible exact g_max | with_reducible exact g_max3 | with_reducible exact g_min | with_reducible exact g_intb | with_reducible apply g_gt2 | with_reducible apply g_gt3 | with_reducible apply g_tup | with_reducible apply g_lst | with_reducible exact lenOk rfl | with_reducible exact g_on | with_reducible apply g_os | with_reducible apply g_sl | with_reducible apply g_bkm | with_reducible exact g_okS )
  · refine ⟨t, tl, by omega, ?_⟩
    rw [← tail]
    refine run_rt rfl (by simp only [List.map_cons, List.map_nil, List.length_cons, List.length_nil, List.cons_append, List.nil_append, Nat.reduceAdd, Nat.reduceSub, List.replicate_succ, List.replicate_zero]; exact rfl) ?_
    (repeat' first | with_reducible exact st | with_reducible exact k90 | with_reducible exact j1 | with_reducible exact k91 | with_reducible exact k91b | with_reducible exact j2 | with_reducible exact LC | with_reducible exact jn | with_reducible exact x92 | with_reducible exact g_v rfl | with_reducible exact g_c | with_reducible exact g_an | with_reducible exact g_add | with_reducible exact g_sub | with_reducible exact g_iadd | with_reducible exact g_lt | with_reducible exact g_le | with_reducible exact g_gt | with_reducible exact g_ge | with_reducible exact g_eq | with_reducible exact g_ne | with_reducible exact g_neg | with_reducible exact g_mul (by first | assumption | omega | decide) | with_reducible exact g_div (by first | assumption | omega | decide) (by first | assumption | omega | decide) | with_reducible exact g_mod (by first | assumption | omega | decide) | with_reducible exact g_pow (by decide) | with_reducible apply g_isint | with_reducible exact g_sk | with_reducible exact g_rn | with_reducible exact g_bk | with_reducible exact g_ct | with_reducible exact g_gn0 | with_reducible apply g_gns | with_reducible exact g_ap0 | with_reducible apply g_apS | with_reducible apply g_op | with_reducible apply g_un | with_reducible apply g_ac | with_reducible apply g_call | with_reducible apply g_calld | with_reducible apply g_bf | with_reducible apply g_sq | with_reducible apply g_kn | with_reducible exact g_kr | with_reducible exact g_kb | with_reducible exact g_kc | with_reducible apply g_as | with_reducible apply g_pr | with_reducible apply g_au rfl | with_reducible apply g_rt | with_reducible apply g_ex | with_reducible apply g_if | with_reducible apply g_tv | with_reducible apply g_tan | with_reducible apply g_tor | with_reducible apply g_tnt | with_reducible apply g_ean | with_reducible apply g_eor | with_reducible apply g_ent | with_reducible apply g_eif | with_reducible apply g_iftt | with_reducible apply g_iffn | with_reducible apply g_ifff | with_reducible apply g_iftn | with_reducible refine g_ift (by first | assumption | omega | decide) ?_ | with_reducible refine g_iff (by first | assumption | omega | decide) ?_ | with_reducible refine g_ifnt (by first | assumption | omega | decide) ?_ | with_reducible refine g_ifnf (by first | assumption | omega | decide) ?_ | with_reducible exact rfl | with_reducible exact g_eqs | with_reducible exact g_nes | with_reducible exact g_neni | with_reducible exact g_nein | with_reducible exact g_nenn | with_reducible exact g_isn | with_reducible exact g_isi | with_reducible exact g_nsn | with_reducible exact g_nsi | with_reducible exact g_max | with_reducible exact g_max3 | with_reducible exact g_min | with_reducible exact g_intb | with_reducible apply g_gt2 | with_reducible apply g_gt3 | with_reducible apply g_tup | with_reducible apply g_lst | with_reducible exact lenOk rfl | with_reducible exact g_on | with_reducible apply g_os | with_reducible apply g_sl | with_reducible apply g_bkm | with_reducible exact g_okS )
theorem fuel_T (n : Nat) : (ctx T n).fuel = FUEL := by cases n <;> rfl
theorem FUEL_eq : FUEL = 10 ^ 70 := rfl
theorem c19 (n : Nat) : (ctx T (n + 1)).call 19 = runFn (ctx T n) f_is_word := rfl
theorem c20 (n : Nat) : (ctx T (n + 1)).call 20 = runFn (ctx T n) f_number_of := rfl
theorem c21 (n : Nat) : (ctx T (n + 1)).call 21 = runFn (ctx T n) f_l_stream := rfl
theorem c22 (n : Nat) : (ctx T (n + 1)).call 22 = runFn (ctx T n) f_l_sign_by := rfl
theorem c23 (n : Nat) : (ctx T (n + 1)).call 23 = runFn (ctx T n) f_l_text := rfl
theorem c24 (n : Nat) : (ctx T (n + 1)).call 24 = runFn (ctx T n) f_l_is_word := rfl
theorem c25 (n : Nat) : (ctx T (n + 1)).call 25 = runFn (ctx T n) f_l_worth := rfl
theorem c26 (n : Nat) : (ctx T (n + 1)).call 26 = runFn (ctx T n) f_l_tells := rfl
theorem g_isbl {C : Ctx} {e : Ev} {h h1 : HP} {a : ME} {p : Bool} {T : String} (ha : a C e h = .ok (.bl p) h1) : eIs T a C e h = .ok (.bl ("bool" == T || ("bool" == "bool" && T == "int"))) h1 := by unfold eIs; rw [ha]; rfl
theorem g_nebl {p : Bool} {h : HP} : opNe (.bl p) (.bl p) h = .ok (.bl false) h := by
  show R.ok (D.bl !decide (p = p)) h = _
  rw [decide_eq_true rfl]; rfl
theorem law_true (ns : List Int) (hl63 : ns.length ≤ 63) (hb : ∀ z ∈ ns, Builtin.Int.intBits z ≤ 1048576) : ∃ h', runFn (ctx T 12) f_law [.ref 0] [.fz (ns.map D.int)] = .ok (.bl true) h' := by
  generalize hh : ([.fz (ns.map D.int)] : HP) = h
  have hi : h[0]? = some (.fz (ns.map D.int)) := by subst hh; rfl
  have fu : ∀ n, 5000 < (ctx T n).fuel := fun n => by rw [fuel_T, FUEL_eq]; omega
  have r23 : ∀ c h, Lt2 c 2000000 → ∃ t tl, t.length ≤ 300 ∧ (ctx T 12).call 23 [.int c] h = .ok (.str t) (h ++ tl) := fun c h lc => by
    rw [c23]
    refine text_run 11 h lc (fun h => ?_) (fun k h => ?_) (by have := fu 11; omega)
    · obtain ⟨zs, z1, z2, z3⟩ := stream_run (ctx T 10) h (many := 94) lc (by decide) (by decide) (by have := fu 10; omega)
      exact ⟨zs, z1, z2, by rw [c21]; exact z3⟩
    · rw [c22]; exact sign_by_run _ h
  obtain ⟨zs, hc, hm, hn⟩ := cut_int ns none (some 40)
  obtain ⟨hA, hhA⟩ : ∃ hA, hA = h ++ [O.lst [.str ""]] := ⟨_, rfl⟩
  obtain ⟨hB, hhB⟩ : ∃ hB, hB = hA ++ [O.lst (zs.map D.int)] := ⟨_, rfl⟩
  have iA0 : isL 0 hA = some (ns.map D.int) := isL_fz (by rw [hhA]; exact get_app hi)
  have sl := g_slL (l := none) (u := some 40) iA0
  rw [hc, ← hhB] at sl
  have gB : hB[hA.length]? = some (.lst (zs.map D.int)) := by rw [hhB, List.getElem?_append_right (Nat.le_refl _)]; simp
  have LC : ∃ ys tl, ys.length = zs.length ∧ (∀ o ∈ ys, ∃ t : Str, o = .str t ∧ t.length ≤ 300) ∧ eLc [5] (gN 5) (iA (eSl opSl (eV 0) oN (oS (eC (.int 40))))) tY (eCall 23 (aC (eV 5) aN) []) (ctx T 12) [some (.ref 0), none, none, none, none, none] hA = .ok (.ref (hB ++ tl).length) (hB ++ tl ++ [.lst ys]) := by
    have hi : iA (eSl opSl (eV 0) oN (oS (eC (.int 40)))) (ctx T 12) [some (.ref 0), none, none, none, none, none] hA = .ok (itL hA.length) hB := by
      have q : eSl opSl (eV 0) oN (oS (eC (.int 40))) (ctx T 12) [some (.ref 0), none, none, none, none, none] hA = .ok (.ref hA.length) hB := by (repeat' first | with_reducible exact sl | with_reducible exact g_v rfl | with_reducible exact g_c | with_reducible exact g_an | with_reducible exact g_add | with_reducible exact g_sub | with_reducible exact g_iadd | with_reducible exact g_lt | with_reducible exact g_le | with_reducible exact g_gt | with_reducible exact g_ge | with_reducible exact g_eq | with_reducible exact g_ne | with_reducible exact g_neg | with_reducible exact g_mul (by first | assumption | omega | decide) | with_reducible exact g_div (by first | assumption | omega | decide) (by first | assumption | omega | decide) | with_reducible exact g_mod (by first | assumption | omega | decide) | with_reducible exact g_pow (by decide) | with_reducible apply g_isint | with_reducible exact g_sk | with_reducible exact g_rn | with_reducible exact g_bk | with_reducible exact g_ct | with_reducible exact g_gn0 | with_reducible apply g_gns | with_reducible exact g_ap0 | with_reducible apply g_apS | with_reducible apply g_op | with_reducible apply g_un | with_reducible apply g_ac | with_reducible apply g_call | with_reducible apply g_calld | with_reducible apply g_bf | with_reducible apply g_sq | with_reducible apply g_kn | with_reducible exact g_kr | with_reducible exact g_kb | with_reducible exact g_kc | with_reducible apply g_as | with_reducible apply g_pr | with_reducible apply g_au rfl | with_reducible apply g_rt | with_reducible apply g_ex | with_reducible apply g_if | with_reducible apply g_tv | with_reducible apply g_tan | with_reducible apply g_tor | with_reducible apply g_tnt | with_reducible apply g_ean | with_reducible apply g_eor | with_reducible apply g_ent | with_reducible apply g_eif | with_reducible apply g_iftt | with_reducible apply g_iffn | with_reducible apply g_ifff | with_reducible apply g_iftn | with_reducible refine g_ift (by first | assumption | omega | decide) ?_ | with_reducible refine g_iff (by first | assumption | omega | decide) ?_ | with_reducible refine g_ifnt (by first | assumption | omega | decide) ?_ | with_reducible refine g_ifnf (by first | assumption | omega | decide) ?_ | with_reducible exact rfl | with_reducible exact g_eqs | with_reducible exact g_nes | with_reducible exact g_neni | with_reducible exact g_nein | with_reducible exact g_nenn | with_reducible exact g_isn | with_reducible exact g_isi | with_reducible exact g_nsn | with_reducible exact g_nsi | with_reducible exact g_max | with_reducible exact g_max3 | with_reducible exact g_min | with_reducible exact g_intb | with_reducible apply g_gt2 | with_reducible apply g_gt3 | with_reducible apply g_tup | with_reducible apply g_lst | with_reducible exact lenOk rfl | with_reducible exact g_on | with_reducible apply g_os | with_reducible apply g_sl | with_reducible apply g_bkm | with_reducible exact g_okS )
      unfold iA
      rw [q]
      simp only [R.bind_ok, isL_of gB]
    obtain ⟨ys, h2, r1, r2, r3, tl, r4⟩ := cmp_grow (C := ctx T 12) (a := eCall 23 (aC (eV 5) aN) []) (it := itL hA.length) (g := gN 5) (n := zs.length) (e0 := [some (.ref 0), none, none, none, none, none])
      (fun j => .int (zs.getD j 0)) (fun h' => ∃ tl, h' = hB ++ tl) (fun o => ∃ t : Str, o = .str t ∧ t.length ≤ 300)
      (fun j h' hj ⟨tl, e⟩ => by
        subst e
        simp only [itL, get_app gB]
        rw [List.getElem?_map, List.getElem?_eq_getElem hj, List.getD_eq_getElem?_getD, List.getElem?_eq_getElem hj]
        rfl)
      (fun h' ⟨tl, e⟩ => by
        subst e
        simp only [itL, get_app gB]
        rw [List.getElem?_eq_none (by simp)])
      (fun j h' hj ⟨tl, e⟩ => by
        subst e
        have hz : zs.getD j 0 ∈ zs := by
          rw [List.getD_eq_getElem?_getD, List.getElem?_eq_getElem hj]
          exact List.getElem_mem hj
        obtain ⟨t, tl2, tl3, q⟩ := r23 (zs.getD j 0) (hB ++ tl) ((Lt2.of_bits (hb _ (hm _ hz))).mono (by decide))
        refine ⟨_, rfl, .str t, hB ++ tl ++ tl2, ?_, ⟨tl ++ tl2, by rw [List.append_assoc]⟩, t, rfl, tl3⟩
        show (eCall 23 (aC (eV 5) aN) []) (ctx T 12) [some (.ref 0), none, none, none, none, some (.int (zs.getD j 0))] (hB ++ tl) = _
        (repeat' first | with_reducible exact q | with_reducible exact g_v rfl | with_reducible exact g_c | with_reducible exact g_an | with_reducible exact g_add | with_reducible exact g_sub | with_reducible exact g_iadd | with_reducible exact g_lt | with_reducible exact g_le | with_reducible exact g_gt | with_reducible exact g_ge | with_reducible exact g_eq | with_reducible exact g_ne | with_reducible exact g_neg | with_reducible exact g_mul (by first | assumption | omega | decide) | with_reducible exact g_div (by first | assumption | omega | decide) (by first | assumption | omega | decide) | with_reducible exact g_mod (by first | assumption | omega | decide) | with_reducible exact g_pow (by decide) | with_reducible apply g_isint | with_reducible exact g_sk | with_reducible exact g_rn | with_reducible exact g_bk | with_reducible exact g_ct | with_reducible exact g_gn0 | with_reducible apply g_gns | with_reducible exact g_ap0 | with_reducible apply g_apS | with_reducible apply g_op | with_reducible apply g_un | with_reducible apply g_ac | with_reducible apply g_call | with_reducible apply g_calld | with_reducible apply g_bf | with_reducible apply g_sq | with_reducible apply g_kn | with_reducible exact g_kr | with_reducible exact g_kb | with_reducible exact g_kc | with_reducible apply g_as | with_reducible apply g_pr | with_reducible apply g_au rfl | with_reducible apply g_rt | with_reducible apply g_ex | with_reducible apply g_if | with_reducible apply g_tv | with_reducible apply g_tan | with_reducible apply g_tor | with_reducible apply g_tnt | with_reducible apply g_ean | with_reducible apply g_eor | with_reducible apply g_ent | with_reducible apply g_eif | with_reducible apply g_iftt | with_reducible apply g_iffn | with_reducible apply g_ifff | with_reducible apply g_iftn | with_reducible refine g_ift (by first | assumption | omega | decide) ?_ | with_reducible refine g_iff (by first | assumption | omega | decide) ?_ | with_reducible refine g_ifnt (by first | assumption | omega | decide) ?_ | with_reducible refine g_ifnf (by first | assumption | omega | decide) ?_ | with_reducible exact rfl | with_reducible exact g_eqs | with_reducible exact g_nes | with_reducible exact g_neni | with_reducible exact g_nein | with_reducible exact g_nenn | with_reducible exact g_isn | with_reducible exact g_isi | with_reducible exact g_nsn | with_reducible exact g_nsi | with_reducible exact g_max | with_reducible exact g_max3 | with_reducible exact g_min | with_reducible exact g_intb | with_reducible apply g_gt2 | with_reducible apply g_gt3 | with_reducible apply g_tup | with_reducible apply g_lst | with_reducible exact lenOk rfl | with_reducible exact g_on | with_reducible apply g_os | with_reducible apply g_sl | with_reducible apply g_bkm | with_reducible exact g_okS ))
      (by rw [sizeLine_eq]; omega) zs.length 0 [] hB (by omega) rfl (fun o ho => by cases ho) ⟨[], by simp⟩ (ctx T 12).fuel (by have := fu 12; omega)
    subst r4
    exact ⟨ys, tl, r2, r3, lc_of hi r1⟩
  obtain ⟨ys, tl, yl, yq, LC⟩ := LC
  obtain ⟨hC, hhC⟩ : ∃ hC, hC = hB ++ tl ++ [O.lst ys] := ⟨_, rfl⟩
  rw [← hhC] at LC
  have gA : hC[h.length]? = some (.lst [.str ""]) := by
    rw [hhC, hhB, hhA]
    refine get_app (get_app (get_app ?_))
    rw [List.getElem?_append_right (Nat.le_refl _)]; simp
  have gY : hC[(hB ++ tl).length]? = some (.lst ys) := by rw [hhC, List.getElem?_append_right (Nat.le_refl _)]; simp
  have ad : opAdd (.ref h.length) (.ref (hB ++ tl).length) hC = .ok (.ref hC.length) (hC ++ [.lst (.str "" :: ys)]) := by
    have l : [D.str ""].length + ys.length ≤ sizeLine := by rw [sizeLine_eq, List.length_singleton]; omega
    simp only [opAdd, gA, gY, if_pos l]
    rfl
  obtain ⟨xs, hxs⟩ : ∃ xs, xs = D.str "" :: ys := ⟨_, rfl⟩
  have xq : ∀ o ∈ xs, ∃ t : Str, o = .str t ∧ t.length ≤ 300 := fun o ho => by
    rw [hxs] at ho
    rcases List.mem_cons.mp ho with rfl | ho
    · exact ⟨"", rfl, by decide⟩
    · exact yq o ho
  have xl : xs.length ≤ 64 := by rw [hxs, List.length_cons]; omega
  rw [← hxs] at ad
  obtain ⟨hD, hhD⟩ : ∃ hD, hD = hC ++ [O.lst xs] := ⟨_, rfl⟩
  rw [← hhD] at ad
  have gX : hD[hC.length]? = some (.lst xs) := by rw [hhD, List.getElem?_append_right (Nat.le_refl _)]; simp
  have lnX := g_lenL gX
  have ab : ∀ e : Ev, e[0]? = some (some (.ref 0)) → (eLst (aC (eC (.str "")) aN)) (ctx T 12) e h = .ok (.ref h.length) hA := fun e q => by
    rw [hhA]
    (repeat' first | with_reducible exact g_v rfl | with_reducible exact g_c | with_reducible exact g_an | with_reducible exact g_add | with_reducible exact g_sub | with_reducible exact g_iadd | with_reducible exact g_lt | with_reducible exact g_le | with_reducible exact g_gt | with_reducible exact g_ge | with_reducible exact g_eq | with_reducible exact g_ne | with_reducible exact g_neg | with_reducible exact g_mul (by first | assumption | omega | decide) | with_reducible exact g_div (by first | assumption | omega | decide) (by first | assumption | omega | decide) | with_reducible exact g_mod (by first | assumption | omega | decide) | with_reducible exact g_pow (by decide) | with_reducible apply g_isint | with_reducible exact g_sk | with_reducible exact g_rn | with_reducible exact g_bk | with_reducible exact g_ct | with_reducible exact g_gn0 | with_reducible apply g_gns | with_reducible exact g_ap0 | with_reducible apply g_apS | with_reducible apply g_op | with_reducible apply g_un | with_reducible apply g_ac | with_reducible apply g_call | with_reducible apply g_calld | with_reducible apply g_bf | with_reducible apply g_sq | with_reducible apply g_kn | with_reducible exact g_kr | with_reducible exact g_kb | with_reducible exact g_kc | with_reducible apply g_as | with_reducible apply g_pr | with_reducible apply g_au rfl | with_reducible apply g_rt | with_reducible apply g_ex | with_reducible apply g_if | with_reducible apply g_tv | with_reducible apply g_tan | with_reducible apply g_tor | with_reducible apply g_tnt | with_reducible apply g_ean | with_reducible apply g_eor | with_reducible apply g_ent | with_reducible apply g_eif | with_reducible apply g_iftt | with_reducible apply g_iffn | with_reducible apply g_ifff | with_reducible apply g_iftn | with_reducible refine g_ift (by first | assumption | omega | decide) ?_ | with_reducible refine g_iff (by first | assumption | omega | decide) ?_ | with_reducible refine g_ifnt (by first | assumption | omega | decide) ?_ | with_reducible refine g_ifnf (by first | assumption | omega | decide) ?_ | with_reducible exact rfl | with_reducible exact g_eqs | with_reducible exact g_nes | with_reducible exact g_neni | with_reducible exact g_nein | with_reducible exact g_nenn | with_reducible exact g_isn | with_reducible exact g_isi | with_reducible exact g_nsn | with_reducible exact g_nsi | with_reducible exact g_max | with_reducible exact g_max3 | with_reducible exact g_min | with_reducible exact g_intb | with_reducible apply g_gt2 | with_reducible apply g_gt3 | with_reducible apply g_tup | with_reducible apply g_lst | with_reducible exact lenOk rfl | with_reducible exact g_on | with_reducible apply g_os | with_reducible apply g_sl | with_reducible apply g_bkm | with_reducible exact g_okS )
  have w12 := fu 12
  have w11 := fu 11
  have dd3 : divOk (3 : Int) = true := by decide
  have L : ∃ x2 x3 x4, sFo (gN 2) (iR1 (eBf bLen (aC (eV 1) aN))) b_law_1 (ctx T 12) [some (.ref 0), some (.ref hC.length), none, none, none, none] hD = .ok (.nx [some (.ref 0), some (.ref hC.length), x2, x3, x4, none]) hD := by
    obtain ⟨e2, h2, hfor, hv⟩ := for_go (it := itR 0 xs.length) (g := gN 2) (b := b_law_1) (C := ctx T 12) (n := xs.length)
      (fun j => .int (0 + j)) (fun j e h' => h' = hD ∧ ∃ x2 x3 x4, e = [some (.ref 0), some (.ref hC.length), x2, x3, x4, none])
      (fun j e h' hj _ => by simp only [itR, if_pos hj]) (fun e h' _ => by simp [itR])
      (fun j e h' hj ⟨e1, x2, x3, x4, e2⟩ => by
        subst e1 e2
        obtain ⟨t, et, tl⟩ := xq xs[j] (List.getElem_mem hj)
        have ix := g_ixl (k := 0 + (j : Int)) gX (by omega) (d := .str t) (by
          have : (0 + (j : Int)).toNat = j := by omega
          rw [this, List.getElem?_eq_getElem hj, et])
        have ln := g_lenS (z := t) (h := h') (by omega)
        have v19 : (ctx T 12).call 19 [.str t] h' = .ok (.bl (isW t)) h' := by rw [c19]; exact is_word_run _ h' tl (by omega)
        have v24 : (ctx T 12).call 24 [.str t] h' = .ok (.bl (isW t)) h' := by rw [c24]; exact l_is_word_run _ h' tl (by omega)
        have v20 : ∀ m, (ctx T 12).call 20 [.str t, .int m] h' = .ok (nV t m) h' := fun m => by rw [c20]; exact number_of_run _ h' tl (by omega)
        have v25 : ∀ m, (ctx T 12).call 25 [.str t, .int m] h' = .ok (nV t m) h' := fun m => by rw [c25]; exact worth_run _ h' tl (by omega)
        have v26 : ∀ m, (ctx T 12).call 26 [nV t m, nV t m] h' = .ok (.bl true) h' := fun m => by rw [c26]; exact tells_run _ h' (nV_kind t m)
        have mk : mulOk (t.length : Int) 7 = true := mulOk_of (a := 40) (b := 40) ⟨by rw [Int.natAbs_natCast]; exact Nat.lt_of_le_of_lt tl (by decide)⟩ ⟨by decide⟩ (by decide)
        have ib : ∀ (p : Bool) (x4 x5 : Option D), eIs "bool" (eV 3) (ctx T 12) [some (.ref 0), some (.ref hC.length), some (.int (0 + (j : Int))), some (.bl p), x4, x5] h' = .ok (.bl true) h' := fun p x4 x5 => g_isbl (g_v rfl)
        have dd2 : divOk (3 : Int) = true := by decide
        unfold b_law_1
        apply turn_of
        · (repeat' first | with_reducible exact g_v rfl | with_reducible exact g_c | with_reducible exact g_an | with_reducible exact g_add | with_reducible exact g_sub | with_reducible exact g_iadd | with_reducible exact g_lt | with_reducible exact g_le | with_reducible exact g_gt | with_reducible exact g_ge | with_reducible exact g_eq | with_reducible exact g_ne | with_reducible exact g_neg | with_reducible exact g_mul (by first | assumption | omega | decide) | with_reducible exact g_div (by first | assumption | omega | decide) (by first | assumption | omega | decide) | with_reducible exact g_mod (by first | assumption | omega | decide) | with_reducible exact g_pow (by decide) | with_reducible apply g_isint | with_reducible exact g_sk | with_reducible exact g_rn | with_reducible exact g_bk | with_reducible exact g_ct | with_reducible exact g_gn0 | with_reducible apply g_gns | with_reducible exact g_ap0 | with_reducible apply g_apS | with_reducible apply g_op | with_reducible apply g_un | with_reducible apply g_ac | with_reducible apply g_call | with_reducible apply g_calld | with_reducible apply g_bf | with_reducible apply g_sq | with_reducible apply g_kn | with_reducible exact g_kr | with_reducible exact g_kb | with_reducible exact g_kc | with_reducible apply g_as | with_reducible apply g_pr | with_reducible apply g_au rfl | with_reducible apply g_rt | with_reducible apply g_ex | with_reducible apply g_if | with_reducible apply g_tv | with_reducible apply g_tan | with_reducible apply g_tor | with_reducible apply g_tnt | with_reducible apply g_ean | with_reducible apply g_eor | with_reducible apply g_ent | with_reducible apply g_eif | with_reducible apply g_iftt | with_reducible apply g_iffn | with_reducible apply g_ifff | with_reducible apply g_iftn | with_reducible refine g_ift (by first | assumption | omega | decide) ?_ | with_reducible refine g_iff (by first | assumption | omega | decide) ?_ | with_reducible refine g_ifnt (by first | assumption | omega | decide) ?_ | with_reducible refine g_ifnf (by first | assumption | omega | decide) ?_ | with_reducible exact rfl | with_reducible exact g_eqs | with_reducible exact g_nes | with_reducible exact g_neni | with_reducible exact g_nein | with_reducible exact g_nenn | with_reducible exact g_isn | with_reducible exact g_isi | with_reducible exact g_nsn | with_reducible exact g_nsi | with_reducible exact g_max | with_reducible exact g_max3 | with_reducible exact g_min | with_reducible exact g_intb | with_reducible apply g_gt2 | with_reducible apply g_gt3 | with_reducible apply g_tup | with_reducible apply g_lst | with_reducible exact lenOk rfl | with_reducible exact g_on | with_reducible apply g_os | with_reducible apply g_sl | with_reducible apply g_bkm | with_reducible exact g_okS )
        by_cases k1 : (0 + (j : Int)) % 3 = 1
        · apply body_nx
          · (repeat' first | with_reducible exact ix | with_reducible exact v19 | with_reducible exact v24 | with_reducible exact ib _ _ _ | with_reducible exact g_nebl | with_reducible exact ln | with_reducible exact v20 _ | with_reducible exact v25 _ | with_reducible exact v26 _ | with_reducible exact g_v rfl | with_reducible exact g_c | with_reducible exact g_an | with_reducible exact g_add | with_reducible exact g_sub | with_reducible exact g_iadd | with_reducible exact g_lt | with_reducible exact g_le | with_reducible exact g_gt | with_reducible exact g_ge | with_reducible exact g_eq | with_reducible exact g_ne | with_reducible exact g_neg | with_reducible exact g_mul (by first | assumption | omega | decide) | with_reducible exact g_div (by first | assumption | omega | decide) (by first | assumption | omega | decide) | with_reducible exact g_mod (by first | assumption | omega | decide) | with_reducible exact g_pow (by decide) | with_reducible apply g_isint | with_reducible exact g_sk | with_reducible exact g_rn | with_reducible exact g_bk | with_reducible exact g_ct | with_reducible exact g_gn0 | with_reducible apply g_gns | with_reducible exact g_ap0 | with_reducible apply g_apS | with_reducible apply g_op | with_reducible apply g_un | with_reducible apply g_ac | with_reducible apply g_call | with_reducible apply g_calld | with_reducible apply g_bf | with_reducible apply g_sq | with_reducible apply g_kn | with_reducible exact g_kr | with_reducible exact g_kb | with_reducible exact g_kc | with_reducible apply g_as | with_reducible apply g_pr | with_reducible apply g_au rfl | with_reducible apply g_rt | with_reducible apply g_ex | with_reducible apply g_if | with_reducible apply g_tv | with_reducible apply g_tan | with_reducible apply g_tor | with_reducible apply g_tnt | with_reducible apply g_ean | with_reducible apply g_eor | with_reducible apply g_ent | with_reducible apply g_eif | with_reducible apply g_iftt | with_reducible apply g_iffn | with_reducible apply g_ifff | with_reducible apply g_iftn | with_reducible refine g_ift (by first | assumption | omega | decide) ?_ | with_reducible refine g_iff (by first | assumption | omega | decide) ?_ | with_reducible refine g_ifnt (by first | assumption | omega | decide) ?_ | with_reducible refine g_ifnf (by first | assumption | omega | decide) ?_ | with_reducible exact rfl | with_reducible exact g_eqs | with_reducible exact g_nes | with_reducible exact g_neni | with_reducible exact g_nein | with_reducible exact g_nenn | with_reducible exact g_isn | with_reducible exact g_isi | with_reducible exact g_nsn | with_reducible exact g_nsi | with_reducible exact g_max | with_reducible exact g_max3 | with_reducible exact g_min | with_reducible exact g_intb | with_reducible apply g_gt2 | with_reducible apply g_gt3 | with_reducible apply g_tup | with_reducible apply g_lst | with_reducible exact lenOk rfl | with_reducible exact g_on | with_reducible apply g_os | with_reducible apply g_sl | with_reducible apply g_bkm | with_reducible exact g_okS )
          · exact ⟨rfl, _, _, _, rfl⟩
        · apply body_nx
          · (repeat' first | with_reducible exact ix | with_reducible exact v19 | with_reducible exact v24 | with_reducible exact ib _ _ _ | with_reducible exact g_nebl | with_reducible exact ln | with_reducible exact v20 _ | with_reducible exact v25 _ | with_reducible exact v26 _ | with_reducible exact g_v rfl | with_reducible exact g_c | with_reducible exact g_an | with_reducible exact g_add | with_reducible exact g_sub | with_reducible exact g_iadd | with_reducible exact g_lt | with_reducible exact g_le | with_reducible exact g_gt | with_reducible exact g_ge | with_reducible exact g_eq | with_reducible exact g_ne | with_reducible exact g_neg | with_reducible exact g_mul (by first | assumption | omega | decide) | with_reducible exact g_div (by first | assumption | omega | decide) (by first | assumption | omega | decide) | with_reducible exact g_mod (by first | assumption | omega | decide) | with_reducible exact g_pow (by decide) | with_reducible apply g_isint | with_reducible exact g_sk | with_reducible exact g_rn | with_reducible exact g_bk | with_reducible exact g_ct | with_reducible exact g_gn0 | with_reducible apply g_gns | with_reducible exact g_ap0 | with_reducible apply g_apS | with_reducible apply g_op | with_reducible apply g_un | with_reducible apply g_ac | with_reducible apply g_call | with_reducible apply g_calld | with_reducible apply g_bf | with_reducible apply g_sq | with_reducible apply g_kn | with_reducible exact g_kr | with_reducible exact g_kb | with_reducible exact g_kc | with_reducible apply g_as | with_reducible apply g_pr | with_reducible apply g_au rfl | with_reducible apply g_rt | with_reducible apply g_ex | with_reducible apply g_if | with_reducible apply g_tv | with_reducible apply g_tan | with_reducible apply g_tor | with_reducible apply g_tnt | with_reducible apply g_ean | with_reducible apply g_eor | with_reducible apply g_ent | with_reducible apply g_eif | with_reducible apply g_iftt | with_reducible apply g_iffn | with_reducible apply g_ifff | with_reducible apply g_iftn | with_reducible refine g_ift (by first | assumption | omega | decide) ?_ | with_reducible refine g_iff (by first | assumption | omega | decide) ?_ | with_reducible refine g_ifnt (by first | assumption | omega | decide) ?_ | with_reducible refine g_ifnf (by first | assumption | omega | decide) ?_ | with_reducible exact rfl | with_reducible exact g_eqs | with_reducible exact g_nes | with_reducible exact g_neni | with_reducible exact g_nein | with_reducible exact g_nenn | with_reducible exact g_isn | with_reducible exact g_isi | with_reducible exact g_nsn | with_reducible exact g_nsi | with_reducible exact g_max | with_reducible exact g_max3 | with_reducible exact g_min | with_reducible exact g_intb | with_reducible apply g_gt2 | with_reducible apply g_gt3 | with_reducible apply g_tup | with_reducible apply g_lst | with_reducible exact lenOk rfl | with_reducible exact g_on | with_reducible apply g_os | with_reducible apply g_sl | with_reducible apply g_bkm | with_reducible exact g_okS )
          · exact ⟨rfl, _, _, _, rfl⟩)
      xs.length 0 [some (.ref 0), some (.ref hC.length), none, none, none, none] hD (by omega) ⟨rfl, _, _, _, rfl⟩ (ctx T 12).fuel (by omega)
    obtain ⟨rfl, x2, x3, x4, rfl⟩ := hv
    refine ⟨x2, x3, x4, fo_of (iR1_of (h1 := h2) (n := (xs.length : Int)) (by (repeat' first | with_reducible exact lnX | with_reducible exact g_v rfl | with_reducible exact g_c | with_reducible exact g_an | with_reducible exact g_add | with_reducible exact g_sub | with_reducible exact g_iadd | with_reducible exact g_lt | with_reducible exact g_le | with_reducible exact g_gt | with_reducible exact g_ge | with_reducible exact g_eq | with_reducible exact g_ne | with_reducible exact g_neg | with_reducible exact g_mul (by first | assumption | omega | decide) | with_reducible exact g_div (by first | assumption | omega | decide) (by first | assumption | omega | decide) | with_reducible exact g_mod (by first | assumption | omega | decide) | with_reducible exact g_pow (by decide) | with_reducible apply g_isint | with_reducible exact g_sk | with_reducible exact g_rn | with_reducible exact g_bk | with_reducible exact g_ct | with_reducible exact g_gn0 | with_reducible apply g_gns | with_reducible exact g_ap0 | with_reducible apply g_apS | with_reducible apply g_op | with_reducible apply g_un | with_reducible apply g_ac | with_reducible apply g_call | with_reducible apply g_calld | with_reducible apply g_bf | with_reducible apply g_sq | with_reducible apply g_kn | with_reducible exact g_kr | with_reducible exact g_kb | with_reducible exact g_kc | with_reducible apply g_as | with_reducible apply g_pr | with_reducible apply g_au rfl | with_reducible apply g_rt | with_reducible apply g_ex | with_reducible apply g_if | with_reducible apply g_tv | with_reducible apply g_tan | with_reducible apply g_tor | with_reducible apply g_tnt | with_reducible apply g_ean | with_reducible apply g_eor | with_reducible apply g_ent | with_reducible apply g_eif | with_reducible apply g_iftt | with_reducible apply g_iffn | with_reducible apply g_ifff | with_reducible apply g_iftn | with_reducible refine g_ift (by first | assumption | omega | decide) ?_ | with_reducible refine g_iff (by first | assumption | omega | decide) ?_ | with_reducible refine g_ifnt (by first | assumption | omega | decide) ?_ | with_reducible refine g_ifnf (by first | assumption | omega | decide) ?_ | with_reducible exact rfl | with_reducible exact g_eqs | with_reducible exact g_nes | with_reducible exact g_neni | with_reducible exact g_nein | with_reducible exact g_nenn | with_reducible exact g_isn | with_reducible exact g_isi | with_reducible exact g_nsn | with_reducible exact g_nsi | with_reducible exact g_max | with_reducible exact g_max3 | with_reducible exact g_min | with_reducible exact g_intb | with_reducible apply g_gt2 | with_reducible apply g_gt3 | with_reducible apply g_tup | with_reducible apply g_lst | with_reducible exact lenOk rfl | with_reducible exact g_on | with_reducible apply g_os | with_reducible apply g_sl | with_reducible apply g_bkm | with_reducible exact g_okS )) (by omega) (by omega)) ?_⟩
    rw [Int.toNat_natCast]
    exact hfor
  obtain ⟨x2, x3, x4, L⟩ := L
  refine ⟨hD, ?_⟩
  refine run_rt rfl (by simp only [List.map_cons, List.map_nil, List.length_cons, List.length_nil, List.cons_append, List.nil_append, Nat.reduceAdd, Nat.reduceSub, List.replicate_succ, List.replicate_zero]; exact rfl) ?_
  (repeat' first | with_reducible exact ab _ rfl | with_reducible exact LC | with_reducible exact ad | with_reducible exact L | with_reducible exact g_v rfl | with_reducible exact g_c | with_reducible exact g_an | with_reducible exact g_add | with_reducible exact g_sub | with_reducible exact g_iadd | with_reducible exact g_lt | with_reducible exact g_le | with_reducible exact g_gt | with_reducible exact g_ge | with_reducible exact g_eq | with_reducible exact g_ne | with_reducible exact g_neg | with_reducible exact g_mul (by first | assumption | omega | decide) | with_reducible exact g_div (by first | assumption | omega | decide) (by first | assumption | omega | decide) | with_reducible exact g_mod (by first | assumption | omega | decide) | with_reducible exact g_pow (by decide) | with_reducible apply g_isint | with_reducible exact g_sk | with_reducible exact g_rn | with_reducible exact g_bk | with_reducible exact g_ct | with_reducible exact g_gn0 | with_reducible apply g_gns | with_reducible exact g_ap0 | with_reducible apply g_apS | with_reducible apply g_op | with_reducible apply g_un | with_reducible apply g_ac | with_reducible apply g_call | with_reducible apply g_calld | with_reducible apply g_bf | with_reducible apply g_sq | with_reducible apply g_kn | with_reducible exact g_kr | with_reducible exact g_kb | with_reducible exact g_kc | with_reducible apply g_as | with_reducible apply g_pr | with_reducible apply g_au rfl | with_reducible apply g_rt | with_reducible apply g_ex | with_reducible apply g_if | with_reducible apply g_tv | with_reducible apply g_tan | with_reducible apply g_tor | with_reducible apply g_tnt | with_reducible apply g_ean | with_reducible apply g_eor | with_reducible apply g_ent | with_reducible apply g_eif | with_reducible apply g_iftt | with_reducible apply g_iffn | with_reducible apply g_ifff | with_reducible apply g_iftn | with_reducible refine g_ift (by first | assumption | omega | decide) ?_ | with_reducible refine g_iff (by first | assumption | omega | decide) ?_ | with_reducible refine g_ifnt (by first | assumption | omega | decide) ?_ | with_reducible refine g_ifnf (by first | assumption | omega | decide) ?_ | with_reducible exact rfl | with_reducible exact g_eqs | with_reducible exact g_nes | with_reducible exact g_neni | with_reducible exact g_nein | with_reducible exact g_nenn | with_reducible exact g_isn | with_reducible exact g_isi | with_reducible exact g_nsn | with_reducible exact g_nsi | with_reducible exact g_max | with_reducible exact g_max3 | with_reducible exact g_min | with_reducible exact g_intb | with_reducible apply g_gt2 | with_reducible apply g_gt3 | with_reducible apply g_tup | with_reducible apply g_lst | with_reducible exact lenOk rfl | with_reducible exact g_on | with_reducible apply g_os | with_reducible apply g_sl | with_reducible apply g_bkm | with_reducible exact g_okS )
end Z.k06
/-! The walk and the end, printed by gen.py. -/
namespace Z.k06
open PySem L2 Z PyProof.Rows
abbrev top (i : Nat) : Stmt := PySem.Challenge.pw_camplay_k06_words_and_numbers.main.body.getD i (.Pass ⟨0, 0, 0, 0⟩)
abbrev s_is_word : Stmt := top 4
abbrev s_number_of : Stmt := top 5
abbrev s_l_stream : Stmt := top 7
abbrev s_l_sign_by : Stmt := top 8
abbrev s_l_text : Stmt := top 9
abbrev s_l_is_word : Stmt := top 10
abbrev s_l_worth : Stmt := top 11
abbrev s_l_tells : Stmt := top 12
abbrev s_law : Stmt := top 13
structure Txt (K : PySem.W.Frag) (mg : Str → Option Value) : Prop where
  b_bool : mg "bool" = none
  b_int : mg "int" = none
  b_isinstance : mg "isinstance" = none
  b_len : mg "len" = none
  b_max : mg "max" = none
  b_range : mg "range" = none
  c_LETTERS : ∃ t, mg "LETTERS" = some (.str "abcdefghijklmnopqrstuvwxyz" t)
  c_FIGURES : ∃ t, mg "FIGURES" = some (.str "0123456789" t)
  c_LONGEST : ∃ t, mg "LONGEST" = some (.int 8 t)
  tru : True
structure Funs (K : PySem.W.Frag) (mg : Str → Option Value) : Prop where
  m_is_word : FunM K mg "is_word" s_is_word ["text"] []
  m_number_of : FunM K mg "number_of" s_number_of ["text", "most"] [80]
  m__law_stream : FunM K mg "_law_stream" s_l_stream ["cell", "many"] []
  m__law_sign_by : FunM K mg "_law_sign_by" s_l_sign_by ["number"] []
  m__law_text : FunM K mg "_law_text" s_l_text ["cell"] []
  m__law_is_word : FunM K mg "_law_is_word" s_l_is_word ["text"] []
  m__law_worth : FunM K mg "_law_worth" s_l_worth ["text", "most"] []
  m__law_tells : FunM K mg "_law_tells" s_l_tells ["found", "due"] []
  tru : True
structure All (P : Program) (w : World) (K : PySem.W.Frag) (mg : Str → Option Value) (base : Heap) (κ : Nat → Addr) (n : Nat) : Prop where
  a_is_word : FnF P w K mg base κ n "is_word" [] ((ctx T n).call 19)
  a_number_of : FnF P w K mg base κ n "number_of" [80] ((ctx T n).call 20)
  a__law_stream : FnF P w K mg base κ n "_law_stream" [] ((ctx T n).call 21)
  a__law_sign_by : FnF P w K mg base κ n "_law_sign_by" [] ((ctx T n).call 22)
  a__law_text : FnF P w K mg base κ n "_law_text" [] ((ctx T n).call 23)
  a__law_is_word : FnF P w K mg base κ n "_law_is_word" [] ((ctx T n).call 24)
  a__law_worth : FnF P w K mg base κ n "_law_worth" [] ((ctx T n).call 25)
  a__law_tells : FnF P w K mg base κ n "_law_tells" [] ((ctx T n).call 26)
  tru : True
section
variable {P : Program} {w : World} {K : PySem.W.Frag} {mg : Str → Option Value} {base : Heap} {κ : Nat → Addr} {n : Nat}
abbrev NN_is_word : List Str := ["text", "sign"]
theorem sc_is_word : FnScope NN_is_word ["text"] (defScope s_is_word) := ⟨rfl, rfl, rfl, by decide +kernel, rfl, by decide +kernel, by decide +kernel⟩
theorem w_is_word {fa : Addr} {fd : FuncData} (TX : Txt K mg) (A : All P w K mg base κ n) (F : FunZ K "is_word" "is_word" s_is_word [] fa fd) : FnOk P w K mg base CX0 (n + 1) fa fd ["text"] (spD K κ (List.length (["text"] : List Str)) (runFn (ctx T n) f_is_word)) := by
  refine fnOk_of F sc_is_word rfl rfl fun cdv Ar outer s H E hr => ?_
  exact
    (ss_cons (ss_if (st_w (sw_or (st_cmp od_lt (se_bf cd_len TX.b_len boot_len_ (sa_cons (se_v 0) sa_nil)) se_int (nomark _)) (sw_or1 (st_cmp od_gt (se_bf cd_len TX.b_len boot_len_ (sa_cons (se_v 0) sa_nil)) (se_gi TX.c_LONGEST.choose_spec) (nomark _))))) (ss_one (ss_rt se_bl)) ss_nil)
    (ss_cons (ss_fo rfl (si_a (se_v 0)) (sg_n (i := 1) sc_is_word.nd) (ss_one (ss_if (st_cmp (od_nin (hu65 hr)) (se_v 1) (se_gs TX.c_LETTERS.choose_spec) (by rfl)) (ss_one (ss_rt se_bl)) ss_nil)))
    (ss_one (ss_rt se_bl))))
abbrev NN_number_of : List Str := ["text", "most", "sign"]
theorem sc_number_of : FnScope NN_number_of ["text", "most"] (defScope s_number_of) := ⟨rfl, rfl, rfl, by decide +kernel, rfl, by decide +kernel, by decide +kernel⟩
theorem w_number_of {fa : Addr} {fd : FuncData} (TX : Txt K mg) (A : All P w K mg base κ n) (F : FunZ K "number_of" "number_of" s_number_of [80] fa fd) : FnOk P w K mg base CX0 (n + 1) fa fd ["text", "most"] (spD K κ (List.length (["text", "most"] : List Str)) (runFn (ctx T n) f_number_of)) := by
  refine fnOk_of F sc_number_of rfl rfl fun cdv Ar outer s H E hr => ?_
  exact
    (ss_cons (ss_if (st_w (sw_or (st_cmp od_lt (se_bf cd_len TX.b_len boot_len_ (sa_cons (se_v 0) sa_nil)) se_int (nomark _)) (sw_or1 (st_cmp od_gt (se_bf cd_len TX.b_len boot_len_ (sa_cons (se_v 0) sa_nil)) (se_v 1) (nomark _))))) (ss_one (ss_rt se_non)) ss_nil)
    (ss_cons (ss_fo rfl (si_a (se_v 0)) (sg_n (i := 2) sc_number_of.nd) (ss_one (ss_if (st_cmp (od_nin (hu65 hr)) (se_v 2) (se_gs TX.c_FIGURES.choose_spec) (by rfl)) (ss_one (ss_rt se_non)) ss_nil)))
    (ss_cons (ss_if (st_w (sw_and (st_cmp od_gt (se_bf cd_len TX.b_len boot_len_ (sa_cons (se_v 0) sa_nil)) se_int (nomark _)) (sw_and1 (st_cmp (od_eq hr.units) (se_ix (hu_of hr) (se_v 0) se_int) se_str (nomark _))))) (ss_one (ss_rt se_non)) ss_nil)
    (ss_one (ss_rt (se_bt cd_int TX.b_int boot_int_ (sa_cons (se_v 0) sa_nil)))))))
abbrev NN_l_stream : List Str := ["cell", "many", "found", "number", "k"]
theorem sc_l_stream : FnScope NN_l_stream ["cell", "many"] (defScope s_l_stream) := ⟨rfl, rfl, rfl, by decide +kernel, rfl, by decide +kernel, by decide +kernel⟩
theorem w_l_stream {fa : Addr} {fd : FuncData} (TX : Txt K mg) (A : All P w K mg base κ n) (F : FunZ K "_law_stream" "_law_stream" s_l_stream [] fa fd) : FnOk P w K mg base CX0 (n + 1) fa fd ["cell", "many"] (spD K κ (List.length (["cell", "many"] : List Str)) (runFn (ctx T n) f_l_stream)) := by
  refine fnOk_of F sc_l_stream rfl rfl fun cdv Ar outer s H E hr => ?_
  exact
    (ss_cons (ss_as (i := 2) sc_l_stream.nd (se_lst sa_nil))
    (ss_cons (ss_if (st_cmp od_ge (se_v 0) (se_op od_pow se_int se_int) (nomark _)) (ss_cons (ss_as (i := 3) sc_l_stream.nd (se_op od_sub (se_v 0) (se_op od_pow se_int se_int)))
    (ss_cons (ss_fo rfl (si_r1 TX.b_range (se_v 1)) (sg_n (i := 4) sc_l_stream.nd) (ss_cons (ss_ex (se_bk PySem.F.plainAttrs_list PySem.F.slot_list_append PySem.F.type_list_append mt_append okL_ok md_append (se_v 2) (sa_cons (se_op od_mod (se_v 3) se_int) sa_nil)))
    (ss_one (ss_as (i := 3) sc_l_stream.nd (se_op od_div (se_v 3) se_int)))))
    (ss_one (ss_rt (se_v 2))))) ss_nil)
    (ss_cons (ss_as (i := 3) sc_l_stream.nd (se_op od_add (se_op od_mod (se_v 0) se_int) se_int))
    (ss_cons (ss_fo rfl (si_r1 TX.b_range (se_v 1)) (sg_n (i := 4) sc_l_stream.nd) (ss_cons (ss_as (i := 3) sc_l_stream.nd (se_op od_add (se_op od_add (se_op od_add (se_op od_mul (se_v 3) (se_v 3)) (se_op od_mul se_int (se_v 3))) (se_op od_mul se_int (se_v 4))) se_int))
    (ss_cons (ss_as (i := 3) sc_l_stream.nd (se_op od_mod (se_v 3) se_int))
    (ss_one (ss_ex (se_bk PySem.F.plainAttrs_list PySem.F.slot_list_append PySem.F.type_list_append mt_append okL_ok md_append (se_v 2) (sa_cons (se_op od_div (se_v 3) se_int) sa_nil)))))))
    (ss_one (ss_rt (se_v 2)))))))
abbrev NN_l_sign_by : List Str := ["number", "some"]
theorem sc_l_sign_by : FnScope NN_l_sign_by ["number"] (defScope s_l_sign_by) := ⟨rfl, rfl, rfl, by decide +kernel, rfl, by decide +kernel, by decide +kernel⟩
theorem w_l_sign_by {fa : Addr} {fd : FuncData} (TX : Txt K mg) (A : All P w K mg base κ n) (F : FunZ K "_law_sign_by" "_law_sign_by" s_l_sign_by [] fa fd) : FnOk P w K mg base CX0 (n + 1) fa fd ["number"] (spD K κ (List.length (["number"] : List Str)) (runFn (ctx T n) f_l_sign_by)) := by
  refine fnOk_of F sc_l_sign_by rfl rfl fun cdv Ar outer s H E hr => ?_
  exact
    (ss_cons (ss_as (i := 1) sc_l_sign_by.nd se_str)
    (ss_cons (ss_as (i := 1) sc_l_sign_by.nd (se_op od_add (se_v 1) se_str))
    (ss_one (ss_rt (se_ix (hu_of hr) (se_v 1) (se_op od_mod (se_v 0) se_int))))))
abbrev NN_l_text : List Str := ["cell", "some", "signs", "many", "text", "at", "one"]
theorem sc_l_text : FnScope NN_l_text ["cell"] (defScope s_l_text) := ⟨rfl, rfl, rfl, by decide +kernel, rfl, by decide +kernel, by decide +kernel⟩
theorem w_l_text {fa : Addr} {fd : FuncData} (TX : Txt K mg) (A : All P w K mg base κ n) (F : FunZ K "_law_text" "_law_text" s_l_text [] fa fd) : FnOk P w K mg base CX0 (n + 1) fa fd ["cell"] (spD K κ (List.length (["cell"] : List Str)) (runFn (ctx T n) f_l_text)) := by
  refine fnOk_of F sc_l_text rfl rfl fun cdv Ar outer s H E hr => ?_
  exact
    (ss_cons (ss_as (i := 1) sc_l_text.nd (se_call A.a__law_stream hr (sa_cons (se_v 0) (sa_cons se_int sa_nil))))
    (ss_cons (ss_as (i := 2) sc_l_text.nd (se_ix (hu_of hr) (se_lst (sa_cons se_str (sa_cons se_str sa_nil))) (se_op od_mod (se_ix (hu_of hr) (se_v 1) se_int) se_int)))
    (ss_cons (ss_as (i := 3) sc_l_text.nd (se_ix (hu_of hr) (se_lst (sa_cons (se_op od_mod (se_ix (hu_of hr) (se_v 1) se_int) se_int) (sa_cons (se_op od_mod (se_ix (hu_of hr) (se_v 1) se_int) se_int) sa_nil))) (se_op od_mod (se_op od_div (se_ix (hu_of hr) (se_v 1) se_int) se_int) se_int)))
    (ss_cons (ss_as (i := 4) sc_l_text.nd (se_bk PySem.F.plainAttrs_str PySem.F.slot_str_join PySem.F.type_str_join mt_join okS_ok md_join se_str (sa_cons (se_lc rfl sc_l_text.nd (si_a (se_sl (se_v 1) so_n (so_s (se_v 3)))) (blkOk_by (N := NN_l_text) (sc := defScope s_l_text) (own := [(("one" : Str), 6)]) (by decide +kernel)) (fun _ _ _ _ _ => pg_name (i := 6) sc_l_text.nd rfl (by first | exact Or.inl rfl | exact Or.inr rfl)) (fun _ _ _ _ _ => sts_nil) (fun _ _ _ _ _ => (se_ix (hu_of hr) (se_v 2) (se_op od_mod (se_v 6) (se_bf cd_len TX.b_len boot_len_ (sa_cons (se_v 2) sa_nil)))))) sa_nil)))
    (ss_cons (ss_if (st_w (sw_and (st_cmp (od_eq hr.units) (se_op od_mod (se_ix (hu_of hr) (se_v 1) se_int) se_int) se_int (nomark _)) (sw_and1 (st_cmp od_gt (se_v 3) se_int (nomark _))))) (ss_cons (ss_as (i := 5) sc_l_text.nd (se_op od_mod (se_op od_div (se_ix (hu_of hr) (se_v 1) se_int) se_int) (se_v 3)))
    (ss_one (ss_as (i := 4) sc_l_text.nd (se_op od_add (se_op od_add (se_sl (se_v 4) so_n (so_s (se_v 5))) (se_call A.a__law_sign_by hr (sa_cons (se_ix (hu_of hr) (se_v 1) se_int) sa_nil))) (se_sl (se_v 4) (so_s (se_op od_add (se_v 5) se_int)) so_n))))) ss_nil)
    (ss_one (ss_rt (se_v 4))))))))
abbrev NN_l_is_word : List Str := ["text", "sign"]
theorem sc_l_is_word : FnScope NN_l_is_word ["text"] (defScope s_l_is_word) := ⟨rfl, rfl, rfl, by decide +kernel, rfl, by decide +kernel, by decide +kernel⟩
theorem w_l_is_word {fa : Addr} {fd : FuncData} (TX : Txt K mg) (A : All P w K mg base κ n) (F : FunZ K "_law_is_word" "_law_is_word" s_l_is_word [] fa fd) : FnOk P w K mg base CX0 (n + 1) fa fd ["text"] (spD K κ (List.length (["text"] : List Str)) (runFn (ctx T n) f_l_is_word)) := by
  refine fnOk_of F sc_l_is_word rfl rfl fun cdv Ar outer s H E hr => ?_
  exact
    (ss_cons (ss_fo rfl (si_a (se_v 0)) (sg_n (i := 1) sc_l_is_word.nd) (ss_one (ss_if (st_cmp (od_nin (hu65 hr)) (se_v 1) se_str (by rfl)) (ss_one (ss_rt se_bl)) ss_nil)))
    (ss_one (ss_rt (se_chn od_le od_le se_int (se_bf cd_len TX.b_len boot_len_ (sa_cons (se_v 0) sa_nil)) se_int))))
abbrev NN_l_worth : List Str := ["text", "most", "worth", "sign", "at"]
theorem sc_l_worth : FnScope NN_l_worth ["text", "most"] (defScope s_l_worth) := ⟨rfl, rfl, rfl, by decide +kernel, rfl, by decide +kernel, by decide +kernel⟩
theorem w_l_worth {fa : Addr} {fd : FuncData} (TX : Txt K mg) (A : All P w K mg base κ n) (F : FunZ K "_law_worth" "_law_worth" s_l_worth [] fa fd) : FnOk P w K mg base CX0 (n + 1) fa fd ["text", "most"] (spD K κ (List.length (["text", "most"] : List Str)) (runFn (ctx T n) f_l_worth)) := by
  refine fnOk_of F sc_l_worth rfl rfl fun cdv Ar outer s H E hr => ?_
  exact
    (ss_cons (ss_as (i := 2) sc_l_worth.nd se_int)
    (ss_cons (ss_fo rfl (si_a (se_v 0)) (sg_n (i := 3) sc_l_worth.nd) (ss_cons (ss_as (i := 4) sc_l_worth.nd (se_bk PySem.F.plainAttrs_str PySem.F.slot_str_find PySem.F.type_str_find mt_find okS_ok md_find se_str (sa_cons (se_v 3) sa_nil)))
    (ss_cons (ss_if (st_cmp od_lt (se_v 4) se_int (nomark _)) (ss_one (ss_rt se_non)) ss_nil)
    (ss_one (ss_as (i := 2) sc_l_worth.nd (se_op od_add (se_op od_mul se_int (se_v 2)) (se_v 4)))))))
    (ss_cons (ss_if (st_w (sw_or (st_cmp (od_eq hr.units) (se_v 0) se_str (nomark _)) (sw_or (st_cmp od_gt (se_bf cd_len TX.b_len boot_len_ (sa_cons (se_v 0) sa_nil)) (se_v 1) (nomark _)) (sw_or1 (st_w (sw_and (st_cmp (od_eq hr.units) (se_ix (hu_of hr) (se_v 0) se_int) se_str (nomark _)) (sw_and1 (st_cmp od_gt (se_bf cd_len TX.b_len boot_len_ (sa_cons (se_v 0) sa_nil)) se_int (nomark _))))))))) (ss_one (ss_rt se_non)) ss_nil)
    (ss_one (ss_rt (se_v 2))))))
abbrev NN_l_tells : List Str := ["found", "due"]
theorem sc_l_tells : FnScope NN_l_tells ["found", "due"] (defScope s_l_tells) := ⟨rfl, rfl, rfl, by decide +kernel, rfl, by decide +kernel, by decide +kernel⟩
theorem w_l_tells {fa : Addr} {fd : FuncData} (TX : Txt K mg) (A : All P w K mg base κ n) (F : FunZ K "_law_tells" "_law_tells" s_l_tells [] fa fd) : FnOk P w K mg base CX0 (n + 1) fa fd ["found", "due"] (spD K κ (List.length (["found", "due"] : List Str)) (runFn (ctx T n) f_l_tells)) := by
  refine fnOk_of F sc_l_tells rfl rfl fun cdv Ar outer s H E hr => ?_
  exact
    (ss_cons (ss_if (st_cmp od_isN (se_v 1) se_non (nomark _)) (ss_one (ss_rt (se_cmp od_isN (se_v 0) se_non (nomark _)))) ss_nil)
    (ss_one (ss_rt (se_and (se_is (se_v 0) TX.b_isinstance TX.b_int boot_int_) (se_and (se_not (se_is (se_v 0) TX.b_isinstance TX.b_bool boot_bool_)) (se_one (se_cmp (od_eq hr.units) (se_v 0) (se_v 1) (nomark _))))))))
abbrev NN_law : List Str := ["script", "texts", "k", "found", "most", "cell"]
theorem sc_law : FnScope NN_law ["script"] (defScope s_law) := ⟨rfl, rfl, rfl, by decide +kernel, rfl, by decide +kernel, by decide +kernel⟩
theorem w_law {fa : Addr} {fd : FuncData} (TX : Txt K mg) (A : All P w K mg base κ n) (F : FunZ K "law" "law" s_law [] fa fd) : FnOk P w K mg base CX0 (n + 1) fa fd ["script"] (spD K κ (List.length (["script"] : List Str)) (runFn (ctx T n) f_law)) := by
  refine fnOk_of F sc_law rfl rfl fun cdv Ar outer s H E hr => ?_
  exact
    (ss_cons (ss_as (i := 1) sc_law.nd (se_op od_add (se_lst (sa_cons se_str sa_nil)) (se_lc rfl sc_law.nd (si_a (se_sl (se_v 0) so_n (so_s se_int))) (blkOk_by (N := NN_law) (sc := defScope s_law) (own := [(("cell" : Str), 5)]) (by decide +kernel)) (fun _ _ _ _ _ => pg_name (i := 5) sc_law.nd rfl (by first | exact Or.inl rfl | exact Or.inr rfl)) (fun _ _ _ _ _ => sts_nil) (fun _ _ _ _ _ => (se_call A.a__law_text hr (sa_cons (se_v 5) sa_nil))))))
    (ss_cons (ss_fo rfl (si_r1 TX.b_range (se_bf cd_len TX.b_len boot_len_ (sa_cons (se_v 1) sa_nil))) (sg_n (i := 2) sc_law.nd) (ss_cons (ss_as (i := 3) sc_law.nd (se_call A.a_is_word hr (sa_cons (se_ix (hu_of hr) (se_v 1) (se_v 2)) sa_nil)))
    (ss_cons (ss_if (st_w (sw_or (st_not (st_v (se_is (se_v 3) TX.b_isinstance TX.b_bool boot_bool_))) (sw_or1 (st_cmp (od_ne hr.units) (se_v 3) (se_call A.a__law_is_word hr (sa_cons (se_ix (hu_of hr) (se_v 1) (se_v 2)) sa_nil)) (nomark _))))) (ss_one (ss_rt se_bl)) ss_nil)
    (ss_cons (ss_as (i := 4) sc_law.nd (se_op od_add se_int (se_op od_mod (se_op od_add (se_op od_mul (se_bf cd_len TX.b_len boot_len_ (sa_cons (se_ix (hu_of hr) (se_v 1) (se_v 2)) sa_nil)) se_int) (se_v 2)) se_int)))
    (ss_cons (ss_if (st_cmp (od_eq hr.units) (se_op od_mod (se_v 2) se_int) se_int (nomark _)) (ss_one (ss_as (i := 4) sc_law.nd (se_bf (cd_max rfl) TX.b_max boot_max_ (sa_cons se_int (sa_cons (se_op od_sub (se_bf cd_len TX.b_len boot_len_ (sa_cons (se_ix (hu_of hr) (se_v 1) (se_v 2)) sa_nil)) (se_op od_mod (se_op od_div (se_v 2) se_int) se_int)) sa_nil))))) ss_nil)
    (ss_cons (ss_if (st_not (st_v (se_call A.a__law_tells hr (sa_cons (se_calld A.a_number_of hr (sa_cons (se_ix (hu_of hr) (se_v 1) (se_v 2)) sa_nil)) (sa_cons (se_call A.a__law_worth hr (sa_cons (se_ix (hu_of hr) (se_v 1) (se_v 2)) (sa_cons se_int sa_nil))) sa_nil))))) (ss_one (ss_rt se_bl)) ss_nil)
    (ss_one (ss_if (st_not (st_v (se_call A.a__law_tells hr (sa_cons (se_call A.a_number_of hr (sa_cons (se_ix (hu_of hr) (se_v 1) (se_v 2)) (sa_cons (se_v 4) sa_nil))) (sa_cons (se_call A.a__law_worth hr (sa_cons (se_ix (hu_of hr) (se_v 1) (se_v 2)) (sa_cons (se_v 4) sa_nil))) sa_nil))))) (ss_one (ss_rt se_bl)) ss_nil))))))))
    (ss_one (ss_rt se_bl))))
theorem all_n (TX : Txt K mg) (Fs : Funs K mg) : ∀ n, All P w K mg base κ n
  | 0 => ⟨fnF_zero Fs.m_is_word, fnF_zero Fs.m_number_of, fnF_zero Fs.m__law_stream, fnF_zero Fs.m__law_sign_by, fnF_zero Fs.m__law_text, fnF_zero Fs.m__law_is_word, fnF_zero Fs.m__law_worth, fnF_zero Fs.m__law_tells, trivial⟩
  | n + 1 =>
    let A := all_n TX Fs n
    ⟨fnF_succ Fs.m_is_word rfl rfl fun fa fd F => w_is_word TX A F,
    fnF_succ Fs.m_number_of rfl rfl fun fa fd F => w_number_of TX A F,
    fnF_succ Fs.m__law_stream rfl rfl fun fa fd F => w_l_stream TX A F,
    fnF_succ Fs.m__law_sign_by rfl rfl fun fa fd F => w_l_sign_by TX A F,
    fnF_succ Fs.m__law_text rfl rfl fun fa fd F => w_l_text TX A F,
    fnF_succ Fs.m__law_is_word rfl rfl fun fa fd F => w_l_is_word TX A F,
    fnF_succ Fs.m__law_worth rfl rfl fun fa fd F => w_l_worth TX A F,
    fnF_succ Fs.m__law_tells rfl rfl fun fa fd F => w_l_tells TX A F,
    trivial⟩
end
theorem all_mk {l : PySem.W.OpenLaw} {w : World} {K : PySem.W.Frag} {h : Heap} {mg : Str → Option Value} {fa f1 f2 f3 f4 f5 f6 f7 f8 f9 : Addr} (X : K.In h) (G : h.Ns mainGlobals mg) (hfa : mg "law" = some (.ref fa))
    {od1 an1 od2 an2 od3 an3 od4 an4 od5 an5 od6 an6 od7 an7 od8 an8 od9 an9 : Option Addr} {sl1 sl2 sl3 sl4 sl5 sl6 sl7 sl8 sl9 : Array (Option Value)} {oc1 kV1 dc1 pm1 cd1 ct1 oc2 kV2 dc2 pm2 cd2 ct2 oc3 kV3 dc3 pm3 cd3 ct3 oc4 kV4 dc4 pm4 cd4 ct4 oc5 kV5 dc5 pm5 cd5 ct5 oc6 kV6 dc6 pm6 cd6 ct6 oc7 kV7 dc7 pm7 cd7 ct7 oc8 kV8 dc8 pm8 cd8 ct8 oc9 kV9 dc9 pm9 cd9 ct9 : Value}
    (a1 : PySem.W.nsIn K mainGlobals "is_word" = some (some (.ref f1))) (l1 : K.lookup f1 = some ⟨oc1, od1, .func (PySem.W.fnOf "is_word" "is_word" (defArgs s_is_word) (defBody s_is_word) (defScope s_is_word) .none kV1 dc1 pm1 an1 cd1 ct1), sl1⟩) (c1 : PySem.W.codeIn K cd1 "is_word" = true) (k1 : PySem.W.keepIn K (.ref f1) = true)
    {T2 : Addr} {to2 : Value} {td2 : Option Addr} {tn2 : Nat} {ts2 : Array (Option Value)} {tt2_0 : Tok}
    (a2 : PySem.W.nsIn K mainGlobals "number_of" = some (some (.ref f2))) (l2 : K.lookup f2 = some ⟨oc2, od2, .func (PySem.W.fnOf "number_of" "number_of" (defArgs s_number_of) (defBody s_number_of) (defScope s_number_of) (.ref T2) kV2 dc2 pm2 an2 cd2 ct2), sl2⟩) (c2 : PySem.W.codeIn K cd2 "number_of" = true) (k2 : PySem.W.keepIn K (.ref f2) = true)
    (t2 : K.lookup T2 = some ⟨to2, td2, .seq #[.int 80 tt2_0] tn2, ts2⟩)
    (a3 : PySem.W.nsIn K mainGlobals "_law_stream" = some (some (.ref f3))) (l3 : K.lookup f3 = some ⟨oc3, od3, .func (PySem.W.fnOf "_law_stream" "_law_stream" (defArgs s_l_stream) (defBody s_l_stream) (defScope s_l_stream) .none kV3 dc3 pm3 an3 cd3 ct3), sl3⟩) (c3 : PySem.W.codeIn K cd3 "_law_stream" = true) (k3 : PySem.W.keepIn K (.ref f3) = true)
    (a4 : PySem.W.nsIn K mainGlobals "_law_sign_by" = some (some (.ref f4))) (l4 : K.lookup f4 = some ⟨oc4, od4, .func (PySem.W.fnOf "_law_sign_by" "_law_sign_by" (defArgs s_l_sign_by) (defBody s_l_sign_by) (defScope s_l_sign_by) .none kV4 dc4 pm4 an4 cd4 ct4), sl4⟩) (c4 : PySem.W.codeIn K cd4 "_law_sign_by" = true) (k4 : PySem.W.keepIn K (.ref f4) = true)
    (a5 : PySem.W.nsIn K mainGlobals "_law_text" = some (some (.ref f5))) (l5 : K.lookup f5 = some ⟨oc5, od5, .func (PySem.W.fnOf "_law_text" "_law_text" (defArgs s_l_text) (defBody s_l_text) (defScope s_l_text) .none kV5 dc5 pm5 an5 cd5 ct5), sl5⟩) (c5 : PySem.W.codeIn K cd5 "_law_text" = true) (k5 : PySem.W.keepIn K (.ref f5) = true)
    (a6 : PySem.W.nsIn K mainGlobals "_law_is_word" = some (some (.ref f6))) (l6 : K.lookup f6 = some ⟨oc6, od6, .func (PySem.W.fnOf "_law_is_word" "_law_is_word" (defArgs s_l_is_word) (defBody s_l_is_word) (defScope s_l_is_word) .none kV6 dc6 pm6 an6 cd6 ct6), sl6⟩) (c6 : PySem.W.codeIn K cd6 "_law_is_word" = true) (k6 : PySem.W.keepIn K (.ref f6) = true)
    (a7 : PySem.W.nsIn K mainGlobals "_law_worth" = some (some (.ref f7))) (l7 : K.lookup f7 = some ⟨oc7, od7, .func (PySem.W.fnOf "_law_worth" "_law_worth" (defArgs s_l_worth) (defBody s_l_worth) (defScope s_l_worth) .none kV7 dc7 pm7 an7 cd7 ct7), sl7⟩) (c7 : PySem.W.codeIn K cd7 "_law_worth" = true) (k7 : PySem.W.keepIn K (.ref f7) = true)
    (a8 : PySem.W.nsIn K mainGlobals "_law_tells" = some (some (.ref f8))) (l8 : K.lookup f8 = some ⟨oc8, od8, .func (PySem.W.fnOf "_law_tells" "_law_tells" (defArgs s_l_tells) (defBody s_l_tells) (defScope s_l_tells) .none kV8 dc8 pm8 an8 cd8 ct8), sl8⟩) (c8 : PySem.W.codeIn K cd8 "_law_tells" = true) (k8 : PySem.W.keepIn K (.ref f8) = true)
    (a9 : PySem.W.nsIn K mainGlobals "law" = some (some (.ref f9))) (l9 : K.lookup f9 = some ⟨oc9, od9, .func (PySem.W.fnOf "law" "law" (defArgs s_law) (defBody s_law) (defScope s_law) .none kV9 dc9 pm9 an9 cd9 ct9), sl9⟩) (c9 : PySem.W.codeIn K cd9 "law" = true) (k9 : PySem.W.keepIn K (.ref f9) = true)
    (z_bool : PySem.W.nsIn K mainGlobals "bool" = some none)
    (z_int : PySem.W.nsIn K mainGlobals "int" = some none)
    (z_isinstance : PySem.W.nsIn K mainGlobals "isinstance" = some none)
    (z_len : PySem.W.nsIn K mainGlobals "len" = some none)
    (z_max : PySem.W.nsIn K mainGlobals "max" = some none)
    (z_range : PySem.W.nsIn K mainGlobals "range" = some none)
    {tk_LETTERS : Tok} (g_LETTERS : PySem.W.nsIn K mainGlobals "LETTERS" = some (some (.str "abcdefghijklmnopqrstuvwxyz" tk_LETTERS)))
    {tk_FIGURES : Tok} (g_FIGURES : PySem.W.nsIn K mainGlobals "FIGURES" = some (some (.str "0123456789" tk_FIGURES)))
    {tk_LONGEST : Tok} (g_LONGEST : PySem.W.nsIn K mainGlobals "LONGEST" = some (some (.int 8 tk_LONGEST))) :
    ∃ fd : FuncData, (∀ (s : Shared) (v : Value), BindsTo s fd ⟨[v], []⟩ [("script", v)]) ∧ ∀ base : Heap, K.In base → base.Ns mainGlobals mg → FnOk l.prog w K mg base CX0 13 fa fd ["script"] (spL K (runFn (ctx T 12) f_law)) := by
  have e := hfa.symm.trans (PySem.W.mg_of X G a9)
  cases e
  have TX : Txt K mg := ⟨PySem.W.mg_none_of X G z_bool, PySem.W.mg_none_of X G z_int, PySem.W.mg_none_of X G z_isinstance, PySem.W.mg_none_of X G z_len, PySem.W.mg_none_of X G z_max, PySem.W.mg_none_of X G z_range, ⟨_, PySem.W.mg_of X G g_LETTERS⟩, ⟨_, PySem.W.mg_of X G g_FIGURES⟩, ⟨_, PySem.W.mg_of X G g_LONGEST⟩, trivial⟩
  have Fs : Funs K mg := ⟨(by
      have F := funZ_mk (st := s_is_word) l1 c1 k1
      have b := FunD.bindsN F (ps := ["text"]) fun _ _ _ _ _ _ us hl => match us, hl with | [_], _ => rfl
      exact ⟨f1, _, [], F, PySem.W.mg_of X G a1, b, b, .nil⟩),
    (by
      have F := funZ_mkd (st := s_number_of) (dfs := [80]) (its := [.int 80 tt2_0]) (fun h => nomatch h) l2 c2 k2 t2 (.cons ⟨_, rfl⟩ .nil)
      obtain ⟨us0, v0, b0⟩ := FunD.binds1 F (ps := ["text", "most"]) 1 0 (fun h => nomatch h) rfl fun _ _ _ _ _ _ _ us its hl hl2 => match us, hl, its, hl2 with | [_], _, [_], _ => ⟨_, rfl, rfl⟩
      obtain ⟨us1, v1, b1⟩ := FunD.binds1 F (ps := ["text", "most"]) 2 1 (fun h => nomatch h) rfl fun _ _ _ _ _ _ _ us its hl hl2 => match us, hl, its, hl2 with | [_, _], _, [_], _ => ⟨_, rfl, rfl⟩
      cases v1
      exact ⟨f2, _, us0, F, PySem.W.mg_of X G a2, b1, b0, v0⟩),
    (by
      have F := funZ_mk (st := s_l_stream) l3 c3 k3
      have b := FunD.bindsN F (ps := ["cell", "many"]) fun _ _ _ _ _ _ us hl => match us, hl with | [_, _], _ => rfl
      exact ⟨f3, _, [], F, PySem.W.mg_of X G a3, b, b, .nil⟩),
    (by
      have F := funZ_mk (st := s_l_sign_by) l4 c4 k4
      have b := FunD.bindsN F (ps := ["number"]) fun _ _ _ _ _ _ us hl => match us, hl with | [_], _ => rfl
      exact ⟨f4, _, [], F, PySem.W.mg_of X G a4, b, b, .nil⟩),
    (by
      have F := funZ_mk (st := s_l_text) l5 c5 k5
      have b := FunD.bindsN F (ps := ["cell"]) fun _ _ _ _ _ _ us hl => match us, hl with | [_], _ => rfl
      exact ⟨f5, _, [], F, PySem.W.mg_of X G a5, b, b, .nil⟩),
    (by
      have F := funZ_mk (st := s_l_is_word) l6 c6 k6
      have b := FunD.bindsN F (ps := ["text"]) fun _ _ _ _ _ _ us hl => match us, hl with | [_], _ => rfl
      exact ⟨f6, _, [], F, PySem.W.mg_of X G a6, b, b, .nil⟩),
    (by
      have F := funZ_mk (st := s_l_worth) l7 c7 k7
      have b := FunD.bindsN F (ps := ["text", "most"]) fun _ _ _ _ _ _ us hl => match us, hl with | [_, _], _ => rfl
      exact ⟨f7, _, [], F, PySem.W.mg_of X G a7, b, b, .nil⟩),
    (by
      have F := funZ_mk (st := s_l_tells) l8 c8 k8
      have b := FunD.bindsN F (ps := ["found", "due"]) fun _ _ _ _ _ _ us hl => match us, hl with | [_, _], _ => rfl
      exact ⟨f8, _, [], F, PySem.W.mg_of X G a8, b, b, .nil⟩),
    trivial⟩
  have F := funZ_mk (st := s_law) l9 c9 k9
  exact ⟨_, fun s v => .of_eq rfl, fun base _ _ => spL_of (κ := fun _ => 0) rfl (w_law TX (all_n TX Fs 12) F)⟩
end Z.k06
open PySem PySem.W PyProof.Rows
set_option maxRecDepth 100000 in
set_option maxHeartbeats 0 in
theorem PySem.Challenge.cw_camplay_k06_words_and_numbers_holds : PySem.Challenge.rw_camplay_k06_words_and_numbers.Holds := by
  w_on; o_law; k_head; (case hw => w_witness2)
  k_fill
  refine Z.law_end (l := PySem.Challenge.rw_camplay_k06_words_and_numbers) (k := 13) rfl rfl ⟨rfl, by decide, by decide⟩ (fun w h Y => PySem.W.kIn_of Y) ?F Z.k06.law_true
  case F =>
    intro w mg fa h KX G hmg
    refine' Z.k06.all_mk KX G hmg ?a1 ?l1 ?c1 ?k1 ?a2 ?l2 ?c2 ?k2 ?t2 ?a3 ?l3 ?c3 ?k3 ?a4 ?l4 ?c4 ?k4 ?a5 ?l5 ?c5 ?k5 ?a6 ?l6 ?c6 ?k6 ?a7 ?l7 ?c7 ?k7 ?a8 ?l8 ?c8 ?k8 ?a9 ?l9 ?c9 ?k9 ?z_bool ?z_int ?z_isinstance ?z_len ?z_max ?z_range ?g_LETTERS ?g_FIGURES ?g_LONGEST
    (case a1 => k_is)
    (case l1 => k_is)
    (case c1 => k_is)
    (case k1 => k_is)
    (case a2 => k_is)
    (case l2 => k_is)
    (case c2 => k_is)
    (case k2 => k_is)
    (case t2 => k_is)
    (case a3 => k_is)
    (case l3 => k_is)
    (case c3 => k_is)
    (case k3 => k_is)
    (case a4 => k_is)
    (case l4 => k_is)
    (case c4 => k_is)
    (case k4 => k_is)
    (case a5 => k_is)
    (case l5 => k_is)
    (case c5 => k_is)
    (case k5 => k_is)
    (case a6 => k_is)
    (case l6 => k_is)
    (case c6 => k_is)
    (case k6 => k_is)
    (case a7 => k_is)
    (case l7 => k_is)
    (case c7 => k_is)
    (case k7 => k_is)
    (case a8 => k_is)
    (case l8 => k_is)
    (case c8 => k_is)
    (case k8 => k_is)
    (case a9 => k_is)
    (case l9 => k_is)
    (case c9 => k_is)
    (case k9 => k_is)
    (case z_bool => k_is)
    (case z_int => k_is)
    (case z_isinstance => k_is)
    (case z_len => k_is)
    (case z_max => k_is)
    (case z_range => k_is)
    (case g_LETTERS => k_is)
    (case g_FIGURES => k_is)
    (case g_LONGEST => k_is)
