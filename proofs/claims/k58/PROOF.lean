import PyProof.Rows.All
import Wide.All
import OpenK.AllK
import Wide.FinOn
import HandS.ForMost
import HandS.Wide
import HandS.IsInst
import HandS.Deep
import HandS.TupAny
import PyProof.MaxThree
import HandS.WideBits
import HandS.SetFor
import HandS.SortInts
import HandS.RaiseMore
import HandS.Defaults
import HandS.RevRange
import HandS.Comp
import HandS.Text
import HandS.More
import HandS.Strs
import HandS.Replace
import HandS.EndBits
import KE.DataEq
import HandS.Conv
import HandS.TryOnly
import KE.IntTextLaws
import PyProof.Rows.StrFirst
import PySem.Challenge.RW_camplay_k58_whole_far_books_of_two_rings
set_option Elab.async false
set_option linter.all false
set_option maxRecDepth 100000
set_option maxHeartbeats 4000000
/-! Z0: values, heaps and results of a plain evaluator; its combinators. -/
namespace Z
open PySem L2

inductive D where
  | non | bl (b : Bool) | int (i : Int) | str (x : Str) | tup (ds : List D) | ref (i : Nat)

inductive O where
  | lst (xs : List D) | fz (xs : List D) | dic (kvs : List (Key × D)) | dct (kvs : List (List Key × D)) | ins (c : Nat) (fs : List (Str × D))

def O.mu : O → Bool
  | .fz _ => false
  | _ => true

abbrev HP := List O

inductive R (α : Type) where
  | ok (a : α) (h : HP) | ex (c : Nat) (fs : List (Str × D)) (h : HP) | no

def R.bind {α β : Type} (r : R α) (f : α → HP → R β) : R β := match r with
  | .ok a h => f a h
  | .ex c fs h => .ex c fs h
  | .no => .no
@[simp] theorem R.bind_ok {α β : Type} (a : α) (h : HP) (f : α → HP → R β) : R.bind (.ok a h) f = f a h := rfl
@[simp] theorem R.bind_ex {α β : Type} (c : Nat) (fs : List (Str × D)) (h : HP) (f : α → HP → R β) : R.bind (.ex c fs h) f = .ex c fs h := rfl
@[simp] theorem R.bind_no {α β : Type} (f : α → HP → R β) : R.bind .no f = .no := rfl

abbrev Ev := List (Option D)
/-- turns enough for every loop -/
def FUEL : Nat := 10 ^ 70

structure Ctx where
  call : Nat → List D → HP → R D
  meth : Nat → Nat → List D → HP → R D
  make : Nat → List D → HP → R D
  fuel : Nat

abbrev ME := Ctx → Ev → HP → R D
abbrev MA := Ctx → Ev → HP → R (List D)
abbrev MT := Ctx → Ev → HP → R Bool
abbrev MO := Ctx → Ev → HP → R (Option Int)

/-! ### expressions -/
def eV (i : Nat) : ME := fun _ e h => match e[i]? with
  | some (some d) => .ok d h
  | _ => .no
def eC (d : D) : ME := fun _ _ h => .ok d h
def eOp (op : D → D → HP → R D) (a b : ME) : ME := fun C e h => (a C e h).bind fun x h => (b C e h).bind fun y h => op x y h
def eUn (op : D → HP → R D) (a : ME) : ME := fun C e h => (a C e h).bind fun x h => op x h
/-- a value as a test -/
def tV (a : ME) : MT := fun C e h => (a C e h).bind fun x h => match x with
  | .bl b => .ok b h
  | _ => .no
def tAn (a b : MT) : MT := fun C e h => (a C e h).bind fun x h => if x = true then b C e h else .ok false h
def tOr (a b : MT) : MT := fun C e h => (a C e h).bind fun x h => if x = true then .ok true h else b C e h
def tNt (a : MT) : MT := fun C e h => (a C e h).bind fun x h => .ok (!x) h
def eAn (a b : ME) : ME := fun C e h => (a C e h).bind fun x h => match x with
  | .bl k => if k = true then b C e h else .ok (.bl false) h
  | _ => .no
def eOr (a b : ME) : ME := fun C e h => (a C e h).bind fun x h => match x with
  | .bl k => if k = true then .ok (.bl true) h else b C e h
  | _ => .no
def eNt (a : ME) : ME := fun C e h => (a C e h).bind fun x h => match x with
  | .bl k => .ok (.bl (!k)) h
  | _ => .no
def eIf (t : MT) (a b : ME) : ME := fun C e h => (t C e h).bind fun x h => if x = true then a C e h else b C e h
def aN : MA := fun _ _ h => .ok [] h
def aC (a : ME) (as : MA) : MA := fun C e h => (a C e h).bind fun x h => (as C e h).bind fun xs h => .ok (x :: xs) h
def eTup (as : MA) : ME := fun C e h => (as C e h).bind fun xs h => if xs.length ≤ sizeLine then .ok (.tup xs) h else .no
def eLst (as : MA) : ME := fun C e h => (as C e h).bind fun xs h => if xs.length ≤ sizeLine then .ok (.ref h.length) (h ++ [.lst xs]) else .no
/-- f(..): a def of the text; ds: the defaults that fill up -/
def eCall (f : Nat) (as : MA) (ds : List D) : ME := fun C e h => (as C e h).bind fun xs h => C.call f (xs ++ ds) h
/-- o.m(..) of an own instance -/
def eMeth (cs : List Nat) (o : ME) (m : Nat) (nm : Str) (as : MA) : ME := fun C e h => (o C e h).bind fun x h => match x with
  | .ref i => match h[i]? with
    | some (.ins c fs) => if c ∈ cs ∧ (fs.lookup nm).isNone = true then (as C e h).bind fun xs h => C.meth c m (.ref i :: xs) h else .no
    | _ => .no
  | _ => .no
/-- C(..) -/
def eMake (c : Nat) (as : MA) : ME := fun C e h => (as C e h).bind fun xs h => C.make c xs h
def mkBy (me : Nat → Nat → List D → HP → R D) (c : Nat) (xs : List D) (h : HP) : R D := (me c 0 (.ref h.length :: xs) (h ++ [.ins c []])).bind fun v h' => match v with
  | .non => .ok (.ref h.length) h'
  | _ => .no
def eFld (cs : List Nat) (a : ME) (f : Str) : ME := fun C e h => (a C e h).bind fun x h => match x with
  | .ref i => match h[i]? with
    | some (.ins c fs) => if c ∈ cs then match fs.lookup f with
        | some d => .ok d h
        | none => .no
      else .no
    | _ => .no
  | _ => .no
/-- f(..), f a built-in function -/
def eBf (f : List D → HP → R D) (as : MA) : ME := fun C e h => (as C e h).bind fun xs h => f xs h
def oN : MO := fun _ _ h => .ok none h
def oS (a : ME) : MO := fun C e h => (a C e h).bind fun x h => match x with
  | .int i => .ok (some i) h
  | _ => .no
def eSl (f : D → Option Int → Option Int → HP → R D) (a : ME) (lo hi : MO) : ME := fun C e h => (a C e h).bind fun x h => (lo C e h).bind fun l h => (hi C e h).bind fun u h => f x l u h

/-! ### what is walked -/
/-- at turn j: none: it can't be told; some none: it is over -/
abbrev Itr := Nat → HP → Option (Option D)
abbrev MI := Ctx → Ev → HP → R Itr
def itL (i : Nat) : Itr := fun j h => match h[i]? with
  | some (.lst xs) => some xs[j]?
  | some (.fz xs) => some xs[j]?
  | _ => none
def itT (ds : List D) : Itr := fun j _ => some ds[j]?
def itS (x : Str) : Itr := fun j _ => some ((x.cps[j]?).map fun c => .str ⟨#[c]⟩)
def itR (lo : Int) (n : Nat) : Itr := fun j _ => if j < n then some (some (.int (lo + j))) else some none
def itRc (lo c : Int) (n : Nat) : Itr := fun j _ => if j < n then some (some (.int (lo + j * c))) else some none
def itE (i : Nat) : Itr := fun j h => (itL i j h).map fun o => o.map fun d => .tup [.int j, d]
def itZ (a b : Nat) : Itr := fun j h => match itL a j h, itL b j h with
  | some (some x), some (some y) => some (some (.tup [x, y]))
  | some _, some _ => some none
  | _, _ => none
def itV (i n : Nat) : Itr := fun j h => if j < n then match itL i (n - 1 - j) h with
    | some (some d) => some (some d)
    | _ => none
  else some none
def isL (i : Nat) (h : HP) : Option (List D) := match h[i]? with
  | some (.lst xs) => some xs
  | some (.fz xs) => some xs
  | _ => none
/-- for .. in e: a list, a tuple, a text -/
def iA (a : ME) : MI := fun C e h => (a C e h).bind fun x h => match x with
  | .ref i => match isL i h with
    | some _ => .ok (itL i) h
    | none => .no
  | .tup ds => .ok (itT ds) h
  | .str z => .ok (itS z) h
  | _ => .no
def iR1 (a : ME) : MI := fun C e h => (a C e h).bind fun x h => match x with
  | .int n => if -(2 ^ 62) ≤ n ∧ n < 2 ^ 62 then .ok (itR 0 n.toNat) h else .no
  | _ => .no
def iR2 (a b : ME) : MI := fun C e h => (a C e h).bind fun x h => (b C e h).bind fun y h => match x, y with
  | .int i, .int j => if -(2 ^ 62) ≤ i ∧ i < 2 ^ 62 ∧ -(2 ^ 62) ≤ j ∧ j < 2 ^ 62 then .ok (itR i (j - i).toNat) h else .no
  | _, _ => .no
def iEn (a : ME) : MI := fun C e h => (a C e h).bind fun x h => match x with
  | .ref i => match isL i h with
    | some _ => .ok (itE i) h
    | none => .no
  | _ => .no
def iZp (a b : ME) : MI := fun C e h => (a C e h).bind fun x h => (b C e h).bind fun y h => match x, y with
  | .ref i, .ref j => match isL i h, isL j h with
    | some _, some _ => .ok (itZ i j) h
    | _, _ => .no
  | _, _ => .no
def iRv (a : ME) : MI := fun C e h => (a C e h).bind fun x h => match x with
  | .ref i => match isL i h with
    | some xs => .ok (itV i xs.length) h
    | none => .no
  | _ => .no
/-- reversed(range(a)), reversed(range(a, b)) -/
def iRr1 (a : ME) : MI := fun C e h => (a C e h).bind fun x h => match x with
  | .int n => if -(2 ^ 62) ≤ n ∧ n < 2 ^ 62 then .ok (itRc (n.toNat - 1) (-1) n.toNat) h else .no
  | _ => .no

/-! ### targets -/
abbrev Tg := Ev → D → Option Ev
def gN (i : Nat) : Tg := fun e d => some (e.set i (some d))
def gT (is : List Nat) : Tg := fun e d => match d with
  | .tup ds => if ds.length = is.length then some ((is.zip ds).foldl (fun e p => e.set p.1 (some p.2)) e) else none
  | _ => none

/-! ### statements -/
inductive FL where
  | nx (e : Ev) | rt (d : D) | bk (e : Ev) | ct (e : Ev)
abbrev MS := Ctx → Ev → HP → R FL
def sSk : MS := fun _ e h => .ok (.nx e) h
def sSq (a b : MS) : MS := fun C e h => (a C e h).bind fun f h => match f with
  | .nx e => b C e h
  | f => .ok f h
def sBk : MS := fun _ e h => .ok (.bk e) h
def sCt : MS := fun _ e h => .ok (.ct e) h
def sEx (a : ME) : MS := fun C e h => (a C e h).bind fun _ h => .ok (.nx e) h
def sRt (a : ME) : MS := fun C e h => (a C e h).bind fun d h => .ok (.rt d) h
def sRN : MS := fun _ _ h => .ok (.rt .non) h
def sAs (g : Tg) (a : ME) : MS := fun C e h => (a C e h).bind fun d h => match g e d with
  | some e => .ok (.nx e) h
  | none => .no
/-- x, y = a, b -/
def sPr (i j : Nat) (a b : ME) : MS := fun C e h => (a C e h).bind fun x h => (b C e h).bind fun y h => .ok (.nx ((e.set i (some x)).set j (some y))) h
def sAu (i : Nat) (op : D → D → HP → R D) (a : ME) : MS := fun C e h => match e[i]? with
  | some (some x) => (a C e h).bind fun y h => (op x y h).bind fun z h => .ok (.nx (e.set i (some z))) h
  | _ => .no
def sIf (t : MT) (a b : MS) : MS := fun C e h => (t C e h).bind fun x h => if x = true then a C e h else b C e h
/-- o[i] = a -/
def sSt (f : D → D → D → HP → R Unit) (o i a : ME) : MS := fun C e h => (a C e h).bind fun v h => (o C e h).bind fun x h => (i C e h).bind fun y h => (f x y v h).bind fun _ h => .ok (.nx e) h
def putD (f : Str) (v : D) : List (Str × D) → List (Str × D)
  | [] => [(f, v)]
  | (g, x) :: r => if g = f then (g, v) :: r else (g, x) :: putD f v r
/-- o.f = a -/
def sFl (cs : List Nat) (o : ME) (f : Str) (a : ME) : MS := fun C e h => (a C e h).bind fun v h => (o C e h).bind fun x h => match x with
  | .ref i => match h[i]? with
    | some (.ins c fs) => if c ∈ cs ∧ fs.length < 1000 then .ok (.nx e) (h.set i (.ins c (putD f v fs))) else .no
    | _ => .no
  | _ => .no
def whileN (t : MT) (b : MS) : Nat → MS
  | 0 => fun _ _ _ => .no
  | n + 1 => fun C e h => (t C e h).bind fun x h => if x = true then (b C e h).bind fun f h => match f with
      | .nx e => whileN t b n C e h
      | .ct e => whileN t b n C e h
      | .bk e => .ok (.nx e) h
      | .rt d => .ok (.rt d) h
    else .ok (.nx e) h
def sWh (t : MT) (b : MS) : MS := fun C e h => whileN t b C.fuel C e h
def forN (it : Itr) (g : Tg) (b : MS) : Nat → Nat → MS
  | 0, _ => fun _ _ _ => .no
  | n + 1, j => fun C e h => match it j h with
    | some none => .ok (.nx e) h
    | some (some d) => match g e d with
      | some e => (b C e h).bind fun f h => match f with
        | .nx e => forN it g b n (j + 1) C e h
        | .ct e => forN it g b n (j + 1) C e h
        | .bk e => .ok (.nx e) h
        | .rt d => .ok (.rt d) h
      | none => .no
    | none => .no
def sFo (g : Tg) (it : MI) (b : MS) : MS := fun C e h => (it C e h).bind fun i h => forN i g b C.fuel 0 C e h
/-- what can't be told: a raise that is never come to -/
def sNo : MS := fun _ _ _ => .no

/-! ### comprehensions: the items of the new list -/
def cmpN (it : Itr) (g : Tg) (t : MT) (a : ME) (e0 : Ev) (C : Ctx) : Nat → Nat → List D → HP → R (List D)
  | 0, _, _, _ => .no
  | n + 1, j, acc, h => match it j h with
    | some none => .ok acc h
    | some (some d) => match g e0 d with
      | some e => (t C e h).bind fun x h => if x = true then (a C e h).bind fun y h => if acc.length < sizeLine then cmpN it g t a e0 C n (j + 1) (acc ++ [y]) h else .no
          else cmpN it g t a e0 C n (j + 1) acc h
      | none => .no
    | none => .no
def wipeE (e : Ev) : List Nat → Ev
  | [] => e
  | v :: vs => (wipeE e vs).set v none
def tY : MT := fun _ _ h => .ok true h
def eLc (vs : List Nat) (g : Tg) (it : MI) (t : MT) (a : ME) : ME := fun C e h => (it C e h).bind fun i h => (cmpN i g t a (wipeE e vs) C C.fuel 0 [] h).bind fun xs h => .ok (.ref h.length) (h ++ [.lst xs])

/-! ### a text's defs -/
structure Fn where
  np : Nat
  nn : Nat
  body : MS
def runFn (C : Ctx) (fn : Fn) (ds : List D) (h : HP) : R D :=
  if ds.length = fn.np then (fn.body C (ds.map some ++ List.replicate (fn.nn - ds.length) none) h).bind fun f h => match f with
    | .rt d => .ok d h
    | .nx _ => .ok .non h
    | _ => .no
  else .no
structure Tbl where
  fn : Nat → Option Fn
  me : Nat → Nat → Option Fn
  fuel : Nat
def ctx (T : Tbl) : Nat → Ctx
  | 0 => ⟨fun _ _ _ => .no, fun _ _ _ _ => .no, fun _ _ _ => .no, T.fuel⟩
  | n + 1 => ⟨fun f ds h => match T.fn f with
      | some fn => runFn (ctx T n) fn ds h
      | none => .no,
    fun c m ds h => match T.me c m with
      | some fn => runFn (ctx T n) fn ds h
      | none => .no,
    mkBy (ctx T n).meth, T.fuel⟩
end Z
/-! Z1: what the plain evaluator's values, heaps and results stand for in the hand layer. -/
namespace Z
open PySem L2

/-! ### values -/
mutual
def RV (φ : Nat → Addr) (n : Nat) (H : Hp) : D → V → Prop
  | .non, v => v = .non
  | .bl b, v => v = .bl b
  | .int i, v => v = .int i
  | .str x, v => v = .str x
  | .ref i, v => i < n ∧ v = .ref (φ i)
  | .tup ds, v => ∃ p vs, v = .ref p ∧ H p = some (.tup vs) ∧ RVs φ n H ds vs
def RVs (φ : Nat → Addr) (n : Nat) (H : Hp) : List D → List V → Prop
  | [], vs => vs = []
  | d :: ds, vs => ∃ v r, vs = v :: r ∧ RV φ n H d v ∧ RVs φ n H ds r
end
def RKs {κ : Type} (φ : Nat → Addr) (n : Nat) (H : Hp) : List (κ × D) → List (κ × V) → Prop
  | [], vs => vs = []
  | (k, d) :: ds, vs => ∃ v r, vs = (k, v) :: r ∧ RV φ n H d v ∧ RKs φ n H ds r
section
variable {φ φ' : Nat → Addr} {n m : Nat} {H H' : Hp}
theorem RVs.len : ∀ {ds : List D} {vs : List V}, RVs φ n H ds vs → vs.length = ds.length
  | [], vs, h => by simp only [RVs] at h; subst h; rfl
  | d :: ds, vs, h => by
    simp only [RVs] at h
    obtain ⟨v, r, rfl, _, h⟩ := h
    simp [RVs.len h]
theorem RVs.get : ∀ {ds : List D} {vs : List V} {i : Nat} {d : D}, RVs φ n H ds vs → ds[i]? = some d → ∃ v, vs[i]? = some v ∧ RV φ n H d v
  | [], vs, i, d, h, e => by simp at e
  | d :: ds, vs, 0, d', h, e => by
    simp only [RVs] at h
    obtain ⟨v, r, rfl, h1, h⟩ := h
    simp at e; subst e
    exact ⟨v, rfl, h1⟩
  | d :: ds, vs, i + 1, d', h, e => by
    simp only [RVs] at h
    obtain ⟨v, r, rfl, h1, h⟩ := h
    obtain ⟨v', e1, e2⟩ := RVs.get (i := i) (d := d') h (by simpa using e)
    exact ⟨v', by simpa using e1, e2⟩
theorem RVs.append : ∀ {ds es : List D} {vs us : List V}, RVs φ n H ds vs → RVs φ n H es us → RVs φ n H (ds ++ es) (vs ++ us)
  | [], es, vs, us, h, q => by simp only [RVs] at h; subst h; exact q
  | d :: ds, es, vs, us, h, q => by
    simp only [RVs] at h
    obtain ⟨v, r, rfl, h1, h⟩ := h
    simp only [List.cons_append, RVs]
    exact ⟨v, r ++ us, rfl, h1, RVs.append h q⟩
theorem RVs.set : ∀ {ds : List D} {vs : List V} (i : Nat) {d : D} {v : V}, RVs φ n H ds vs → RV φ n H d v → RVs φ n H (ds.set i d) (vs.set i v)
  | [], vs, i, d, v, h, q => by simp only [RVs] at h; subst h; simp [RVs]
  | d :: ds, vs, 0, d', v', h, q => by
    simp only [RVs] at h
    obtain ⟨v, r, rfl, h1, h⟩ := h
    simp only [List.set_cons_zero, RVs]
    exact ⟨v', r, rfl, q, h⟩
  | d :: ds, vs, i + 1, d', v', h, q => by
    simp only [RVs] at h
    obtain ⟨v, r, rfl, h1, h⟩ := h
    simp only [List.set_cons_succ, RVs]
    exact ⟨v, r.set i v', rfl, h1, RVs.set i h q⟩
theorem RVs.take : ∀ {ds : List D} {vs : List V} (i : Nat), RVs φ n H ds vs → RVs φ n H (ds.take i) (vs.take i)
  | [], vs, i, h => by simp only [RVs] at h; subst h; simp [RVs]
  | d :: ds, vs, 0, h => by simp [RVs]
  | d :: ds, vs, i + 1, h => by
    simp only [RVs] at h
    obtain ⟨v, r, rfl, h1, h⟩ := h
    simp only [List.take_succ_cons, RVs]
    exact ⟨v, r.take i, rfl, h1, RVs.take i h⟩
theorem RVs.drop : ∀ {ds : List D} {vs : List V} (i : Nat), RVs φ n H ds vs → RVs φ n H (ds.drop i) (vs.drop i)
  | [], vs, i, h => by simp only [RVs] at h; subst h; simp [RVs]
  | d :: ds, vs, 0, h => by simpa using h
  | d :: ds, vs, i + 1, h => by
    simp only [RVs] at h
    obtain ⟨v, r, rfl, h1, h⟩ := h
    simpa using RVs.drop i h
theorem RVs.nil_iff {vs : List V} : RVs φ n H [] vs ↔ vs = [] := by simp [RVs]
theorem RVs.one {d : D} {v : V} (h : RV φ n H d v) : RVs φ n H [d] [v] := by
  simp only [RVs]; exact ⟨v, [], rfl, h, rfl⟩
theorem RVs.cons {d : D} {v : V} {ds : List D} {vs : List V} (h : RV φ n H d v) (q : RVs φ n H ds vs) : RVs φ n H (d :: ds) (v :: vs) := by
  simp only [RVs]; exact ⟨v, vs, rfl, h, q⟩
theorem RVs.reverse : ∀ {ds : List D} {vs : List V}, RVs φ n H ds vs → RVs φ n H ds.reverse vs.reverse
  | [], vs, h => by simp only [RVs] at h; subst h; simp [RVs]
  | d :: ds, vs, h => by
    simp only [RVs] at h
    obtain ⟨v, r, rfl, h1, h⟩ := h
    simp only [List.reverse_cons]
    exact RVs.append (RVs.reverse h) (RVs.one h1)
/-- all values of a list of ints -/
theorem RVs.ints : ∀ {ns : List Int} {vs : List V}, RVs φ n H (ns.map D.int) vs → vs = ns.map V.int
  | [], vs, h => by simpa [RVs] using h
  | i :: ns, vs, h => by
    simp only [List.map_cons, RVs] at h
    obtain ⟨v, r, rfl, h1, h⟩ := h
    simp only [RV] at h1
    subst h1
    rw [RVs.ints h]; rfl
theorem RVs.of_ints : ∀ {ns : List Int}, RVs φ n H (ns.map D.int) (ns.map V.int)
  | [] => by simp [RVs]
  | i :: ns => by
    simp only [List.map_cons, RVs]
    exact ⟨_, _, rfl, by simp [RV], RVs.of_ints⟩
end

/-! ### objects, heaps -/
def RO (K : PySem.W.Frag) (κ : Nat → Addr) (φ : Nat → Addr) (n : Nat) (H : Hp) (a : Addr) : O → Prop
  | .lst ds => ∃ vs, H a = some (.lst vs) ∧ RVs φ n H ds vs
  | .fz ds => ∃ vs, ((∃ o, H a = some (.frz o (.lst vs))) ∨ ∃ (o : Obj) (its : Array Value) (n : Nat), K.lookup a = some o ∧ o.cls = .type "list" ∧ o.dict = none ∧ o.data = .seq its n ∧ its.size ≤ sizeLine ∧ Vals vs its.toList) ∧ RVs φ n H ds vs
  | .dic kvs => ∃ us, H a = some (.dK us) ∧ RKs φ n H kvs us
  | .dct kvs => ∃ us, H a = some (.dT us) ∧ RKs φ n H kvs us
  | .ins c fs => ∃ dx us, H a = some (.ins (κ c) dx us) ∧ RKs φ n H fs us
def Own (φ : Nat → Addr) (h : HP) (b : Addr) : Prop := ∃ i o, h[i]? = some o ∧ o.mu = true ∧ φ i = b
structure Sim (K : PySem.W.Frag) (κ : Nat → Addr) (φ : Nat → Addr) (h : HP) (H : Hp) : Prop where
  inj : ∀ i j o o', h[i]? = some o → h[j]? = some o' → o.mu = true → o'.mu = true → φ i = φ j → i = j
  obj : ∀ i o, h[i]? = some o → RO K κ φ h.length H (φ i) o
structure Step (φ : Nat → Addr) (h : HP) (H : Hp) (φ' : Nat → Addr) (h' : HP) (H' : Hp) : Prop where
  len : h.length ≤ h'.length
  agree : ∀ i, i < h.length → φ' i = φ i
  frame : ∀ b, H b ≠ none → ¬ Own φ h b → H' b = H b ∧ ¬ Own φ' h' b
def isMut : HO → Bool
  | .lst _ => true
  | .dK _ => true
  | .dT _ => true
  | .ins _ _ _ => true
  | _ => false
section
variable {K : PySem.W.Frag} {κ φ φ' φ2 : Nat → Addr} {h h' h2 : HP} {H H' H2 : Hp}
theorem Sim.own (S : Sim K κ φ h H) {b : Addr} (o : Own φ h b) : ∃ u, H b = some u ∧ isMut u = true := by
  obtain ⟨i, o, e, m, rfl⟩ := o
  have q := S.obj i o e
  cases o with
  | lst ds => obtain ⟨vs, e, _⟩ := q; exact ⟨_, e, rfl⟩
  | fz ds => cases m
  | dic ds => obtain ⟨vs, e, _⟩ := q; exact ⟨_, e, rfl⟩
  | dct ds => obtain ⟨vs, e, _⟩ := q; exact ⟨_, e, rfl⟩
  | ins c fs => obtain ⟨dx, vs, e, _⟩ := q; exact ⟨_, e, rfl⟩
theorem Step.refl : Step φ h H φ h H := ⟨Nat.le_refl _, fun _ _ => rfl, fun _ _ q => ⟨rfl, q⟩⟩
theorem Step.trans (a : Step φ h H φ' h' H') (b : Step φ' h' H' φ2 h2 H2) : Step φ h H φ2 h2 H2 :=
  ⟨Nat.le_trans a.len b.len, fun i hi => (b.agree i (Nat.lt_of_lt_of_le hi a.len)).trans (a.agree i hi), fun x e q => by
    obtain ⟨e1, q1⟩ := a.frame x e q
    obtain ⟨e2, q2⟩ := b.frame x (by rw [e1]; exact e) q1
    exact ⟨e2.trans e1, q2⟩⟩
theorem Sim.tup (S : Sim K κ φ h H) (st : Step φ h H φ' h' H') {p : Addr} {vs : List V} (e : H p = some (.tup vs)) : H' p = some (.tup vs) := by
  have n : ¬ Own φ h p := fun o => by
    obtain ⟨u, e', m⟩ := S.own o
    rw [e] at e'; cases e'; cases m
  rw [(st.frame p (by rw [e]; simp) n).1, e]
mutual
theorem RV.step (S : Sim K κ φ h H) (st : Step φ h H φ' h' H') : ∀ {d : D} {v : V}, RV φ h.length H d v → RV φ' h'.length H' d v
  | .non, v, q => by simpa only [RV] using q
  | .bl b, v, q => by simpa only [RV] using q
  | .int i, v, q => by simpa only [RV] using q
  | .str x, v, q => by simpa only [RV] using q
  | .ref i, v, q => by
    simp only [RV] at q ⊢
    exact ⟨Nat.lt_of_lt_of_le q.1 st.len, by rw [st.agree i q.1]; exact q.2⟩
  | .tup ds, v, q => by
    simp only [RV] at q ⊢
    obtain ⟨p, vs, e, e2, r⟩ := q
    exact ⟨p, vs, e, S.tup st e2, RVs.step S st r⟩
theorem RVs.step (S : Sim K κ φ h H) (st : Step φ h H φ' h' H') : ∀ {ds : List D} {vs : List V}, RVs φ h.length H ds vs → RVs φ' h'.length H' ds vs
  | [], vs, q => by simpa only [RVs] using q
  | d :: ds, vs, q => by
    simp only [RVs] at q ⊢
    obtain ⟨v, r, e, q1, q2⟩ := q
    exact ⟨v, r, e, RV.step S st q1, RVs.step S st q2⟩
end
theorem RKs.step {κ' : Type} (S : Sim K κ φ h H) (st : Step φ h H φ' h' H') : ∀ {ds : List (κ' × D)} {vs : List (κ' × V)}, RKs φ h.length H ds vs → RKs φ' h'.length H' ds vs
  | [], vs, q => by simpa only [RKs] using q
  | (k, d) :: ds, vs, q => by
    simp only [RKs] at q ⊢
    obtain ⟨v, r, e, q1, q2⟩ := q
    exact ⟨v, r, e, RV.step S st q1, RKs.step S st q2⟩
/-- objects other than the one changed -/
theorem RO.step (S : Sim K κ φ h H) (st : Step φ h H φ' h' H') {i : Nat} {o : O} (hi : h[i]? = some o) (e : H' (φ i) = H (φ i)) : RO K κ φ' h'.length H' (φ' i) o := by
  have q := S.obj i o hi
  have hl : i < h.length := (List.getElem?_eq_some_iff.mp hi).1
  rw [st.agree i hl]
  cases o with
  | lst ds => obtain ⟨vs, e1, r⟩ := q; exact ⟨vs, by rw [e]; exact e1, r.step S st⟩
  | fz ds =>
    obtain ⟨vs, e1, r⟩ := q
    refine ⟨vs, ?_, r.step S st⟩
    rcases e1 with ⟨o, e1⟩ | e1
    · exact .inl ⟨o, by rw [e]; exact e1⟩
    · exact .inr e1
  | dic ds => obtain ⟨vs, e1, r⟩ := q; exact ⟨vs, by rw [e]; exact e1, r.step S st⟩
  | dct ds => obtain ⟨vs, e1, r⟩ := q; exact ⟨vs, by rw [e]; exact e1, r.step S st⟩
  | ins c fs => obtain ⟨dx, vs, e1, r⟩ := q; exact ⟨dx, vs, by rw [e]; exact e1, r.step S st⟩
theorem RO.stepF (S : Sim K κ φ h H) (st : Step φ h H φ' h' H') {i : Nat} {ds : List D} (hi : h[i]? = some (.fz ds)) (e : ∀ o vs, H (φ i) = some (.frz o (.lst vs)) → H' (φ i) = some (.frz o (.lst vs))) : RO K κ φ' h'.length H' (φ' i) (.fz ds) := by
  obtain ⟨vs, e1, r⟩ := S.obj i _ hi
  have hl : i < h.length := (List.getElem?_eq_some_iff.mp hi).1
  rw [st.agree i hl]
  refine ⟨vs, ?_, r.step S st⟩
  rcases e1 with ⟨o, e1⟩ | e1
  · exact .inl ⟨o, e _ _ e1⟩
  · exact .inr e1
/-- a new thing that the evaluator does not name (a tuple, an instance's dict) -/
theorem step_temp (S : Sim K κ φ h H) {p : Addr} {u : HO} (hp : H p = none) : Step φ h H φ h (upd H p u) :=
  ⟨Nat.le_refl _, fun _ _ => rfl, fun b e q => ⟨upd_ne (fun z => by subst z; exact e hp), q⟩⟩
theorem Sim.temp (S : Sim K κ φ h H) {p : Addr} {u : HO} (hp : H p = none) : Sim K κ φ h (upd H p u) := by
  refine ⟨S.inj, fun i o hi => ?_⟩
  have st := step_temp S (u := u) hp
  by_cases m : o.mu = true
  · obtain ⟨u', e, _⟩ := S.own ⟨i, o, hi, m, rfl⟩
    exact RO.step S st hi (upd_ne (ne_of_none e hp))
  · cases o with
    | fz ds => exact RO.stepF S st hi fun o vs e => by rw [upd_ne (ne_of_none e hp)]; exact e
    | lst _ => exact absurd rfl m
    | dic _ => exact absurd rfl m
    | dct _ => exact absurd rfl m
    | ins _ _ => exact absurd rfl m
/-- a new object of the evaluator's -/
def ext (φ : Nat → Addr) (n : Nat) (p : Addr) : Nat → Addr := fun i => if i = n then p else φ i
theorem ext_at {n : Nat} {p : Addr} : ext φ n p n = p := by unfold ext; rw [if_pos rfl]
theorem ext_lt {n i : Nat} {p : Addr} (h : i < n) : ext φ n p i = φ i := by unfold ext; rw [if_neg (Nat.ne_of_lt h)]
theorem get_snoc {h : HP} {o o' : O} {i : Nat} (e : (h ++ [o])[i]? = some o') : (i < h.length ∧ h[i]? = some o') ∨ (i = h.length ∧ o' = o) := by
  by_cases hi : i < h.length
  · rw [List.getElem?_append_left hi] at e
    exact .inl ⟨hi, e⟩
  · rw [List.getElem?_append_right (by omega)] at e
    have : i - h.length = 0 := by
      cases q : i - h.length with
      | zero => rfl
      | succ k => rw [q] at e; simp at e
    rw [this] at e
    simp at e
    exact .inr ⟨by omega, e.symm⟩
theorem step_new (S : Sim K κ φ h H) {p : Addr} {o : O} {u : HO} (hp : H p = none) : Step φ h H (ext φ h.length p) (h ++ [o]) (upd H p u) := by
  refine ⟨by simp, fun i hi => ext_lt hi, fun b e q => ⟨upd_ne (fun z => by subst z; exact e hp), fun z => ?_⟩⟩
  obtain ⟨i, o', hi, m, rfl⟩ := z
  rcases get_snoc hi with ⟨hl, hi⟩ | ⟨rfl, rfl⟩
  · exact q ⟨i, o', hi, m, (ext_lt hl).symm⟩
  · rw [ext_at] at e; exact e hp
theorem Sim.new (S : Sim K κ φ h H) {p : Addr} {o : O} {u : HO} (hp : H p = none) (new : ∀ st : Step φ h H (ext φ h.length p) (h ++ [o]) (upd H p u), RO K κ (ext φ h.length p) (h ++ [o]).length (upd H p u) p o) : Sim K κ (ext φ h.length p) (h ++ [o]) (upd H p u) := by
  have st := step_new S (o := o) (u := u) hp
  refine ⟨fun i j oi oj hi hj mi mj e => ?_, fun i o' hi => ?_⟩
  · rcases get_snoc hi with ⟨li, hi2⟩ | ⟨ei, eoi⟩ <;> rcases get_snoc hj with ⟨lj, hj2⟩ | ⟨ej, eoj⟩
    · rw [ext_lt li, ext_lt lj] at e
      exact S.inj i j oi oj hi2 hj2 mi mj e
    · rw [ext_lt li, ej, ext_at] at e
      obtain ⟨u', e', _⟩ := S.own ⟨i, oi, hi2, mi, rfl⟩
      rw [e, hp] at e'; cases e'
    · rw [ext_lt lj, ei, ext_at] at e
      obtain ⟨u', e', _⟩ := S.own ⟨j, oj, hj2, mj, rfl⟩
      rw [← e, hp] at e'; cases e'
    · rw [ei, ej]
  · rcases get_snoc hi with ⟨li, hi⟩ | ⟨rfl, rfl⟩
    · by_cases m : o'.mu = true
      · obtain ⟨u', e, _⟩ := S.own ⟨i, o', hi, m, rfl⟩
        exact RO.step S st hi (upd_ne (ne_of_none e hp))
      · cases o' with
        | fz ds => exact RO.stepF S st hi fun o vs e => by rw [upd_ne (ne_of_none e hp)]; exact e
        | lst _ => exact absurd rfl m
        | dic _ => exact absurd rfl m
        | dct _ => exact absurd rfl m
        | ins _ _ => exact absurd rfl m
    · rw [ext_at]; exact new st
/-- an object of the evaluator's changed -/
theorem step_set (S : Sim K κ φ h H) {i : Nat} {o o' : O} {u : HO} (hi : h[i]? = some o) (m : o.mu = true) (m' : o'.mu = true) : Step φ h H φ (h.set i o') (upd H (φ i) u) := by
  refine ⟨by simp, fun _ _ => rfl, fun b e q => ⟨upd_ne (fun z => q ⟨i, o, hi, m, z.symm⟩), fun z => ?_⟩⟩
  obtain ⟨j, oj, hj, mj, rfl⟩ := z
  by_cases hij : i = j
  · subst hij; exact q ⟨i, o, hi, m, rfl⟩
  · rw [List.getElem?_set_ne hij] at hj
    exact q ⟨j, oj, hj, mj, rfl⟩
theorem Sim.set (S : Sim K κ φ h H) {i : Nat} {o o' : O} {u : HO} (hi : h[i]? = some o) (m : o.mu = true) (m' : o'.mu = true)
    (new : ∀ st : Step φ h H φ (h.set i o') (upd H (φ i) u), RO K κ φ (h.set i o').length (upd H (φ i) u) (φ i) o') : Sim K κ φ (h.set i o') (upd H (φ i) u) := by
  have st := step_set S (u := u) hi m m'
  have hl : i < h.length := (List.getElem?_eq_some_iff.mp hi).1
  have mu_of : ∀ (j : Nat) (oj : O), (h.set i o')[j]? = some oj → oj.mu = true → ∃ ob : O, h[j]? = some ob ∧ ob.mu = true := fun j oj hj mj => by
    by_cases hij : i = j
    · subst hij; exact ⟨o, hi, m⟩
    · rw [List.getElem?_set_ne hij] at hj; exact ⟨oj, hj, mj⟩
  refine ⟨fun j k oj ok hj hk mj mk e => ?_, fun j oj hj => ?_⟩
  · obtain ⟨o1, e1, m1⟩ := mu_of j oj hj mj
    obtain ⟨o2, e2, m2⟩ := mu_of k ok hk mk
    exact S.inj j k o1 o2 e1 e2 m1 m2 e
  · by_cases hij : i = j
    · subst hij
      rw [List.getElem?_set_self hl] at hj
      cases hj
      exact new st
    · rw [List.getElem?_set_ne hij] at hj
      by_cases mj : oj.mu = true
      · have ne : φ j ≠ φ i := fun e => hij (S.inj j i oj o hj hi mj m e).symm
        exact RO.step S st hj (upd_ne ne)
      · obtain ⟨u', e', mu'⟩ := S.own ⟨i, o, hi, m, rfl⟩
        cases oj with
        | fz ds =>
          refine RO.stepF S st hj fun ob vs e => ?_
          have ne : φ j ≠ φ i := fun z => by
            rw [z, e'] at e
            cases e
            cases mu'
          rw [upd_ne ne]
          exact e
        | lst _ => exact absurd rfl mj
        | dic _ => exact absurd rfl mj
        | dct _ => exact absurd rfl mj
        | ins _ _ => exact absurd rfl mj
end

/-! ### results -/
def Post (K : PySem.W.Frag) (κ φ : Nat → Addr) (h : HP) (H : Hp) (r : R D) (Q : VK) : Prop := match r with
  | .ok d h' => ∀ φ' H' v, Step φ h H φ' h' H' → Sim K κ φ' h' H' → RV φ' h'.length H' d v → Q v H'
  | _ => False
def PostA (K : PySem.W.Frag) (κ φ : Nat → Addr) (h : HP) (H : Hp) (r : R (List D)) (Q : List V → Hp → Prop) : Prop := match r with
  | .ok ds h' => ∀ φ' H' vs, Step φ h H φ' h' H' → Sim K κ φ' h' H' → RVs φ' h'.length H' ds vs → Q vs H'
  | _ => False
def PostT (K : PySem.W.Frag) (κ φ : Nat → Addr) (h : HP) (H : Hp) (r : R Bool) (Q : Bool → Hp → Prop) : Prop := match r with
  | .ok b h' => ∀ φ' H', Step φ h H φ' h' H' → Sim K κ φ' h' H' → Q b H'
  | _ => False
def PostO (K : PySem.W.Frag) (κ φ : Nat → Addr) (h : HP) (H : Hp) (r : R (Option Int)) (Q : Option Int → Hp → Prop) : Prop := match r with
  | .ok b h' => ∀ φ' H', Step φ h H φ' h' H' → Sim K κ φ' h' H' → Q b H'
  | _ => False
/-- the frame's slots -/
structure EnvR (φ : Nat → Addr) (n : Nat) (H : Hp) (e : Ev) (σ : L2.St) : Prop where
  len : e.length = σ.length
  get : ∀ (i : Nat) (d : D), e[i]? = some (some d) → ∃ v, σ[i]? = some (some v) ∧ RV φ n H d v
def PostS (K : PySem.W.Frag) (κ φ : Nat → Addr) (h : HP) (H : Hp) (r : R FL) (Dn : Ends) : Prop := match r with
  | .ok (.nx e) h' => ∀ φ' H' σ', Step φ h H φ' h' H' → Sim K κ φ' h' H' → EnvR φ' h'.length H' e σ' → Dn.nx σ' H'
  | .ok (.bk e) h' => ∀ φ' H' σ', Step φ h H φ' h' H' → Sim K κ φ' h' H' → EnvR φ' h'.length H' e σ' → Dn.bk σ' H'
  | .ok (.ct e) h' => ∀ φ' H' σ', Step φ h H φ' h' H' → Sim K κ φ' h' H' → EnvR φ' h'.length H' e σ' → Dn.ct σ' H'
  | .ok (.rt d) h' => ∀ φ' H' v, Step φ h H φ' h' H' → Sim K κ φ' h' H' → RV φ' h'.length H' d v → Dn.rt v H'
  | _ => False
section
variable {K : PySem.W.Frag} {κ φ φ' φ2 : Nat → Addr} {h h' h2 : HP} {H H' H2 : Hp}
theorem EnvR.step {e : Ev} {σ : L2.St} (r : EnvR φ h.length H e σ) (S : Sim K κ φ h H) (st : Step φ h H φ' h' H') : EnvR φ' h'.length H' e σ :=
  ⟨r.len, fun i d q => by obtain ⟨v, e, rv⟩ := r.get i d q; exact ⟨v, e, rv.step S st⟩⟩
theorem EnvR.set {n : Nat} {e : Ev} {σ : L2.St} (r : EnvR φ n H e σ) {d : D} {v : V} (q : RV φ n H d v) (i : Nat) : EnvR φ n H (e.set i (some d)) (σ.set i (some v)) := by
  refine ⟨by simpa using r.len, fun j d' e' => ?_⟩
  by_cases hij : i = j
  · subst hij
    by_cases hl : i < e.length
    · rw [List.getElem?_set_self hl] at e'
      cases e'
      exact ⟨v, by rw [List.getElem?_set_self (by rw [← r.len]; exact hl)], q⟩
    · rw [List.getElem?_eq_none (by simpa using hl)] at e'; cases e'
  · rw [List.getElem?_set_ne hij] at e'
    obtain ⟨v', e1, q1⟩ := r.get j d' e'
    exact ⟨v', by rw [List.getElem?_set_ne hij]; exact e1, q1⟩
theorem EnvR.wipe {n : Nat} {e : Ev} {σ : L2.St} (r : EnvR φ n H e σ) : ∀ vs : List Nat, EnvR φ n H (wipeE e vs) (wipe σ vs)
  | [] => r
  | i :: vs => by
    have q := EnvR.wipe r vs
    refine ⟨by simpa [wipeE, L2.wipe] using q.len, fun j d e' => ?_⟩
    show ∃ v, ((L2.wipe σ vs).set i none)[j]? = some (some v) ∧ _
    have e' : ((wipeE e vs).set i none)[j]? = some (some d) := e'
    by_cases hij : i = j
    · subst hij
      by_cases hl : i < (wipeE e vs).length
      · rw [List.getElem?_set_self hl] at e'; cases e'
      · rw [List.getElem?_eq_none (by simpa using hl)] at e'; cases e'
    · rw [List.getElem?_set_ne hij] at e' ⊢
      exact q.get j d e'
theorem Post.step {r : R D} {Q : VK} (p : Post K κ φ h H r Q) (st : Step φ h H φ' h' H') : Post K κ φ' h' H' r Q := by
  cases r with
  | ok d h2 => exact fun φ2 H2 v s2 => p φ2 H2 v (st.trans s2)
  | ex c fs h2 => exact p
  | no => exact p
theorem PostA.step {r : R (List D)} {Q : List V → Hp → Prop} (p : PostA K κ φ h H r Q) (st : Step φ h H φ' h' H') : PostA K κ φ' h' H' r Q := by
  cases r with
  | ok d h2 => exact fun φ2 H2 v s2 => p φ2 H2 v (st.trans s2)
  | ex c fs h2 => exact p
  | no => exact p
theorem PostT.step {r : R Bool} {Q : Bool → Hp → Prop} (p : PostT K κ φ h H r Q) (st : Step φ h H φ' h' H') : PostT K κ φ' h' H' r Q := by
  cases r with
  | ok d h2 => exact fun φ2 H2 s2 => p φ2 H2 (st.trans s2)
  | ex c fs h2 => exact p
  | no => exact p
theorem PostO.step {r : R (Option Int)} {Q : Option Int → Hp → Prop} (p : PostO K κ φ h H r Q) (st : Step φ h H φ' h' H') : PostO K κ φ' h' H' r Q := by
  cases r with
  | ok d h2 => exact fun φ2 H2 s2 => p φ2 H2 (st.trans s2)
  | ex c fs h2 => exact p
  | no => exact p
theorem PostS.step {r : R FL} {Dn : Ends} (p : PostS K κ φ h H r Dn) (st : Step φ h H φ' h' H') : PostS K κ φ' h' H' r Dn := by
  cases r with
  | ok f h2 => cases f <;> exact fun φ2 H2 v s2 => p φ2 H2 v (st.trans s2)
  | ex c fs h2 => exact p
  | no => exact p
theorem Post.of {d : D} {h' : HP} {Q : VK} (p : Post K κ φ h H (.ok d h') Q) {v : V} (st : Step φ h H φ' h' H') (S : Sim K κ φ' h' H') (r : RV φ' h'.length H' d v) : Q v H' := p φ' H' v st S r
theorem Post.of0 {d : D} {Q : VK} (p : Post K κ φ h H (.ok d h) Q) {v : V} (S : Sim K κ φ h H) (r : RV φ h.length H d v) : Q v H := p φ H v Step.refl S r
end
end Z
/-! Z2: the hand layer's judgements with the plain evaluator as reading: expressions. -/
namespace Z
open PySem L2 PyProof.Rows

section
variable {K : PySem.W.Frag} {κ φ φ' φ2 : Nat → Addr} {h h' h2 : HP} {H H' H2 : Hp}
theorem Post.bind {α : Type} {r : R α} {f : α → HP → R D} {Q : VK} (p : Post K κ φ h H (r.bind f) Q) : ∃ a h1, r = .ok a h1 ∧ Post K κ φ h H (f a h1) Q := by
  cases r with
  | ok a h1 => exact ⟨a, h1, rfl, p⟩
  | ex c fs h1 => exact False.elim p
  | no => exact False.elim p
theorem PostA.bind {α : Type} {r : R α} {f : α → HP → R (List D)} {Q : List V → Hp → Prop} (p : PostA K κ φ h H (r.bind f) Q) : ∃ a h1, r = .ok a h1 ∧ PostA K κ φ h H (f a h1) Q := by
  cases r with
  | ok a h1 => exact ⟨a, h1, rfl, p⟩
  | ex c fs h1 => exact False.elim p
  | no => exact False.elim p
theorem PostT.bind {α : Type} {r : R α} {f : α → HP → R Bool} {Q : Bool → Hp → Prop} (p : PostT K κ φ h H (r.bind f) Q) : ∃ a h1, r = .ok a h1 ∧ PostT K κ φ h H (f a h1) Q := by
  cases r with
  | ok a h1 => exact ⟨a, h1, rfl, p⟩
  | ex c fs h1 => exact False.elim p
  | no => exact False.elim p
theorem PostO.bind {α : Type} {r : R α} {f : α → HP → R (Option Int)} {Q : Option Int → Hp → Prop} (p : PostO K κ φ h H (r.bind f) Q) : ∃ a h1, r = .ok a h1 ∧ PostO K κ φ h H (f a h1) Q := by
  cases r with
  | ok a h1 => exact ⟨a, h1, rfl, p⟩
  | ex c fs h1 => exact False.elim p
  | no => exact False.elim p
theorem PostS.bind {α : Type} {r : R α} {f : α → HP → R FL} {Dn : Ends} (p : PostS K κ φ h H (r.bind f) Dn) : ∃ a h1, r = .ok a h1 ∧ PostS K κ φ h H (f a h1) Dn := by
  cases r with
  | ok a h1 => exact ⟨a, h1, rfl, p⟩
  | ex c fs h1 => exact False.elim p
  | no => exact False.elim p
end

/-! ### readings -/
def tD (K : PySem.W.Frag) (κ : Nat → Addr) (C : Ctx) (m : ME) : TE := fun σ H Q => ∃ φ e h, Sim K κ φ h H ∧ EnvR φ h.length H e σ ∧ Post K κ φ h H (m C e h) Q
def tQ (K : PySem.W.Frag) (κ : Nat → Addr) (C : Ctx) (m : MT) : TT := fun σ H Q => ∃ φ e h, Sim K κ φ h H ∧ EnvR φ h.length H e σ ∧ PostT K κ φ h H (m C e h) Q
def tA (K : PySem.W.Frag) (κ : Nat → Addr) (C : Ctx) (m : MA) : TA := fun σ H Q => ∃ φ e h, Sim K κ φ h H ∧ EnvR φ h.length H e σ ∧ PostA K κ φ h H (m C e h) Q
def tO (K : PySem.W.Frag) (κ : Nat → Addr) (C : Ctx) (m : MO) : TO := fun σ H Q => ∃ φ e h, Sim K κ φ h H ∧ EnvR φ h.length H e σ ∧ PostO K κ φ h H (m C e h) Q
def tS (K : PySem.W.Frag) (κ : Nat → Addr) (C : Ctx) (m : MS) : TS := fun Dn σ H => ∃ φ e h, Sim K κ φ h H ∧ EnvR φ h.length H e σ ∧ PostS K κ φ h H (m C e h) Dn

structure SE (X : Cx) (κ : Nat → Addr) (C : Ctx) (e : Expr) (m : ME) : Prop where
  pe : PE X e (tD X.K κ C m)
structure ST (X : Cx) (κ : Nat → Addr) (C : Ctx) (e : Expr) (m : MT) : Prop where
  pt : PT X e (tQ X.K κ C m)
/-- a chain of and, or -/
structure SW (X : Cx) (κ : Nat → Addr) (C : Ctx) (e : Expr) (m : MT) : Prop where
  pw : PW X e (tQ X.K κ C m)
structure SA (X : Cx) (κ : Nat → Addr) (C : Ctx) (es : List Expr) (m : MA) : Prop where
  pa : PA X es (tA X.K κ C m)
structure SO (X : Cx) (κ : Nat → Addr) (C : Ctx) (e : Option Expr) (m : MO) : Prop where
  po : PO X e (tO X.K κ C m)
structure SS (X : Cx) (κ : Nat → Addr) (C : Ctx) (s : Stmt) (m : MS) : Prop where
  ps : PS X s (tS X.K κ C m)
structure SSs (X : Cx) (κ : Nat → Addr) (C : Ctx) (s : List Stmt) (m : MS) : Prop where
  pss : PSs X s (tS X.K κ C m)

section
variable {K : PySem.W.Frag} {κ φ : Nat → Addr} {h h1 : HP} {H : Hp} {C : Ctx} {e : Ev} {σ : L2.St}
theorem td_of {m : ME} {d : D} {Q : VK} (S : Sim K κ φ h H) (r : EnvR φ h.length H e σ) (q : m C e h = .ok d h1)
    (k : ∀ φ1 H1 v, Step φ h H φ1 h1 H1 → Sim K κ φ1 h1 H1 → EnvR φ1 h1.length H1 e σ → RV φ1 h1.length H1 d v → Q v H1) : tD K κ C m σ H Q :=
  ⟨φ, e, h, S, r, by rw [q]; exact fun φ1 H1 v st S1 rv => k φ1 H1 v st S1 (r.step S st) rv⟩
theorem tq_of {m : MT} {b : Bool} {Q : Bool → Hp → Prop} (S : Sim K κ φ h H) (r : EnvR φ h.length H e σ) (q : m C e h = .ok b h1)
    (k : ∀ φ1 H1, Step φ h H φ1 h1 H1 → Sim K κ φ1 h1 H1 → EnvR φ1 h1.length H1 e σ → Q b H1) : tQ K κ C m σ H Q :=
  ⟨φ, e, h, S, r, by rw [q]; exact fun φ1 H1 st S1 => k φ1 H1 st S1 (r.step S st)⟩
theorem ta_of {m : MA} {ds : List D} {Q : List V → Hp → Prop} (S : Sim K κ φ h H) (r : EnvR φ h.length H e σ) (q : m C e h = .ok ds h1)
    (k : ∀ φ1 H1 vs, Step φ h H φ1 h1 H1 → Sim K κ φ1 h1 H1 → EnvR φ1 h1.length H1 e σ → RVs φ1 h1.length H1 ds vs → Q vs H1) : tA K κ C m σ H Q :=
  ⟨φ, e, h, S, r, by rw [q]; exact fun φ1 H1 v st S1 rv => k φ1 H1 v st S1 (r.step S st) rv⟩
theorem to_of {m : MO} {b : Option Int} {Q : Option Int → Hp → Prop} (S : Sim K κ φ h H) (r : EnvR φ h.length H e σ) (q : m C e h = .ok b h1)
    (k : ∀ φ1 H1, Step φ h H φ1 h1 H1 → Sim K κ φ1 h1 H1 → EnvR φ1 h1.length H1 e σ → Q b H1) : tO K κ C m σ H Q :=
  ⟨φ, e, h, S, r, by rw [q]; exact fun φ1 H1 st S1 => k φ1 H1 st S1 (r.step S st)⟩
end

section
variable {X : Cx} {κ : Nat → Addr} {C : Ctx} {a b : Expr} {ma mb : ME} {pos : Pos}
theorem SE.mk' {e : Expr} {m : ME} {t : TE} (hp : PE X e t) (k : ∀ φ ev h σ H Q, Sim X.K κ φ h H → EnvR φ h.length H ev σ → Post X.K κ φ h H (m C ev h) Q → t σ H Q) : SE X κ C e m :=
  ⟨⟨fun pins s σ H Q I ⟨φ, ev, h, S, r, p⟩ => hp.run pins s σ H Q I (k φ ev h σ H Q S r p)⟩⟩
theorem ST.mk' {e : Expr} {m : MT} {t : TT} (hp : PT X e t) (k : ∀ φ ev h σ H Q, Sim X.K κ φ h H → EnvR φ h.length H ev σ → PostT X.K κ φ h H (m C ev h) Q → t σ H Q) : ST X κ C e m :=
  ⟨⟨fun pins s σ H Q I ⟨φ, ev, h, S, r, p⟩ => hp.run pins s σ H Q I (k φ ev h σ H Q S r p)⟩⟩
theorem SW.mk' {e : Expr} {m : MT} {t : TT} (hp : PW X e t) (k : ∀ φ ev h σ H Q, Sim X.K κ φ h H → EnvR φ h.length H ev σ → PostT X.K κ φ h H (m C ev h) Q → t σ H Q) : SW X κ C e m :=
  ⟨⟨fun whole pins s σ H Q I ⟨φ, ev, h, S, r, p⟩ => hp.run whole pins s σ H Q I (k φ ev h σ H Q S r p)⟩⟩
theorem SA.mk' {es : List Expr} {m : MA} {t : TA} (hp : PA X es t) (k : ∀ φ ev h σ H Q, Sim X.K κ φ h H → EnvR φ h.length H ev σ → PostA X.K κ φ h H (m C ev h) Q → t σ H Q) : SA X κ C es m :=
  ⟨⟨fun pos pins s σ H Q I ⟨φ, ev, h, S, r, p⟩ => hp.run pos pins s σ H Q I (k φ ev h σ H Q S r p)⟩⟩
theorem SO.mk' {e : Option Expr} {m : MO} {t : TO} (hp : PO X e t) (k : ∀ φ ev h σ H Q, Sim X.K κ φ h H → EnvR φ h.length H ev σ → PostO X.K κ φ h H (m C ev h) Q → t σ H Q) : SO X κ C e m := by
  constructor
  constructor
  intro pins s σ H Q I ⟨φ, ev, h, S, r, p⟩
  exact hp.run pins s σ H Q I (k φ ev h σ H Q S r p)
theorem SS.mk' {st : Stmt} {m : MS} {t : TS} (hp : PS X st t) (k : ∀ φ ev h σ H Dn, Sim X.K κ φ h H → EnvR φ h.length H ev σ → PostS X.K κ φ h H (m C ev h) Dn → t Dn σ H) : SS X κ C st m :=
  ⟨⟨fun pins s σ H Dn I ⟨φ, ev, h, S, r, p⟩ => hp.run pins s σ H Dn I (k φ ev h σ H Dn S r p)⟩⟩
theorem SSs.mk' {st : List Stmt} {m : MS} {t : TS} (hp : PSs X st t) (k : ∀ φ ev h σ H Dn, Sim X.K κ φ h H → EnvR φ h.length H ev σ → PostS X.K κ φ h H (m C ev h) Dn → t Dn σ H) : SSs X κ C st m :=
  ⟨⟨fun pins s σ H Dn I ⟨φ, ev, h, S, r, p⟩ => hp.run pins s σ H Dn I (k φ ev h σ H Dn S r p)⟩⟩

/-! ### names, constants -/
theorem se_v (i : Nat) {x : Str} {pos : Pos} (hN : X.N[i]? = some x := by rfl) (hv : Vis X.env.scope x := by first | exact Or.inl rfl | exact Or.inr (Or.inl rfl) | exact Or.inr (Or.inr rfl)) (hd : (x == ("__debug__" : Str)) = false := by decide)
    (hcd : (x == ("__classdict__" : Str)) = false := by decide) : SE X κ C (.Name x pos) (eV i) :=
  SE.mk' (pe_var hN hv hd hcd) fun φ ev h σ H Q S r p => by
    unfold eV at p
    split at p
    · rename_i d e
      obtain ⟨v, e1, q⟩ := r.get i d e
      exact ⟨v, e1, p.of0 S q⟩
    · exact False.elim p
theorem se_int {i : Int} {j : Nat} {pos : Pos} : SE X κ C (.Constant (.int i) j pos) (eC (.int i)) := SE.mk' pe_int fun φ ev h σ H Q S r p => p.of0 S (by simp [RV])
theorem se_bl {b : Bool} {j : Nat} {pos : Pos} : SE X κ C (.Constant (.bool b) j pos) (eC (.bl b)) := SE.mk' pe_bl fun φ ev h σ H Q S r p => p.of0 S (by simp [RV])
theorem se_non {j : Nat} {pos : Pos} : SE X κ C (.Constant .none j pos) (eC .non) := SE.mk' pe_non fun φ ev h σ H Q S r p => p.of0 S (by simp [RV])
theorem se_str {x : Str} {j : Nat} {pos : Pos} : SE X κ C (.Constant (.str x) j pos) (eC (.str x)) := SE.mk' pe_str fun φ ev h σ H Q S r p => p.of0 S (by simp [RV])
theorem se_gi {x : Str} {i : Int} {pos : Pos} {t : Tok} (hm : X.mg x = some (.int i t)) (hg : Gl X x := by rfl) (hd : (x == ("__debug__" : Str)) = false := by decide) : SE X κ C (.Name x pos) (eC (.int i)) :=
  SE.mk' (pe_glob (v := .int i) hg hm ⟨_, rfl⟩ hd) fun φ ev h σ H Q S r p => p.of0 S (by simp [RV])
/-! ### operators -/
def rD (K : PySem.W.Frag) (κ : Nat → Addr) (op : D → D → HP → R D) : R2 := fun x y H Q => ∃ φ h dx dy, Sim K κ φ h H ∧ RV φ h.length H dx x ∧ RV φ h.length H dy y ∧ Post K κ φ h H (op dx dy h) Q
def rDU (K : PySem.W.Frag) (κ : Nat → Addr) (op : D → HP → R D) : V → Hp → VK → Prop := fun x H Q => ∃ φ h dx, Sim K κ φ h H ∧ RV φ h.length H dx x ∧ Post K κ φ h H (op dx h) Q
theorem se_op {o : Operator} {op : D → D → HP → R D} (ho : OpR X (binaryOp o) (rD X.K κ op)) (ha : SE X κ C a ma) (hb : SE X κ C b mb) : SE X κ C (.BinOp a o b pos) (eOp op ma mb) :=
  SE.mk' (pe_op ho ha.pe hb.pe) fun φ ev h σ H Q S r p => by
    obtain ⟨dx, h1, e1, p⟩ := Post.bind p
    obtain ⟨dy, h2, e2, p⟩ := Post.bind p
    exact td_of S r e1 fun φ1 H1 v st S1 r1 q1 => td_of S1 r1 e2 fun φ2 H2 w st2 S2 r2 q2 => ⟨φ2, h2, dx, dy, S2, q1.step S1 st2, q2, p.step (st.trans st2)⟩
theorem se_un {o : UnaryOp} {op : D → HP → R D} (ho : UnR X (unaryOp o) (rDU X.K κ op)) (ha : SE X κ C a ma) : SE X κ C (.UnaryOp o a pos) (eUn op ma) :=
  SE.mk' (pe_un ho ha.pe) fun φ ev h σ H Q S r p => by
    obtain ⟨dx, h1, e1, p⟩ := Post.bind p
    exact td_of S r e1 fun φ1 H1 v st S1 r1 q1 => ⟨φ1, h1, dx, S1, q1, p.step st⟩
theorem se_cmp {o : CmpOp} {op : D → D → HP → R D} (ho : OpR X (compareOp o) (rD X.K κ op)) (ha : SE X κ C a ma) (hb : SE X κ C b mb) (hm : behindInMarks o b = false) : SE X κ C (.Compare a [o] [b] pos) (eOp op ma mb) :=
  SE.mk' (pe_cmpR ho ha.pe hb.pe hm) fun φ ev h σ H Q S r p => by
    obtain ⟨dx, h1, e1, p⟩ := Post.bind p
    obtain ⟨dy, h2, e2, p⟩ := Post.bind p
    exact td_of S r e1 fun φ1 H1 v st S1 r1 q1 => td_of S1 r1 e2 fun φ2 H2 w st2 S2 r2 q2 => ⟨φ2, h2, dx, dy, S2, q1.step S1 st2, q2, p.step (st.trans st2)⟩
end

/-! ### what the operators do -/
def opAdd : D → D → HP → R D := fun x y h => match x, y with
  | .int i, .int j => .ok (.int (i + j)) h
  | .str a, .str b => if a.length + b.length ≤ sizeLine then .ok (.str (a ++ b)) h else .no
  | .tup a, .tup b => if a.length + b.length ≤ sizeLine then .ok (.tup (a ++ b)) h else .no
  | .ref i, .ref j => match h[i]?, h[j]? with
    | some (.lst a), some (.lst b) => if a.length + b.length ≤ sizeLine then .ok (.ref h.length) (h ++ [.lst (a ++ b)]) else .no
    | _, _ => .no
  | _, _ => .no
def opSub : D → D → HP → R D := fun x y h => match x, y with
  | .int i, .int j => .ok (.int (i - j)) h
  | _, _ => .no
def mulOk (i j : Int) : Bool := decide (i.natAbs.log2 + j.natAbs.log2 < 100000000)
def opMul : D → D → HP → R D := fun x y h => match x, y with
  | .int i, .int j => if mulOk i j = true then .ok (.int (i * j)) h else .no
  | .ref i, .int k => match h[i]? with
    | some (.lst a) => if -(2 ^ 63) ≤ k ∧ k < 2 ^ 63 ∧ a.length * k.toNat ≤ sizeLine then .ok (.ref h.length) (h ++ [.lst (List.replicate k.toNat a).flatten]) else .no
    | _ => .no
  | .str a, .int k => if a.length ≤ 1000 ∧ k.natAbs ≤ 1000 then .ok (.str (Txt.mul a k)) h else .no
  | _, _ => .no
def divOk (j : Int) : Bool := decide (j ≠ 0) && decide (j.natAbs.log2 < 9000)
def opDiv : D → D → HP → R D := fun x y h => match x, y with
  | .int i, .int j => if divOk j = true then .ok (.int (i.fdiv j)) h else .no
  | _, _ => .no
def opMod : D → D → HP → R D := fun x y h => match x, y with
  | .int i, .int j => if j ≠ 0 then .ok (.int (i.fmod j)) h else .no
  | _, _ => .no
def opPow : D → D → HP → R D := fun x y h => match x, y with
  | .int i, .int j => if 0 ≤ j ∧ j ≤ 1000000 ∧ i.natAbs < 2 ^ 64 then .ok (.int (i ^ j.toNat)) h else .no
  | _, _ => .no
def opNeg : D → HP → R D := fun x h => match x with
  | .int i => .ok (.int (-i)) h
  | _ => .no
def opLt : D → D → HP → R D := fun x y h => match x, y with
  | .int i, .int j => .ok (.bl (decide (i < j))) h
  | _, _ => .no
def opLe : D → D → HP → R D := fun x y h => match x, y with
  | .int i, .int j => .ok (.bl (decide (i ≤ j))) h
  | _, _ => .no
def opGt : D → D → HP → R D := fun x y h => match x, y with
  | .int i, .int j => .ok (.bl (decide (j < i))) h
  | _, _ => .no
def opGe : D → D → HP → R D := fun x y h => match x, y with
  | .int i, .int j => .ok (.bl (decide (j ≤ i))) h
  | _, _ => .no
def isNon : D → Bool
  | .non => true
  | _ => false
def opIsN : D → D → HP → R D := fun x y h => match y with
  | .non => .ok (.bl (isNon x)) h
  | _ => .no
def opNotN : D → D → HP → R D := fun x y h => match y with
  | .non => .ok (.bl (!isNon x)) h
  | _ => .no

section
variable {X : Cx} {κ : Nat → Addr}
theorem RV.int_iff {φ : Nat → Addr} {n : Nat} {H : Hp} {i : Int} {v : V} : RV φ n H (.int i) v ↔ v = .int i := by simp [RV]
theorem RV.bl_iff {φ : Nat → Addr} {n : Nat} {H : Hp} {i : Bool} {v : V} : RV φ n H (.bl i) v ↔ v = .bl i := by simp [RV]
theorem RV.str_iff {φ : Nat → Addr} {n : Nat} {H : Hp} {i : Str} {v : V} : RV φ n H (.str i) v ↔ v = .str i := by simp [RV]
theorem RV.non_iff {φ : Nat → Addr} {n : Nat} {H : Hp} {v : V} : RV φ n H .non v ↔ v = .non := by simp [RV]
theorem RV.ref_iff {φ : Nat → Addr} {n i : Nat} {H : Hp} {v : V} : RV φ n H (.ref i) v ↔ i < n ∧ v = .ref (φ i) := by simp [RV]
theorem RV.tup_iff {φ : Nat → Addr} {n : Nat} {H : Hp} {ds : List D} {v : V} : RV φ n H (.tup ds) v ↔ ∃ p vs, v = .ref p ∧ H p = some (.tup vs) ∧ RVs φ n H ds vs := by simp [RV]
/-- a new list is laid -/
theorem Post.newL {K : PySem.W.Frag} {φ : Nat → Addr} {h : HP} {H : Hp} {ds : List D} {vs : List V} {Q : VK} {p : Addr} (q : Post K κ φ h H (.ok (.ref h.length) (h ++ [.lst ds])) Q) (S : Sim K κ φ h H) (hp : H p = none) (r : RVs φ h.length H ds vs) : Q (.ref p) (upd H p (.lst vs)) := by
  have st := step_new S (o := .lst ds) (u := .lst vs) hp
  exact q _ _ _ st (S.new hp fun st => ⟨vs, upd_same, r.step S st⟩) (RV.ref_iff.mpr ⟨by simp, by rw [ext_at]⟩)
/-- a new tuple is laid -/
theorem Post.newT {K : PySem.W.Frag} {φ : Nat → Addr} {h : HP} {H : Hp} {ds : List D} {vs : List V} {Q : VK} {p : Addr} (q : Post K κ φ h H (.ok (.tup ds) h) Q) (S : Sim K κ φ h H) (hp : H p = none) (r : RVs φ h.length H ds vs) : Q (.ref p) (upd H p (.tup vs)) := by
  have st := step_temp S (u := .tup vs) hp
  exact q _ _ _ st (S.temp hp) (RV.tup_iff.mpr ⟨p, vs, rfl, upd_same, r.step S st⟩)
theorem Sim.lst {K : PySem.W.Frag} {φ : Nat → Addr} {h : HP} {H : Hp} {i : Nat} {ds : List D} (S : Sim K κ φ h H) (e : h[i]? = some (.lst ds)) : ∃ vs, H (φ i) = some (.lst vs) ∧ RVs φ h.length H ds vs := S.obj i _ e
theorem Sim.dic {K : PySem.W.Frag} {φ : Nat → Addr} {h : HP} {H : Hp} {i : Nat} {ds : List (Key × D)} (S : Sim K κ φ h H) (e : h[i]? = some (.dic ds)) : ∃ vs, H (φ i) = some (.dK vs) ∧ RKs φ h.length H ds vs := S.obj i _ e
theorem Sim.dct {K : PySem.W.Frag} {φ : Nat → Addr} {h : HP} {H : Hp} {i : Nat} {ds : List (List Key × D)} (S : Sim K κ φ h H) (e : h[i]? = some (.dct ds)) : ∃ vs, H (φ i) = some (.dT vs) ∧ RKs φ h.length H ds vs := S.obj i _ e
theorem Sim.ins {K : PySem.W.Frag} {φ : Nat → Addr} {h : HP} {H : Hp} {i c : Nat} {ds : List (Str × D)} (S : Sim K κ φ h H) (e : h[i]? = some (.ins c ds)) : ∃ dx vs, H (φ i) = some (.ins (κ c) dx vs) ∧ RKs φ h.length H ds vs := S.obj i _ e
theorem Sim.isL {K : PySem.W.Frag} {φ : Nat → Addr} {h : HP} {H : Hp} {i : Nat} {ds : List D} (S : Sim K κ φ h H) (e : isL i h = some ds) : ∃ vs, SqL K H (φ i) vs ∧ RVs φ h.length H ds vs := by
  unfold Z.isL at e
  split at e
  · rename_i xs e1
    cases e
    obtain ⟨vs, e2, r⟩ := S.lst e1
    exact ⟨vs, SqL.of e2, r⟩
  · rename_i xs e1
    cases e
    obtain ⟨vs, e2, r⟩ := S.obj i _ e1
    refine ⟨vs, ?_, r⟩
    rcases e2 with ⟨o, e2⟩ | e2
    · exact .inl (.inr ⟨o, e2⟩)
    · exact .inr e2
  · cases e
theorem od_add : OpR X (binaryOp .Add) (rD X.K κ opAdd) := by
  intro pins s σ H x y v u Q I rx ry ⟨φ, h, dx, dy, S, qx, qy, p⟩
  unfold opAdd at p
  split at p
  · rw [RV.int_iff] at qx qy
    exact op_add pins s σ H _ _ v u Q I rx ry ⟨_, _, qx, qy, p.of0 S (RV.int_iff.mpr rfl)⟩
  · split at p
    · rename_i hz
      rw [RV.str_iff] at qx qy
      exact op_add_str pins s σ H _ _ v u Q I rx ry ⟨_, _, qx, qy, hz, p.of0 S (RV.str_iff.mpr rfl)⟩
    · exact False.elim p
  · split at p
    · rename_i hz
      rw [RV.tup_iff] at qx qy
      obtain ⟨a, vs, rfl, ha, ra⟩ := qx
      obtain ⟨b, us, rfl, hb, rb⟩ := qy
      have la := ra.len
      have lb := rb.len
      refine op_catA pins s σ H _ _ v u Q I rx ry ⟨a, b, vs, us, rfl, rfl, SqT.of ha, SqT.of hb, by omega, fun z => ?_, fun _ z => ?_, fun _ _ q hq => ?_⟩
      · subst z
        refine p.of0 S (RV.tup_iff.mpr ⟨b, us, rfl, hb, ?_⟩)
        have : RVs φ h.length H _ ([] ++ us) := ra.append rb
        simpa using this
      · subst z
        refine p.of0 S (RV.tup_iff.mpr ⟨a, vs, rfl, ha, ?_⟩)
        have : RVs φ h.length H _ (vs ++ []) := ra.append rb
        simpa using this
      · exact p.newT S hq (ra.append rb)
    · exact False.elim p
  · rw [RV.ref_iff] at qx qy
    split at p
    · rename_i e1 e2
      split at p
      · rename_i hz
        obtain ⟨vs, ha, ra⟩ := S.lst e1
        obtain ⟨us, hb, rb⟩ := S.lst e2
        have la := ra.len
        have lb := rb.len
        exact op_cat pins s σ H _ _ v u Q I rx ry ⟨_, _, vs, us, qx.2, qy.2, ha, hb, by omega, fun q hq => p.newL S hq (ra.append rb)⟩
      · exact False.elim p
    · exact False.elim p
  · exact False.elim p
theorem od_sub : OpR X (binaryOp .Sub) (rD X.K κ opSub) := by
  intro pins s σ H x y v u Q I rx ry ⟨φ, h, dx, dy, S, qx, qy, p⟩
  unfold opSub at p
  split at p
  · rw [RV.int_iff] at qx qy
    exact op_sub pins s σ H _ _ v u Q I rx ry ⟨_, _, qx, qy, p.of0 S (RV.int_iff.mpr rfl)⟩
  · exact False.elim p
theorem mul_ok {i j : Int} (h : mulOk i j = true) : IntMulOk i j := by
  have b : ∀ x : Int, Builtin.Int.intBits x ≤ x.natAbs.log2 + 1 := fun x => by
    unfold Builtin.Int.intBits
    split <;> omega
  have h1 := b i
  have h2 := b j
  have h3 : i.natAbs.log2 + j.natAbs.log2 < 100000000 := of_decide_eq_true h
  have e : bitsLine = 134217728 := by decide
  unfold IntMulOk
  intro z
  rw [Bool.and_eq_true] at z
  have z2 := z.2
  unfold Builtin.Int.intTooBig at z2
  have z3 := of_decide_eq_true z2
  rw [e] at z3
  omega
theorem RVs.flat {φ : Nat → Addr} {n : Nat} {H : Hp} {ds : List D} {vs : List V} (r : RVs φ n H ds vs) : ∀ k : Nat, RVs φ n H (List.replicate k ds).flatten (List.replicate k vs).flatten
  | 0 => by simp [RVs]
  | k + 1 => by
    simp only [List.replicate_succ, List.flatten_cons]
    exact r.append (RVs.flat r k)
theorem mulS_ok {a : Str} {k : Int} (h1 : a.length ≤ 1000) (h2 : k.natAbs ≤ 1000) : PySem.MulOk a k := by
  refine ⟨?_, fun h3 _ h4 => ?_, fun h3 _ => ?_⟩
  · rw [Bool.or_eq_false_iff]
    exact ⟨decide_eq_false (by omega), decide_eq_false (by omega)⟩
  · have h5 : (a.length : Int) ≤ (2 ^ 63 - 1) / k := by
      rw [Int.le_ediv_iff_mul_le (by omega)]
      have : (a.length : Int) * k ≤ 1000 * 1000 := Int.mul_le_mul (by omega) (by omega) (by omega) (by decide)
      omega
    omega
  · have h5 : a.length * k.toNat ≤ 1000 * 1000 := Nat.mul_le_mul h1 (by omega)
    unfold Builtin.Str.tooLong
    rw [decide_eq_false_iff_not, sizeLine_eq]
    omega
theorem od_mul : OpR X (binaryOp .Mult) (rD X.K κ opMul) := by
  intro pins s σ H x y v u Q I rx ry ⟨φ, h, dx, dy, S, qx, qy, p⟩
  unfold opMul at p
  split at p
  · split at p
    · rename_i hz
      rw [RV.int_iff] at qx qy
      exact (opI (C := fun i j => mulOk i j = true) (g := fun i j => i * j) fun _ _ _ _ _ _ _ hc q => mul_int q (mul_ok hc)) pins s σ H _ _ v u Q I rx ry ⟨_, _, qx, qy, hz, p.of0 S (RV.int_iff.mpr rfl)⟩
    · exact False.elim p
  · split at p
    · rename_i e1
      split at p
      · rename_i hz
        rw [RV.ref_iff] at qx
        rw [RV.int_iff] at qy
        obtain ⟨vs, ha, ra⟩ := S.lst e1
        have la := ra.len
        exact op_rep pins s σ H _ _ v u Q I rx ry ⟨_, _, vs, qx.2, qy, ha, hz.1, hz.2.1, by rw [la]; exact hz.2.2, fun q hq => p.newL S hq (ra.flat _)⟩
      · exact False.elim p
    · exact False.elim p
  · rename_i a k
    split at p
    · rename_i hz
      rw [RV.str_iff] at qx
      rw [RV.int_iff] at qy
      subst qx qy
      obtain ⟨t1, rfl⟩ := rx
      obtain ⟨t2, rfl⟩ := ry
      exact PySem.SB.mul (mulS_ok hz.1 hz.2) fun t' kk => ⟨.str (Txt.mul a k), H, I.tok _, ⟨_, rfl⟩, p.of0 S (RV.str_iff.mpr rfl)⟩
    · exact False.elim p
  · exact False.elim p
theorem od_div : OpR X (binaryOp .FloorDiv) (rD X.K κ opDiv) := by
  intro pins s σ H x y v u Q I rx ry ⟨φ, h, dx, dy, S, qx, qy, p⟩
  unfold opDiv at p
  split at p
  · split at p
    · rename_i hz
      rw [RV.int_iff] at qx qy
      exact (opI (C := fun _ j => divOk j = true) (g := fun i j => i.fdiv j) fun _ _ _ _ _ _ _ hc q => by
        unfold divOk at hc
        rw [Bool.and_eq_true] at hc
        exact floordiv_int (of_decide_eq_true hc.1) q (.inl (PyProof.noPylong_of_log2 (of_decide_eq_true hc.2)))) pins s σ H _ _ v u Q I rx ry ⟨_, _, qx, qy, hz, p.of0 S (RV.int_iff.mpr rfl)⟩
    · exact False.elim p
  · exact False.elim p
theorem od_mod : OpR X (binaryOp .Mod) (rD X.K κ opMod) := by
  intro pins s σ H x y v u Q I rx ry ⟨φ, h, dx, dy, S, qx, qy, p⟩
  unfold opMod at p
  split at p
  · split at p
    · rename_i hz
      rw [RV.int_iff] at qx qy
      exact op_modN pins s σ H _ _ v u Q I rx ry ⟨_, _, qx, qy, hz, p.of0 S (RV.int_iff.mpr rfl)⟩
    · exact False.elim p
  · exact False.elim p
theorem od_pow : OpR X (binaryOp .Pow) (rD X.K κ opPow) := by
  intro pins s σ H x y v u Q I rx ry ⟨φ, h, dx, dy, S, qx, qy, p⟩
  unfold opPow at p
  split at p
  · split at p
    · rename_i hz
      rw [RV.int_iff] at qx qy
      exact op_pow pins s σ H _ _ v u Q I rx ry ⟨_, _, qx, qy, hz, p.of0 S (RV.int_iff.mpr rfl)⟩
    · exact False.elim p
  · exact False.elim p
theorem od_neg : UnR X (unaryOp .USub) (rDU X.K κ opNeg) := by
  intro pins s σ H x v Q I rx ⟨φ, h, dx, S, qx, p⟩
  unfold opNeg at p
  split at p
  · rw [RV.int_iff] at qx
    exact un_neg pins s σ H _ v Q I rx ⟨_, qx, p.of0 S (RV.int_iff.mpr rfl)⟩
  · exact False.elim p
theorem od_lt : OpR X (compareOp .Lt) (rD X.K κ opLt) := by
  intro pins s σ H x y v u Q I rx ry ⟨φ, h, dx, dy, S, qx, qy, p⟩
  unfold opLt at p
  split at p
  · rw [RV.int_iff] at qx qy
    exact op_lt pins s σ H _ _ v u Q I rx ry ⟨_, _, qx, qy, p.of0 S (RV.bl_iff.mpr rfl)⟩
  · exact False.elim p
theorem od_le : OpR X (compareOp .LtE) (rD X.K κ opLe) := by
  intro pins s σ H x y v u Q I rx ry ⟨φ, h, dx, dy, S, qx, qy, p⟩
  unfold opLe at p
  split at p
  · rw [RV.int_iff] at qx qy
    exact op_le pins s σ H _ _ v u Q I rx ry ⟨_, _, qx, qy, p.of0 S (RV.bl_iff.mpr rfl)⟩
  · exact False.elim p
theorem od_gt : OpR X (compareOp .Gt) (rD X.K κ opGt) := by
  intro pins s σ H x y v u Q I rx ry ⟨φ, h, dx, dy, S, qx, qy, p⟩
  unfold opGt at p
  split at p
  · rw [RV.int_iff] at qx qy
    exact op_gt pins s σ H _ _ v u Q I rx ry ⟨_, _, qx, qy, p.of0 S (RV.bl_iff.mpr rfl)⟩
  · exact False.elim p
theorem od_ge : OpR X (compareOp .GtE) (rD X.K κ opGe) := by
  intro pins s σ H x y v u Q I rx ry ⟨φ, h, dx, dy, S, qx, qy, p⟩
  unfold opGe at p
  split at p
  · rw [RV.int_iff] at qx qy
    exact op_ge pins s σ H _ _ v u Q I rx ry ⟨_, _, qx, qy, p.of0 S (RV.bl_iff.mpr rfl)⟩
  · exact False.elim p
theorem isNon_eq {φ : Nat → Addr} {n : Nat} {H : Hp} {d : D} {v : V} (q : RV φ n H d v) : decide (v = .non) = isNon d := by
  cases d with
  | non => rw [RV.non_iff] at q; subst q; rfl
  | bl b => rw [RV.bl_iff] at q; subst q; rfl
  | int b => rw [RV.int_iff] at q; subst q; rfl
  | str b => rw [RV.str_iff] at q; subst q; rfl
  | ref b => rw [RV.ref_iff] at q; rw [q.2]; rfl
  | tup b => rw [RV.tup_iff] at q; obtain ⟨p, vs, rfl, _⟩ := q; rfl
theorem od_isN : OpR X (compareOp .Is) (rD X.K κ opIsN) := by
  intro pins s σ H x y v u Q I rx ry ⟨φ, h, dx, dy, S, qx, qy, p⟩
  unfold opIsN at p
  split at p
  · rw [RV.non_iff] at qy
    exact op_isN pins s σ H _ _ v u Q I rx ry ⟨qy, p.of0 S (RV.bl_iff.mpr (by rw [isNon_eq qx]))⟩
  · exact False.elim p
theorem od_notN : OpR X (compareOp .IsNot) (rD X.K κ opNotN) := by
  intro pins s σ H x y v u Q I rx ry ⟨φ, h, dx, dy, S, qx, qy, p⟩
  unfold opNotN at p
  split at p
  · rw [RV.non_iff] at qy
    exact op_notN pins s σ H _ _ v u Q I rx ry ⟨qy, p.of0 S (RV.bl_iff.mpr (by rw [isNon_eq qx]))⟩
  · exact False.elim p
end
end Z
/-! Z3: equality, tests, displays, subscripts, calls. -/
namespace Z
open PySem L2 PyProof.Rows

/-! ### data of any depth -/
def seqO {α : Type} : List (Option α) → Option (List α)
  | [] => some []
  | none :: _ => none
  | some a :: r => (seqO r).map fun l => a :: l
def toPy : Nat → HP → D → Option PyData
  | _, _, .non => some .none
  | _, _, .bl b => some (.bool b)
  | _, _, .int i => some (.int i)
  | _, _, .str x => some (.str x)
  | 0, _, _ => none
  | n + 1, h, .tup ds => (seqO (ds.map (toPy n h))).map .tuple
  | n + 1, h, .ref i => match isL i h with
    | some ds => (seqO (ds.map (toPy n h))).map .list
    | none => none
def deepN : Nat := 70
def eqFlat : D → D → Option Bool
  | .int i, .int j => some (decide (i = j))
  | .str a, .str b => some (decide (a = b))
  | .bl a, .bl b => some (decide (a = b))
  | .non, .non => some true
  | .non, .int _ => some false
  | .int _, .non => some false
  | .non, .str _ => some false
  | .str _, .non => some false
  | .non, .bl _ => some false
  | .bl _, .non => some false
  | .int _, .str _ => some false
  | .str _, .int _ => some false
  | _, _ => none
def deepEq (x y : D) (h : HP) : Option Bool := match toPy deepN h x, toPy deepN h y with
  | some a, some b => if SeqAt.shaped a = true ∧ SeqAt.shaped b = true then some (PyData.eqv a b) else none
  | _, _ => none
def eqD (x y : D) (h : HP) : Option Bool := match eqFlat x y with
  | some b => some b
  | none => deepEq x y h
def opEq : D → D → HP → R D := fun x y h => match eqD x y h with
  | some b => .ok (.bl b) h
  | none => .no
def opNe : D → D → HP → R D := fun x y h => match eqD x y h with
  | some b => .ok (.bl (!b)) h
  | none => .no
/-- x in a list, a tuple of flat things, one sign in a text, a key in a dict -/
def flatD : D → Bool
  | .non => true
  | .bl _ => true
  | .int _ => true
  | .str _ => true
  | _ => false
def keyD : D → Option Key
  | .int i => some (.inl i)
  | .str x => some (.inr x)
  | _ => none
def keysD : List D → Option (List Key) := fun ds => seqO (ds.map keyD)
section
variable {κ : Type} [DecidableEq κ]
def valD (kvs : List (κ × D)) (k : κ) : Option D := (kvs.find? fun kv => decide (kv.1 = k)).map (·.2)
def putKD (kvs : List (κ × D)) (k : κ) (v : D) : List (κ × D) := if (kvs.any fun kv => decide (kv.1 = k)) = true then kvs.map (fun kv => if kv.1 = k then (kv.1, v) else kv) else kvs ++ [(k, v)]
end
def inFlat (x : D) : List D → Option Bool
  | [] => some false
  | y :: r => match eqFlat y x with
    | some true => some true
    | some false => inFlat x r
    | none => none
def inDeep (x : D) (ds : List D) (h : HP) : Option Bool := match toPy deepN h x, seqO (ds.map (toPy deepN h)) with
  | some a, some bs => if SeqAt.shaped a = true ∧ SeqAt.shaped (.list bs) = true then some (bs.any fun z => PyData.eqv z a) else none
  | _, _ => none
def inD (x y : D) (h : HP) : Option Bool := match y with
  | .ref i => match h[i]? with
    | some (.dic kvs) => match keyD x with
      | some k => some (valD kvs k).isSome
      | none => none
    | some (.dct kvs) => match x with
      | .tup ds => match keysD ds with
        | some k => some (valD kvs k).isSome
        | none => none
      | _ => none
    | _ => match isL i h with
      | some ds => if flatD x = true ∧ ds.all flatD = true then inFlat x ds else inDeep x ds h
      | none => none
  | .tup ds => if flatD x = true ∧ ds.all flatD = true then inFlat x ds else none
  | .str z => match x with
    | .str c => match c.cps.toList with
      | [k] => some (decide (k ∈ z.cps.toList))
      | _ => none
    | _ => none
  | _ => none
def opIn : D → D → HP → R D := fun x y h => match inD x y h with
  | some b => .ok (.bl b) h
  | none => .no
def opNin : D → D → HP → R D := fun x y h => match inD x y h with
  | some b => .ok (.bl (!b)) h
  | none => .no

section
variable {K : PySem.W.Frag} {κ φ : Nat → Addr} {h : HP} {H : Hp}
theorem dpAll_of {n : Nat} (ih : ∀ d v a, toPy n h d = some a → RV φ h.length H d v → Dp K H v a) : ∀ {ds : List D} {vs : List V} {as : List PyData}, seqO (ds.map (toPy n h)) = some as → RVs φ h.length H ds vs → DpAll K H vs as
  | [], vs, as, e, r => by
    simp only [List.map_nil, seqO, Option.some.injEq] at e
    simp only [RVs] at r
    subst e r
    exact .nil
  | d :: ds, vs, as, e, r => by
    simp only [List.map_cons] at e
    simp only [RVs] at r
    obtain ⟨v, r', rfl, q1, q2⟩ := r
    cases e1 : toPy n h d with
    | none => rw [e1] at e; simp [seqO] at e
    | some a =>
      rw [e1] at e
      simp only [seqO] at e
      cases e2 : seqO (ds.map (toPy n h)) with
      | none => rw [e2] at e; simp at e
      | some as' =>
        rw [e2] at e
        simp only [Option.map_some, Option.some.injEq] at e
        subst e
        exact .cons (ih d v a e1 q1) (dpAll_of ih e2 q2)
theorem dp_of (S : Sim K κ φ h H) : ∀ (n : Nat) (d : D) (v : V) (a : PyData), toPy n h d = some a → RV φ h.length H d v → Dp K H v a
  | n, .non, v, a, e, r => by
    rw [RV.non_iff] at r; subst r
    cases n <;> (simp only [toPy, Option.some.injEq] at e; subst e; exact .non)
  | n, .bl b, v, a, e, r => by
    rw [RV.bl_iff] at r; subst r
    cases n <;> (simp only [toPy, Option.some.injEq] at e; subst e; exact .bl b)
  | n, .int b, v, a, e, r => by
    rw [RV.int_iff] at r; subst r
    cases n <;> (simp only [toPy, Option.some.injEq] at e; subst e; exact .int b)
  | n, .str b, v, a, e, r => by
    rw [RV.str_iff] at r; subst r
    cases n <;> (simp only [toPy, Option.some.injEq] at e; subst e; exact .str b)
  | 0, .tup ds, v, a, e, r => by simp [toPy] at e
  | 0, .ref i, v, a, e, r => by simp [toPy] at e
  | n + 1, .tup ds, v, a, e, r => by
    rw [RV.tup_iff] at r
    obtain ⟨p, vs, rfl, hp, r⟩ := r
    simp only [toPy] at e
    cases e2 : seqO (ds.map (toPy n h)) with
    | none => rw [e2] at e; simp at e
    | some as =>
      rw [e2] at e
      simp only [Option.map_some, Option.some.injEq] at e
      subst e
      exact .tup (SqT.of hp) (dpAll_of (fun d v a => dp_of S n d v a) e2 r)
  | n + 1, .ref i, v, a, e, r => by
    rw [RV.ref_iff] at r
    obtain ⟨hi, rfl⟩ := r
    simp only [toPy] at e
    split at e
    · rename_i ds hl
      obtain ⟨vs, hs, r⟩ := S.isL hl
      cases e2 : seqO (ds.map (toPy n h)) with
      | none => rw [e2] at e; simp at e
      | some as =>
        rw [e2] at e
        simp only [Option.map_some, Option.some.injEq] at e
        subst e
        exact .lst hs (dpAll_of (fun d v a => dp_of S n d v a) e2 r)
    · cases e
theorem eqFlat_of {n : Nat} {x y : D} {v u : V} {b : Bool} (e : eqFlat x y = some b) (rx : RV φ n H x v) (ry : RV φ n H y u) : scal v u = true ∧ decide (v = u) = b := by
  unfold eqFlat at e
  split at e <;> first
    | (simp only [RV.int_iff, RV.str_iff, RV.bl_iff, RV.non_iff] at rx ry
       subst rx ry
       cases e
       simp [scal])
    | cases e
theorem flat_eq {n : Nat} {x y : D} {v u : V} {b : Bool} (e : eqFlat x y = some b) (rx : RV φ n H x v) (ry : RV φ n H y u) : eqV v u = b := by
  unfold eqFlat at e
  split at e <;> first
    | (simp only [RV.int_iff, RV.str_iff, RV.bl_iff, RV.non_iff] at rx ry
       subst rx ry
       cases e
       simp [eqV, Bool.beq_eq_decide_eq])
    | cases e
theorem flat_of {n : Nat} {x : D} {v : V} (f : flatD x = true) (rx : RV φ n H x v) : flatV v = true := by
  cases x with
  | non => rw [RV.non_iff] at rx; subst rx; rfl
  | bl _ => rw [RV.bl_iff] at rx; subst rx; rfl
  | int _ => rw [RV.int_iff] at rx; subst rx; rfl
  | str _ => rw [RV.str_iff] at rx; subst rx; rfl
  | tup _ => cases f
  | ref _ => cases f
theorem flat_all {n : Nat} : ∀ {ds : List D} {vs : List V}, ds.all flatD = true → RVs φ n H ds vs → vs.all flatV = true
  | [], vs, f, r => by simp only [RVs] at r; subst r; rfl
  | d :: ds, vs, f, r => by
    simp only [RVs] at r
    obtain ⟨v, r', rfl, q1, q2⟩ := r
    simp only [List.all_cons, Bool.and_eq_true] at f ⊢
    exact ⟨flat_of f.1 q1, flat_all f.2 q2⟩
theorem inFlat_of {n : Nat} {x : D} {v : V} (rx : RV φ n H x v) : ∀ {ds : List D} {vs : List V} {b : Bool}, inFlat x ds = some b → RVs φ n H ds vs → inV v vs = b
  | [], vs, b, e, r => by
    simp only [RVs] at r
    subst r
    simp only [inFlat, Option.some.injEq] at e
    subst e; rfl
  | d :: ds, vs, b, e, r => by
    simp only [RVs] at r
    obtain ⟨u, r', rfl, q1, q2⟩ := r
    simp only [inFlat] at e
    split at e
    · rename_i e1
      cases e
      have := flat_eq e1 q1 rx
      simp [inV, this]
    · rename_i e1
      have h1 := flat_eq e1 q1 rx
      have h2 := inFlat_of rx e q2
      simp only [inV, List.any_cons, h1, Bool.false_or]
      exact h2
    · cases e
theorem key_of' {n : Nat} {x : D} {v : V} {k : Key} (e : keyD x = some k) (rx : RV φ n H x v) : v = kV k := by
  cases x with
  | int i => simp only [keyD, Option.some.injEq] at e; subst e; rw [RV.int_iff] at rx; exact rx
  | str i => simp only [keyD, Option.some.injEq] at e; subst e; rw [RV.str_iff] at rx; exact rx
  | non => cases e
  | bl _ => cases e
  | tup _ => cases e
  | ref _ => cases e
theorem keys_of' {n : Nat} : ∀ {ds : List D} {vs : List V} {k : List Key}, keysD ds = some k → RVs φ n H ds vs → vs = k.map kV
  | [], vs, k, e, r => by
    simp only [keysD, List.map_nil, seqO, Option.some.injEq] at e
    simp only [RVs] at r
    subst e r; rfl
  | d :: ds, vs, k, e, r => by
    simp only [RVs] at r
    obtain ⟨v, r', rfl, q1, q2⟩ := r
    simp only [keysD, List.map_cons] at e
    cases e1 : keyD d with
    | none => rw [e1] at e; simp [seqO] at e
    | some a =>
      rw [e1] at e
      simp only [seqO] at e
      cases e2 : seqO (ds.map keyD) with
      | none => rw [e2] at e; simp at e
      | some as =>
        rw [e2] at e
        simp only [Option.map_some, Option.some.injEq] at e
        subst e
        rw [key_of' e1 q1, keys_of' (ds := ds) (k := as) e2 q2]; rfl
theorem RKs.val {κ' : Type} [DecidableEq κ'] {n : Nat} : ∀ {kvs : List (κ' × D)} {us : List (κ' × V)} (k : κ'), RKs φ n H kvs us → match valD kvs k with
    | some d => ∃ v, valV us k = some v ∧ RV φ n H d v
    | none => valV us k = none
  | [], us, k, r => by simp only [RKs] at r; subst r; rfl
  | (k', d) :: kvs, us, k, r => by
    simp only [RKs] at r
    obtain ⟨v, r', rfl, q1, q2⟩ := r
    by_cases hk : k' = k
    · simp only [valD, valV, List.find?_cons, hk, decide_true, Option.map_some]
      exact ⟨v, rfl, q1⟩
    · have := RKs.val k q2
      simpa only [valD, valV, List.find?_cons, hk, decide_false] using this
theorem RKs.len {κ' : Type} {n : Nat} : ∀ {kvs : List (κ' × D)} {us : List (κ' × V)}, RKs φ n H kvs us → us.length = kvs.length
  | [], us, r => by simp only [RKs] at r; subst r; rfl
  | (k', d) :: kvs, us, r => by
    simp only [RKs] at r
    obtain ⟨v, r', rfl, q1, q2⟩ := r
    simp [RKs.len q2]
theorem RKs.any {κ' : Type} [DecidableEq κ'] {n : Nat} (k : κ') : ∀ {kvs : List (κ' × D)} {us : List (κ' × V)}, RKs φ n H kvs us → (us.any fun kv => decide (kv.1 = k)) = kvs.any fun kv => decide (kv.1 = k)
  | [], us, r => by simp only [RKs] at r; subst r; rfl
  | (k', d) :: kvs, us, r => by
    simp only [RKs] at r
    obtain ⟨v, r', rfl, q1, q2⟩ := r
    simp only [List.any_cons, RKs.any k q2]
theorem RKs.repl {κ' : Type} [DecidableEq κ'] {n : Nat} (k : κ') {d : D} {v : V} (q : RV φ n H d v) : ∀ {kvs : List (κ' × D)} {us : List (κ' × V)}, RKs φ n H kvs us →
    RKs φ n H (kvs.map fun kv => if kv.1 = k then (kv.1, d) else kv) (us.map fun kv => if kv.1 = k then (kv.1, v) else kv)
  | [], us, r => by simp only [RKs] at r; subst r; simp [RKs]
  | (k', d') :: kvs, us, r => by
    simp only [RKs] at r
    obtain ⟨v', r', rfl, q1, q2⟩ := r
    have ih := RKs.repl k q q2
    by_cases hk : k' = k
    · simp only [List.map_cons, hk, if_true, RKs]
      exact ⟨v, _, rfl, q, ih⟩
    · simp only [List.map_cons, hk, if_false, RKs]
      exact ⟨v', _, rfl, q1, ih⟩
theorem RKs.snoc {κ' : Type} {n : Nat} (k : κ') {d : D} {v : V} (q : RV φ n H d v) : ∀ {kvs : List (κ' × D)} {us : List (κ' × V)}, RKs φ n H kvs us → RKs φ n H (kvs ++ [(k, d)]) (us ++ [(k, v)])
  | [], us, r => by simp only [RKs] at r; subst r; simp only [List.nil_append, RKs]; exact ⟨v, [], rfl, q, rfl⟩
  | (k', d') :: kvs, us, r => by
    simp only [RKs] at r
    obtain ⟨v', r', rfl, q1, q2⟩ := r
    simp only [List.cons_append, RKs]
    exact ⟨v', _, rfl, q1, RKs.snoc k q q2⟩
theorem RKs.put {κ' : Type} [DecidableEq κ'] {n : Nat} {kvs : List (κ' × D)} {us : List (κ' × V)} (r : RKs φ n H kvs us) (k : κ') {d : D} {v : V} (q : RV φ n H d v) : RKs φ n H (putKD kvs k d) (putK us k v) := by
  unfold putKD putK
  rw [RKs.any k r]
  split
  · exact RKs.repl k q r
  · exact RKs.snoc k q r
theorem RKs.look {n : Nat} : ∀ {kvs : List (Str × D)} {us : List (Str × V)} {f : Str} {d : D}, RKs φ n H kvs us → kvs.lookup f = some d → ∃ v, us.lookup f = some v ∧ RV φ n H d v
  | [], us, f, d, r, e => by cases e
  | (k', d') :: kvs, us, f, d, r, e => by
    simp only [RKs] at r
    obtain ⟨v', r', rfl, q1, q2⟩ := r
    rw [List.lookup_cons] at e ⊢
    cases hb : f == k' with
    | true => rw [hb] at e; simp only [Option.some.injEq] at e; subst e; exact ⟨v', rfl, q1⟩
    | false => rw [hb] at e; exact RKs.look q2 e
theorem RKs.look0 {n : Nat} : ∀ {kvs : List (Str × D)} {us : List (Str × V)} {f : Str}, RKs φ n H kvs us → kvs.lookup f = none → us.lookup f = none
  | [], us, f, r, e => by simp only [RKs] at r; subst r; rfl
  | (k', d') :: kvs, us, f, r, e => by
    simp only [RKs] at r
    obtain ⟨v', r', rfl, q1, q2⟩ := r
    rw [List.lookup_cons] at e ⊢
    cases hb : f == k' with
    | true => rw [hb] at e; cases e
    | false => rw [hb] at e; exact RKs.look0 q2 e
theorem RKs.putF {n : Nat} {f : Str} {d : D} {v : V} (q : RV φ n H d v) : ∀ {kvs : List (Str × D)} {us : List (Str × V)}, RKs φ n H kvs us → RKs φ n H (putD f d kvs) (L2.putF f v us)
  | [], us, r => by simp only [RKs] at r; subst r; simp only [putD, L2.putF, RKs]; exact ⟨v, [], rfl, q, rfl⟩
  | (k', d') :: kvs, us, r => by
    simp only [RKs] at r
    obtain ⟨v', r', rfl, q1, q2⟩ := r
    simp only [putD, L2.putF]
    split
    · simp only [RKs]; exact ⟨v, _, rfl, q, q2⟩
    · simp only [RKs]; exact ⟨v', _, rfl, q1, RKs.putF q q2⟩
end

section
variable {X : Cx} {κ : Nat → Addr}
theorem od_eq (hu : X.A.units + 64 < cLine) : OpR X (compareOp .Eq) (rD X.K κ opEq) := by
  intro pins s σ H x y v u Q I rx ry ⟨φ, h, dx, dy, S, qx, qy, p⟩
  unfold opEq at p
  split at p
  · rename_i b e
    unfold eqD at e
    split at e
    · rename_i b' e1
      cases e
      obtain ⟨h1, h2⟩ := eqFlat_of e1 qx qy
      exact op_eq pins s σ H _ _ v u Q I rx ry ⟨h1, p.of0 S (RV.bl_iff.mpr (by rw [h2]))⟩
    · unfold deepEq at e
      split at e
      · rename_i a b2 e1 e2
        split at e
        · rename_i hs
          cases e
          exact op_eqD hu pins s σ H _ _ v u Q I rx ry ⟨a, b2, dp_of S _ _ _ _ e1 qx, dp_of S _ _ _ _ e2 qy, hs.1, hs.2, p.of0 S (RV.bl_iff.mpr rfl)⟩
        · cases e
      · cases e
  · exact False.elim p
theorem od_ne (hu : X.A.units + 64 < cLine) : OpR X (compareOp .NotEq) (rD X.K κ opNe) := by
  intro pins s σ H x y v u Q I rx ry ⟨φ, h, dx, dy, S, qx, qy, p⟩
  unfold opNe at p
  split at p
  · rename_i b e
    unfold eqD at e
    split at e
    · rename_i b' e1
      cases e
      obtain ⟨h1, h2⟩ := eqFlat_of e1 qx qy
      exact op_ne pins s σ H _ _ v u Q I rx ry ⟨h1, p.of0 S (RV.bl_iff.mpr (by rw [h2]))⟩
    · unfold deepEq at e
      split at e
      · rename_i a b2 e1 e2
        split at e
        · rename_i hs
          cases e
          exact op_neD hu pins s σ H _ _ v u Q I rx ry ⟨a, b2, dp_of S _ _ _ _ e1 qx, dp_of S _ _ _ _ e2 qy, hs.1, hs.2, p.of0 S (RV.bl_iff.mpr rfl)⟩
        · cases e
      · cases e
  · exact False.elim p
/-- what in is asked of, by its kinds -/
inductive InK (K : PySem.W.Frag) (H : Hp) (x y : V) (b : Bool) : Prop where
  | flat {p : Addr} {vs : List V} (hy : y = .ref p) (hs : SqL K H p vs ∨ SqT K H p vs) (fx : flatV x = true) (fs : vs.all flatV = true) (e : inV x vs = b)
  | deep {d : PyData} {ds : List PyData} (hx : Dp K H x d) (hy : Dp K H y (.list ds)) (s1 : SeqAt.shaped d = true) (s2 : SeqAt.shaped (.list ds) = true) (e : (ds.any fun z => PyData.eqv z d) = b)
  | sign {c : Nat} {z : Str} (hx : x = .str ⟨#[c]⟩) (hy : y = .str z) (e : decide (c ∈ z.cps.toList) = b)
  | dict {a : Addr} {o : Option V} (hy : y = .ref a) (g : DGet H a x o) (e : o.isSome = b)
theorem inK_of {K : PySem.W.Frag} {φ : Nat → Addr} {h : HP} {H : Hp} {dx dy : D} {x y : V} {b : Bool} (S : Sim K κ φ h H) (qx : RV φ h.length H dx x) (qy : RV φ h.length H dy y) (e : inD dx dy h = some b) : InK K H x y b := by
  unfold inD at e
  split at e
  · rename_i i
    rw [RV.ref_iff] at qy
    split at e
    · rename_i kvs hk
      obtain ⟨us, hd, r⟩ := S.dic hk
      split at e
      · rename_i k ek
        cases e
        have := RKs.val k r
        have kx := key_of' ek qx
        subst kx
        refine .dict qy.2 (DGet.k hd) ?_
        cases e3 : valD kvs k with
        | some d => rw [e3] at this; obtain ⟨v, e4, _⟩ := this; rw [e4]; rfl
        | none => rw [e3] at this; rw [this]; rfl
      · cases e
    · rename_i kvs hk
      obtain ⟨us, hd, r⟩ := S.dct hk
      split at e
      · rename_i ds
        split at e
        · rename_i k ek
          cases e
          have := RKs.val k r
          rw [RV.tup_iff] at qx
          obtain ⟨p, vs, rfl, hp, rr⟩ := qx
          have kx := keys_of' ek rr
          subst kx
          refine .dict qy.2 (DGet.t hd hp) ?_
          cases e3 : valD kvs k with
          | some d => rw [e3] at this; obtain ⟨v, e4, _⟩ := this; rw [e4]; rfl
          | none => rw [e3] at this; rw [this]; rfl
        · cases e
      · cases e
    · split at e
      · rename_i ds hl
        obtain ⟨vs, hs, r⟩ := S.isL hl
        split at e
        · rename_i hf
          exact .flat qy.2 (.inl hs) (flat_of hf.1 qx) (flat_all hf.2 r) (inFlat_of qx e r)
        · unfold inDeep at e
          split at e
          · rename_i a bs e1 e2
            split at e
            · rename_i hh
              cases e
              refine .deep (dp_of S _ _ _ _ e1 qx) ?_ hh.1 hh.2 rfl
              rw [qy.2]
              exact .lst hs (dpAll_of (fun d v a => dp_of S _ d v a) e2 r)
            · cases e
          · cases e
      · cases e
  · rename_i ds
    rw [RV.tup_iff] at qy
    obtain ⟨p, vs, rfl, hp, r⟩ := qy
    split at e
    · rename_i hf
      exact .flat rfl (.inr (SqT.of hp)) (flat_of hf.1 qx) (flat_all hf.2 r) (inFlat_of qx e r)
    · cases e
  · rename_i z
    rw [RV.str_iff] at qy
    split at e
    · rename_i c
      rw [RV.str_iff] at qx
      split at e
      · rename_i k hk
        cases e
        refine .sign (c := k) ?_ qy rfl
        rw [qx]
        congr 1
        exact TL.ext_tl (by show c.cps.toList = [k]; exact hk)
      · cases e
    · cases e
  · cases e
theorem od_in (hu : X.A.units + 65 < cLine) : OpR X (compareOp .In) (rD X.K κ opIn) := by
  intro pins s σ H x y v u Q I rx ry ⟨φ, h, dx, dy, S, qx, qy, p⟩
  unfold opIn at p
  split at p
  · rename_i b e
    have q := p.of0 S (v := .bl b) (RV.bl_iff.mpr rfl)
    cases inK_of S qx qy e with
    | flat hy hs fx fs e =>
      subst hy e
      exact op_in_seq pins s σ H _ _ v u Q I rx ry ⟨_, _, rfl, hs, fx, fs, q⟩
    | deep hx hy s1 s2 e =>
      subst e
      exact op_inD hu pins s σ H _ _ v u Q I rx ry ⟨_, _, hx, hy, s1, s2, q⟩
    | sign hx hy e =>
      subst hx hy e
      exact op_in_sign pins s σ H _ _ v u Q I rx ry ⟨_, _, rfl, rfl, q⟩
    | dict hy g e =>
      subst hy e
      obtain rfl : u = Value.ref _ := ry
      exact d_in (by omega) I g rx fun s' I' => ⟨.bl _, H, I', rfl, q⟩
  · exact False.elim p
theorem od_nin (hu : X.A.units + 65 < cLine) : OpR X (compareOp .NotIn) (rD X.K κ opNin) := by
  intro pins s σ H x y v u Q I rx ry ⟨φ, h, dx, dy, S, qx, qy, p⟩
  unfold opNin at p
  split at p
  · rename_i b e
    have q := p.of0 S (v := .bl (!b)) (RV.bl_iff.mpr rfl)
    cases inK_of S qx qy e with
    | flat hy hs fx fs e =>
      subst hy e
      exact op_notIn_seq pins s σ H _ _ v u Q I rx ry ⟨_, _, rfl, hs, fx, fs, q⟩
    | deep hx hy s1 s2 e =>
      subst e
      exact op_notInD hu pins s σ H _ _ v u Q I rx ry ⟨_, _, hx, hy, s1, s2, q⟩
    | sign hx hy e =>
      subst hx hy e
      exact op_notIn_sign pins s σ H _ _ v u Q I rx ry ⟨_, _, rfl, rfl, q⟩
    | dict hy g e =>
      subst hy e
      obtain rfl : u = Value.ref _ := ry
      exact d_notIn (by omega) I g rx fun s' I' => ⟨.bl _, H, I', rfl, q⟩
  · exact False.elim p
end
end Z
/-! Z4: tests, arguments, displays, subscripts, fields, calls. -/
namespace Z
open PySem L2 PyProof.Rows
section
variable {X : Cx} {κ : Nat → Addr} {C : Ctx} {a b c e : Expr} {es : List Expr} {ma mb mc : ME} {ta tb : MT} {mas : MA} {pos : Pos}

/-! ### tests -/
theorem st_v (ha : SE X κ C a ma) (he : ∀ whole, isTrue a X.env whole = (do let v ← whole; standAt a.pos; holding [v] (truthy v)) := by intro _; rfl) : ST X κ C a (tV ma) :=
  ST.mk' (pt_val ha.pe he) fun φ ev h σ H Q S r p => by
    obtain ⟨dx, h1, e1, p⟩ := PostT.bind p
    refine td_of S r e1 fun φ1 H1 v st S1 r1 q1 => ?_
    cases dx with
    | bl k => rw [RV.bl_iff] at q1; exact ⟨k, q1, p φ1 H1 st S1⟩
    | non => exact False.elim p
    | int _ => exact False.elim p
    | str _ => exact False.elim p
    | tup _ => exact False.elim p
    | ref _ => exact False.elim p
theorem st_cmp {o : CmpOp} {op : D → D → HP → R D} (ho : OpR X (compareOp o) (rD X.K κ op)) (ha : SE X κ C a ma) (hb : SE X κ C b mb) (hm : behindInMarks o b = false) : ST X κ C (.Compare a [o] [b] pos) (tV (eOp op ma mb)) :=
  ST.mk' (pt_cmpR ho ha.pe hb.pe hm) fun φ ev h σ H Q S r p => by
    obtain ⟨dz, h3, e3, p⟩ := PostT.bind p
    cases ea : ma C ev h with
    | ok dx h1 =>
      cases eb : mb C ev h1 with
      | ok dy h2 =>
        have e4 : op dx dy h2 = .ok dz h3 := by
          have := e3
          unfold eOp at this
          rw [ea] at this
          simp only [R.bind_ok] at this
          rw [eb] at this
          exact this
        refine td_of S r ea fun φ1 H1 v st S1 r1 q1 => td_of S1 r1 eb fun φ2 H2 w st2 S2 r2 q2 => ⟨φ2, h2, dx, dy, S2, q1.step S1 st2, q2, ?_⟩
        rw [e4]
        intro φ3 H3 z st3 S3 q3
        cases dz with
        | bl k => rw [RV.bl_iff] at q3; exact ⟨k, q3, p φ3 H3 ((st.trans st2).trans st3) S3⟩
        | non => exact False.elim p
        | int _ => exact False.elim p
        | str _ => exact False.elim p
        | tup _ => exact False.elim p
        | ref _ => exact False.elim p
      | ex _ _ _ => unfold eOp at e3; rw [ea] at e3; simp only [R.bind_ok] at e3; rw [eb] at e3; cases e3
      | no => unfold eOp at e3; rw [ea] at e3; simp only [R.bind_ok] at e3; rw [eb] at e3; cases e3
    | ex _ _ _ => unfold eOp at e3; rw [ea] at e3; cases e3
    | no => unfold eOp at e3; rw [ea] at e3; cases e3
theorem st_w (h : SW X κ C a ta) : ST X κ C a ta := ⟨h.pw.pt⟩
theorem sw_and1 (h : ST X κ C a ta) : SW X κ C (.BoolOp .And [a] pos) ta := ⟨pw_and1 h.pt⟩
theorem sw_or1 (h : ST X κ C a ta) : SW X κ C (.BoolOp .Or [a] pos) ta := ⟨pw_or1 h.pt⟩
theorem sw_and {rest : List Expr} (ha : ST X κ C a ta) (hb : SW X κ C (.BoolOp .And (b :: rest) pos) tb) : SW X κ C (.BoolOp .And (a :: b :: rest) pos) (tAn ta tb) :=
  SW.mk' (pw_and ha.pt hb.pw) fun φ ev h σ H Q S r p => by
    obtain ⟨k, h1, e1, p⟩ := PostT.bind p
    refine tq_of S r e1 fun φ1 H1 st S1 r1 => ?_
    cases k with
    | true => rw [if_pos rfl] at p ⊢; exact ⟨φ1, ev, h1, S1, r1, p.step st⟩
    | false => rw [if_neg Bool.false_ne_true] at p ⊢; exact p φ1 H1 st S1
theorem sw_or {rest : List Expr} (ha : ST X κ C a ta) (hb : SW X κ C (.BoolOp .Or (b :: rest) pos) tb) : SW X κ C (.BoolOp .Or (a :: b :: rest) pos) (tOr ta tb) :=
  SW.mk' (pw_or ha.pt hb.pw) fun φ ev h σ H Q S r p => by
    obtain ⟨k, h1, e1, p⟩ := PostT.bind p
    refine tq_of S r e1 fun φ1 H1 st S1 r1 => ?_
    cases k with
    | true => rw [if_pos rfl] at p ⊢; exact p φ1 H1 st S1
    | false => rw [if_neg Bool.false_ne_true] at p ⊢; exact ⟨φ1, ev, h1, S1, r1, p.step st⟩
theorem st_not (ha : ST X κ C a ta) : ST X κ C (.UnaryOp .Not a pos) (tNt ta) :=
  ST.mk' (pt_not ha.pt) fun φ ev h σ H Q S r p => by
    obtain ⟨k, h1, e1, p⟩ := PostT.bind p
    exact tq_of S r e1 fun φ1 H1 st S1 r1 => p φ1 H1 st S1

/-! ### and, or, not, if as values -/
theorem se_if (hc : ST X κ C c ta) (ha : SE X κ C a ma) (hb : SE X κ C b mb) : SE X κ C (.IfExp c a b pos) (eIf ta ma mb) :=
  SE.mk' (pe_ifExp hc.pt ha.pe hb.pe) fun φ ev h σ H Q S r p => by
    obtain ⟨k, h1, e1, p⟩ := Post.bind p
    refine tq_of S r e1 fun φ1 H1 st S1 r1 => ?_
    cases k with
    | true => rw [if_pos rfl] at p ⊢; exact ⟨φ1, ev, h1, S1, r1, p.step st⟩
    | false => rw [if_neg Bool.false_ne_true] at p ⊢; exact ⟨φ1, ev, h1, S1, r1, p.step st⟩

/-! ### arguments, displays -/
theorem sa_nil : SA X κ C [] aN := SA.mk' pa_nil fun φ ev h σ H Q S r p => p φ H [] Step.refl S (by simp [RVs])
theorem sa_cons (ha : SE X κ C e ma) (hr : SA X κ C es mas) (hs : starEach (e :: es) X.env = (false, eval e X.env) :: starEach es X.env := by rfl) : SA X κ C (e :: es) (aC ma mas) :=
  SA.mk' (pa_cons ha.pe hr.pa hs) fun φ ev h σ H Q S r p => by
    obtain ⟨dx, h1, e1, p⟩ := PostA.bind p
    obtain ⟨ds, h2, e2, p⟩ := PostA.bind p
    exact td_of S r e1 fun φ1 H1 v st S1 r1 q1 => ta_of S1 r1 e2 fun φ2 H2 vs st2 S2 r2 q2 => p φ2 H2 _ (st.trans st2) S2 (RVs.cons (q1.step S1 st2) q2)
theorem se_tup {x1 : Nat} (h : SA X κ C es mas) : SE X κ C (.Tuple es x1 pos) (eTup mas) :=
  SE.mk' (pe_tup h.pa) fun φ ev h σ H Q S r p => by
    obtain ⟨ds, h1, e1, p⟩ := Post.bind p
    split at p
    · rename_i hz
      exact ta_of S r e1 fun φ1 H1 vs st S1 r1 q1 => ⟨by rw [q1.len]; exact hz, fun q hq => (p.step st).newT S1 hq q1⟩
    · exact False.elim p
theorem se_lst (h : SA X κ C es mas) : SE X κ C (.List es pos) (eLst mas) :=
  SE.mk' (pe_lst h.pa) fun φ ev h σ H Q S r p => by
    obtain ⟨ds, h1, e1, p⟩ := Post.bind p
    split at p
    · rename_i hz
      exact ta_of S r e1 fun φ1 H1 vs st S1 r1 q1 => ⟨by rw [q1.len]; exact hz, fun q hq => (p.step st).newL S1 hq q1⟩
    · exact False.elim p

/-! ### subscripts -/
end
def opIx : D → D → HP → R D := fun x y h => match x with
  | .tup ds => match y with
    | .int i => match atI ds i with
      | some d => .ok d h
      | none => .no
    | _ => .no
  | .str z => match y with
    | .int i => if z.length ≤ sizeLine then match atI z.cps.toList i with
        | some c => .ok (.str ⟨#[c]⟩) h
        | none => .no
      else .no
    | _ => .no
  | .ref j => match h[j]? with
    | some (.dic kvs) => match keyD y with
      | some k => match valD kvs k with
        | some d => .ok d h
        | none => .no
      | none => .no
    | some (.dct kvs) => match y with
      | .tup ds => match keysD ds with
        | some k => match valD kvs k with
          | some d => .ok d h
          | none => .no
        | none => .no
      | _ => .no
    | _ => match isL j h with
      | some ds => match y with
        | .int i => match atI ds i with
          | some d => .ok d h
          | none => .no
        | _ => .no
      | none => .no
  | _ => .no
def cutD (xs : List D) (lo hi : Option Int) : List D := (xs.drop (HT.sIx xs.length 0 lo)).take (HT.sIx xs.length xs.length hi - HT.sIx xs.length 0 lo)
def opSl : D → Option Int → Option Int → HP → R D := fun x lo hi h => match x with
  | .tup ds => .ok (.tup (cutD ds lo hi)) h
  | .str z => if z.length ≤ sizeLine then .ok (.str (cutS z lo hi)) h else .no
  | .ref j => match isL j h with
    | some ds => .ok (.ref h.length) (h ++ [.lst (cutD ds lo hi)])
    | none => .no
  | _ => .no
section
variable {X : Cx} {κ : Nat → Addr} {C : Ctx} {a b c e : Expr} {es : List Expr} {ma mb mc : ME} {ta tb : MT} {mas : MA} {pos p2 : Pos}
theorem atI_rv {φ : Nat → Addr} {n : Nat} {H : Hp} {ds : List D} {vs : List V} {i : Int} {d : D} (r : RVs φ n H ds vs) (e : atI ds i = some d) : ∃ v, atI vs i = some v ∧ RV φ n H d v := by
  unfold atI at e ⊢
  rw [r.len]
  cases q : ixN ds.length i with
  | none => rw [q] at e; cases e
  | some j =>
    rw [q] at e
    exact r.get (by simpa using e)
theorem cut_rv {φ : Nat → Addr} {n : Nat} {H : Hp} {ds : List D} {vs : List V} {lo hi : Option Int} (r : RVs φ n H ds vs) : RVs φ n H (cutD ds lo hi) (cutV vs lo hi) := by
  unfold cutD cutV
  rw [r.len]
  exact (r.drop _).take _
/-- d[k] -/
theorem ix_dic : X.A.units + 1 < cLine → IxR X (fun x y H Q => ∃ a v, x = .ref a ∧ DGet H a y (some v) ∧ Q v H) := by
  intro hu value slice pins s σ H x y v u Q I rx ry h hs
  obtain ⟨a, w, rfl, g, q⟩ := h
  obtain rfl : v = Value.ref a := rx
  exact tail_any (dict_typeIs I g) PySem.F.slot_dict_getitem.lookup (d_getItem hu I g ry fun w' s3 I3 rw' => ⟨w, H, I3, rw', q⟩) hs
theorem ixd (hu : X.A.units + 1 < cLine) : IxR X (rD X.K κ opIx) := by
  intro value slice pins s σ H x y v u Q I rx ry ⟨φ, h, dx, dy, S, qx, qy, p⟩ hs
  unfold opIx at p
  split at p
  · rename_i ds
    split at p
    · rename_i i
      split at p
      · rename_i d e
        rw [RV.int_iff] at qy
        rw [RV.tup_iff] at qx
        obtain ⟨pp, vs, rfl, hp, r⟩ := qx
        obtain ⟨w, e1, q1⟩ := atI_rv r e
        exact ix_tup value slice pins s σ H _ _ v u Q I rx ry ⟨pp, vs, i, w, rfl, qy, SqT.of hp, e1, p.of0 S q1⟩ hs
      · exact False.elim p
    · exact False.elim p
  · rename_i z
    split at p
    · rename_i i
      split at p
      · rename_i hz
        split at p
        · rename_i d e
          rw [RV.int_iff] at qy
          rw [RV.str_iff] at qx
          exact ix_str value slice pins s σ H _ _ v u Q I rx ry ⟨z, i, d, qx, qy, hz, e, p.of0 S (RV.str_iff.mpr rfl)⟩ hs
        · exact False.elim p
      · exact False.elim p
    · exact False.elim p
  · rename_i j
    rw [RV.ref_iff] at qx
    obtain ⟨hj, rfl⟩ := qx
    split at p
    · rename_i kvs e
      obtain ⟨us, hd, r⟩ := S.dic e
      split at p
      · rename_i k ek
        split at p
        · rename_i d ed
          have kx := key_of' ek qy
          subst kx
          have := RKs.val k r
          rw [ed] at this
          obtain ⟨w, e1, q1⟩ := this
          refine ix_dic hu value slice pins s σ H _ _ v u Q I rx ry ⟨_, w, rfl, ?_, p.of0 S q1⟩ hs
          rw [← e1]
          exact DGet.k hd
        · exact False.elim p
      · exact False.elim p
    · rename_i kvs e
      obtain ⟨us, hd, r⟩ := S.dct e
      split at p
      · split at p
        · rename_i k ek
          split at p
          · rename_i d ed
            rw [RV.tup_iff] at qy
            obtain ⟨pp, vs, rfl, hp, rr⟩ := qy
            have kx := keys_of' ek rr
            subst kx
            have := RKs.val k r
            rw [ed] at this
            obtain ⟨w, e1, q1⟩ := this
            refine ix_dic hu value slice pins s σ H _ _ v u Q I rx ry ⟨_, w, rfl, ?_, p.of0 S q1⟩ hs
            rw [← e1]
            exact DGet.t hd hp
          · exact False.elim p
        · exact False.elim p
      · exact False.elim p
    · split at p
      · rename_i ds hl
        obtain ⟨vs, hs', r⟩ := S.isL hl
        split at p
        · rename_i i
          split at p
          · rename_i d ed
            rw [RV.int_iff] at qy
            obtain ⟨w, e1, q1⟩ := atI_rv r ed
            exact ix_list value slice pins s σ H _ _ v u Q I rx ry ⟨_, vs, i, w, rfl, qy, hs', e1, p.of0 S q1⟩ hs
          · exact False.elim p
        · exact False.elim p
      · exact False.elim p
  · exact False.elim p
theorem se_ix (hu : X.A.units + 1 < cLine) (ha : SE X κ C a ma) (hb : SE X κ C b mb) (hs : PlainIx b := by intro _ _; rfl) : SE X κ C (.Subscript a b pos) (eOp opIx ma mb) :=
  SE.mk' (pe_ix (ixd (κ := κ) hu) ha.pe hb.pe hs) fun φ ev h σ H Q S r p => by
    obtain ⟨dx, h1, e1, p⟩ := Post.bind p
    obtain ⟨dy, h2, e2, p⟩ := Post.bind p
    exact td_of S r e1 fun φ1 H1 v st S1 r1 q1 => td_of S1 r1 e2 fun φ2 H2 w st2 S2 r2 q2 => ⟨φ2, h2, dx, dy, S2, q1.step S1 st2, q2, p.step (st.trans st2)⟩
theorem so_s (ha : SE X κ C a ma) : SO X κ C (some a) (oS ma) :=
  SO.mk' (po_some ha.pe) fun φ ev h σ H Q S r p => by
    obtain ⟨dx, h1, e1, p⟩ := PostO.bind p
    refine td_of S r e1 fun φ1 H1 v st S1 r1 q1 => ?_
    cases dx with
    | int k => rw [RV.int_iff] at q1; exact ⟨k, q1, p φ1 H1 st S1⟩
    | non => exact False.elim p
    | bl _ => exact False.elim p
    | str _ => exact False.elim p
    | tup _ => exact False.elim p
    | ref _ => exact False.elim p
def rSl (K : PySem.W.Frag) (κ : Nat → Addr) : V → Option Int → Option Int → Hp → VK → Prop := fun x lo hi H Q => ∃ φ h dx, Sim K κ φ h H ∧ RV φ h.length H dx x ∧ Post K κ φ h H (opSl dx lo hi h) Q
theorem sld : SlR X (rSl X.K κ) := by
  intro pins s σ H x v vl vu lo hi sl Q I rx hs pl pu ⟨φ, h, dx, S, qx, p⟩
  unfold opSl at p
  split at p
  · rename_i ds
    rw [RV.tup_iff] at qx
    obtain ⟨pp, vs, rfl, hp, r⟩ := qx
    refine sl_tupA pins s σ H _ v vl vu lo hi sl Q I rx hs pl pu ⟨pp, vs, rfl, SqT.of hp, fun hw => ?_, fun _ q hq => p.newT S hq (cut_rv r)⟩
    refine p.of0 S (RV.tup_iff.mpr ⟨pp, vs, rfl, hp, ?_⟩)
    have e : cutV vs lo hi = vs := by
      unfold cutV
      rw [hw.1, hw.2]
      simp
    have q := cut_rv (lo := lo) (hi := hi) r
    rw [e] at q
    exact q
  · rename_i z
    split at p
    · rename_i hz
      rw [RV.str_iff] at qx
      exact sl_str pins s σ H _ v vl vu lo hi sl Q I rx hs pl pu ⟨z, qx, hz, p.of0 S (RV.str_iff.mpr rfl)⟩
    · exact False.elim p
  · rename_i j
    split at p
    · rename_i ds hl
      rw [RV.ref_iff] at qx
      obtain ⟨vs, hs', r⟩ := S.isL hl
      exact sl_list pins s σ H _ v vl vu lo hi sl Q I rx hs pl pu ⟨_, vs, qx.2, hs', fun q hq => p.newL S hq (cut_rv r)⟩
    · exact False.elim p
  · exact False.elim p
theorem se_sl {lo hi : Option Expr} {ml mh : MO} (ha : SE X κ C a ma) (hl : SO X κ C lo ml) (hh : SO X κ C hi mh) : SE X κ C (.Subscript a (.Slice lo hi none p2) pos) (eSl opSl ma ml mh) :=
  SE.mk' (pe_slice (sld (κ := κ)) ha.pe hl.po hh.po) fun φ ev h σ H Q S r p => by
    obtain ⟨dx, h1, e1, p⟩ := Post.bind p
    obtain ⟨l, h2, e2, p⟩ := Post.bind p
    obtain ⟨u, h3, e3, p⟩ := Post.bind p
    exact td_of S r e1 fun φ1 H1 v st S1 r1 q1 => to_of S1 r1 e2 fun φ2 H2 st2 S2 r2 => to_of S2 r2 e3 fun φ3 H3 st3 S3 r3 =>
      ⟨φ3, h3, dx, S3, (q1.step S1 st2).step S2 st3, p.step ((st.trans st2).trans st3)⟩

/-! ### calls of built-in functions -/
def rB (K : PySem.W.Frag) (κ : Nat → Addr) (f : List D → HP → R D) : List V → Hp → VK → Prop := fun vs H Q => ∃ φ h ds, Sim K κ φ h H ∧ RVs φ h.length H ds vs ∧ Post K κ φ h H (f ds h) Q
theorem se_bf {x : Str} {id : String} {f : List D → HP → R D} {p : Pos} (hc : CallR X (.builtin id) (rB X.K κ f)) (hm : X.mg x = none) (hv : bootBuiltins x = some (.builtin id)) (ha : SA X κ C (e :: es) mas) (hg : Gl X x := by rfl) (hn : x ≠ "__name__" := by decide) (hdb : (x == ("__debug__" : Str)) = false := by decide)
    (he : starEach (e :: es) X.env = (false, eval e X.env) :: starEach es X.env := by rfl) (hpl : (backTo pos (starEach es X.env)).any (·.1) = false := by rfl) : SE X κ C (.Call (.Name x p) (e :: es) [] pos) (eBf f mas) :=
  SE.mk' (pe_callB hc hg hm hv ha.pa hn hdb he hpl) fun φ ev h σ H Q S r p => by
    obtain ⟨ds, h1, e1, p⟩ := Post.bind p
    exact ta_of S r e1 fun φ1 H1 vs st S1 r1 q1 => ⟨φ1, h1, ds, S1, q1, p.step st⟩
theorem se_bt {x : Str} {T : String} {f : List D → HP → R D} {p : Pos} (hc : CallR X (.type T) (rB X.K κ f)) (hm : X.mg x = none) (hv : bootBuiltins x = some (.type T)) (ha : SA X κ C (e :: es) mas) (hg : Gl X x := by rfl) (hn : x ≠ "__name__" := by decide) (hdb : (x == ("__debug__" : Str)) = false := by decide)
    (he : starEach (e :: es) X.env = (false, eval e X.env) :: starEach es X.env := by rfl) (hpl : (backTo pos (starEach es X.env)).any (·.1) = false := by rfl) : SE X κ C (.Call (.Name x p) (e :: es) [] pos) (eBf f mas) :=
  SE.mk' (pe_callTy hc hg hm hv ha.pa hn hdb he hpl) fun φ ev h σ H Q S r p => by
    obtain ⟨ds, h1, e1, p⟩ := Post.bind p
    exact ta_of S r e1 fun φ1 H1 vs st S1 r1 q1 => ⟨φ1, h1, ds, S1, q1, p.step st⟩
end
end Z
/-! Z5: built-in functions, fields, own defs, methods, comprehensions. -/
namespace Z
open PySem L2 PyProof.Rows

def intsD : List D → Option (List Int) := fun ds => seqO (ds.map fun d => match d with
  | .int i => some i
  | _ => none)
def bLen : List D → HP → R D := fun xs h => match xs with
  | [.str z] => if z.length ≤ sizeLine then .ok (.int z.length) h else .no
  | [.tup ds] => .ok (.int ds.length) h
  | [.ref i] => match h[i]? with
    | some (.dic kvs) => .ok (.int kvs.length) h
    | _ => match isL i h with
      | some ds => .ok (.int ds.length) h
      | none => .no
  | _ => .no
def bAbs : List D → HP → R D := fun xs h => match xs with
  | [.int i] => .ok (.int (if i < 0 then -i else i)) h
  | _ => .no
def maxL : List Int → Option Int
  | [] => none
  | i :: r => some (r.foldl (fun a b => if b > a then b else a) i)
def minL : List Int → Option Int
  | [] => none
  | i :: r => some (r.foldl (fun a b => if b < a then b else a) i)
def bMax : List D → HP → R D := fun xs h => match xs with
  | [.int i, .int j] => .ok (.int (if j > i then j else i)) h
  | [.int i, .int j, .int k] => .ok (.int (if j > i then (if k > j then k else j) else (if k > i then k else i))) h
  | [.ref i] => match isL i h with
    | some ds => match intsD ds with
      | some ns => match maxL ns with
        | some m => .ok (.int m) h
        | none => .no
      | none => .no
    | none => .no
  | _ => .no
def bMin : List D → HP → R D := fun xs h => match xs with
  | [.int i, .int j] => .ok (.int (if j < i then j else i)) h
  | [.ref i] => match isL i h with
    | some ds => match intsD ds with
      | some ns => match minL ns with
        | some m => .ok (.int m) h
        | none => .no
      | none => .no
    | none => .no
  | _ => .no
def bSum : List D → HP → R D := fun xs h => match xs with
  | [.ref i] => match isL i h with
    | some ds => match intsD ds with
      | some ns => .ok (.int ns.sum) h
      | none => .no
    | none => .no
  | _ => .no
def bInt : List D → HP → R D := fun xs h => match xs with
  | [.int i] => .ok (.int i) h
  | [.bl b] => .ok (.int (if b then 1 else 0)) h
  | [.str z] => match PySem.intText? z with
    | some n => if z.length ≤ 640 then .ok (.int n) h else .no
    | none => .no
  | _ => .no
def bStr : List D → HP → R D := fun xs h => match xs with
  | [.int i] => if i.natAbs.log2 < 1920 then .ok (.str (toString i)) h else .no
  | [.str z] => .ok (.str z) h
  | _ => .no
def bDvm : List D → HP → R D := fun xs h => match xs with
  | [.int i, .int j] => if 0 < j ∧ divOk j = true then .ok (.tup [.int (i / j), .int (i % j)]) h else .no
  | _ => .no
section
variable {K : PySem.W.Frag} {κ φ : Nat → Addr} {h : HP} {H : Hp}
theorem intsD_of : ∀ {ds : List D} {ns : List Int}, intsD ds = some ns → ds = ns.map D.int
  | [], ns, e => by simp only [intsD, List.map_nil, seqO, Option.some.injEq] at e; subst e; rfl
  | d :: ds, ns, e => by
    simp only [intsD, List.map_cons] at e
    cases d with
    | int i =>
      simp only [seqO] at e
      cases e2 : intsD ds with
      | none => unfold intsD at e2; rw [e2] at e; cases e
      | some as =>
        have e3 := e2
        unfold intsD at e3
        rw [e3] at e
        simp only [Option.map_some, Option.some.injEq] at e
        subst e
        rw [List.map_cons, intsD_of e2]
    | non => simp [seqO] at e
    | bl _ => simp [seqO] at e
    | str _ => simp [seqO] at e
    | tup _ => simp [seqO] at e
    | ref _ => simp [seqO] at e
theorem Sim.intsL (S : Sim K κ φ h H) {i : Nat} {ds : List D} {ns : List Int} (e : Z.isL i h = some ds) (en : intsD ds = some ns) : SqL K H (φ i) (ns.map V.int) := by
  obtain ⟨vs, hs, r⟩ := S.isL e
  rw [intsD_of en] at r
  rw [r.ints] at hs
  exact hs
theorem foldl_max : ∀ (r : List Int) (i : Int), (∀ y ∈ i :: r, y ≤ r.foldl (fun a b => if b > a then b else a) i) ∧ r.foldl (fun a b => if b > a then b else a) i ∈ i :: r
  | [], i => by simp
  | b :: r, i => by
    obtain ⟨h1, h2⟩ := foldl_max r (if b > i then b else i)
    simp only [List.foldl_cons]
    refine ⟨fun y hy => ?_, ?_⟩
    · have h0 := h1 (if b > i then b else i) List.mem_cons_self
      have h3 := fun y hy => h1 y (List.mem_cons_of_mem _ hy)
      generalize List.foldl (fun a b => if b > a then b else a) (if b > i then b else i) r = m at h0 h3 ⊢
      rcases List.mem_cons.mp hy with hy | hy
      · split at h0 <;> omega
      · rcases List.mem_cons.mp hy with hy | hy
        · split at h0 <;> omega
        · exact h3 y hy
    · rcases List.mem_cons.mp h2 with e | h2
      · rw [e]
        split
        · exact List.mem_cons_of_mem _ List.mem_cons_self
        · exact List.mem_cons_self
      · exact List.mem_cons_of_mem _ (List.mem_cons_of_mem _ h2)
theorem maxL_of {ns : List Int} {m k : Int} (e : maxL ns = some m) (hk : k ∈ ns) (hy : ∀ y, y ∈ ns → y ≤ k) : k = m := by
  cases ns with
  | nil => cases e
  | cons i r =>
    simp only [maxL, Option.some.injEq] at e
    subst e
    obtain ⟨h1, h2⟩ := foldl_max r i
    exact Int.le_antisymm (h1 k hk) (hy _ h2)
theorem RVs.one_inv {n : Nat} {d : D} {vs : List V} (r : RVs φ n H [d] vs) : ∃ v, vs = [v] ∧ RV φ n H d v := by
  simp only [RVs] at r
  obtain ⟨v, r', rfl, q, rfl⟩ := r
  exact ⟨v, rfl, q⟩
theorem RVs.two_inv {n : Nat} {d d' : D} {vs : List V} (r : RVs φ n H [d, d'] vs) : ∃ v v', vs = [v, v'] ∧ RV φ n H d v ∧ RV φ n H d' v' := by
  simp only [RVs] at r
  obtain ⟨v, r', rfl, q, v', r2, rfl, q2, rfl⟩ := r
  exact ⟨v, v', rfl, q, q2⟩
theorem RVs.three_inv {n : Nat} {d d' d2 : D} {vs : List V} (r : RVs φ n H [d, d', d2] vs) : ∃ v v' v2, vs = [v, v', v2] ∧ RV φ n H d v ∧ RV φ n H d' v' ∧ RV φ n H d2 v2 := by
  simp only [RVs] at r
  obtain ⟨v, r', rfl, q, v', r2, rfl, q2, v3, r3, rfl, q3, rfl⟩ := r
  exact ⟨v, v', v3, rfl, q, q2, q3⟩
end
section
variable {X : Cx} {κ : Nat → Addr}
theorem cd_len : CallR X (.builtin "len") (rB X.K κ bLen) := by
  intro pins s σ H xs us Q I r ⟨φ, h, ds, S, q, p⟩
  unfold bLen at p
  split at p
  · (replace q := q.one_inv); obtain ⟨v, rfl, q⟩ := q
    split at p
    · rename_i hz
      rw [RV.str_iff] at q
      subst q
      exact call_len pins s σ H _ us Q I r ⟨_, _, rfl, ⟨hz, rfl⟩, p.of0 S (RV.int_iff.mpr rfl)⟩
    · exact False.elim p
  · (replace q := q.one_inv); obtain ⟨v, rfl, q⟩ := q
    rw [RV.tup_iff] at q
    obtain ⟨pp, vs, rfl, hp, q2⟩ := q
    exact call_len pins s σ H _ us Q I r ⟨_, _, rfl, .inr ⟨vs, SqT.of hp, q2.len.symm⟩, p.of0 S (RV.int_iff.mpr rfl)⟩
  · (replace q := q.one_inv); obtain ⟨v, rfl, q⟩ := q
    rw [RV.ref_iff] at q
    obtain ⟨hi, rfl⟩ := q
    split at p
    · rename_i e
      obtain ⟨us', hd, rr⟩ := S.dic e
      obtain ⟨u, rfl, ru⟩ := vals1 r
      obtain rfl : u = Value.ref _ := ru
      exact d_len I (.inl hd) fun t s' I' => ⟨.int us'.length, H, I', ⟨t, rfl⟩, by rw [rr.len]; exact p.of0 S (RV.int_iff.mpr rfl)⟩
    · split at p
      · rename_i ds' hl
        obtain ⟨vs, hs, rr⟩ := S.isL hl
        exact call_len pins s σ H _ us Q I r ⟨_, _, rfl, .inl ⟨vs, hs, rr.len.symm⟩, p.of0 S (RV.int_iff.mpr rfl)⟩
      · exact False.elim p
  · exact False.elim p
theorem cd_max (hc : X.calm = true) : CallR X (.builtin "max") (rB X.K κ bMax) := by
  intro pins s σ H xs us Q I r ⟨φ, h, ds, S, q, p⟩
  unfold bMax at p
  split at p
  · (replace q := q.two_inv); obtain ⟨v, v', rfl, q, q'⟩ := q
    rw [RV.int_iff] at q q'
    subst q q'
    exact call_max2 hc pins s σ H _ us Q I r ⟨_, _, rfl, p.of0 S (RV.int_iff.mpr rfl)⟩
  · rename_i i j k
    (replace q := q.three_inv); obtain ⟨v, v', v2, rfl, q, q', q2⟩ := q
    rw [RV.int_iff] at q q' q2
    subst q q' q2
    cases r with
    | cons r1 r =>
      cases r with
      | cons r2 r =>
        cases r with
        | cons r3 r =>
          cases r
          obtain ⟨t1, rfl⟩ := r1
          obtain ⟨t2, rfl⟩ := r2
          obtain ⟨t3, rfl⟩ := r3
          refine max_three_ints (I.ok.hd hc) fun h' tk k' => ⟨.int (if j > i then (if k > j then k else j) else (if k > i then k else i)), H, I.kept k', ?_, p.of0 S (RV.int_iff.mpr rfl)⟩
          by_cases h1 : j > i
          · rw [if_pos h1, if_pos h1]
            by_cases h2 : k > j
            · rw [if_pos h2, if_pos h2]; exact ⟨_, rfl⟩
            · rw [if_neg h2, if_neg h2]; exact ⟨_, rfl⟩
          · rw [if_neg h1, if_neg h1]
            by_cases h2 : k > i
            · rw [if_pos h2, if_pos h2]; exact ⟨_, rfl⟩
            · rw [if_neg h2, if_neg h2]; exact ⟨_, rfl⟩
  · (replace q := q.one_inv); obtain ⟨v, rfl, q⟩ := q
    rw [RV.ref_iff] at q
    obtain ⟨hi, rfl⟩ := q
    split at p
    · rename_i ds' hl
      split at p
      · rename_i ns en
        split at p
        · rename_i m em
          have hne : 0 < ns.length := by
            cases ns with
            | nil => cases em
            | cons _ _ => simp
          exact cr_max hc pins s σ H _ us Q I r ⟨_, ns, rfl, S.intsL hl en, hne, fun k hk hy => by rw [maxL_of em hk hy]; exact p.of0 S (RV.int_iff.mpr rfl)⟩
        · exact False.elim p
      · exact False.elim p
    · exact False.elim p
  · exact False.elim p
theorem cd_sum (hc : X.calm = true) : CallR X (.builtin "sum") (rB X.K κ bSum) := by
  intro pins s σ H xs us Q I r ⟨φ, h, ds, S, q, p⟩
  unfold bSum at p
  split at p
  · (replace q := q.one_inv); obtain ⟨v, rfl, q⟩ := q
    rw [RV.ref_iff] at q
    obtain ⟨hi, rfl⟩ := q
    split at p
    · rename_i ds' hl
      split at p
      · rename_i ns en
        exact cr_sum hc pins s σ H _ us Q I r ⟨_, ns, rfl, S.intsL hl en, p.of0 S (RV.int_iff.mpr rfl)⟩
      · exact False.elim p
    · exact False.elim p
  · exact False.elim p
theorem cd_int : CallR X (.type "int") (rB X.K κ bInt) := by
  intro pins s σ H xs us Q I r ⟨φ, h, ds, S, q, p⟩
  unfold bInt at p
  split at p
  · (replace q := q.one_inv); obtain ⟨v, rfl, q⟩ := q
    rw [RV.int_iff] at q
    subst q
    exact call_int1 pins s σ H _ us Q I r (.inl ⟨_, rfl, p.of0 S (RV.int_iff.mpr rfl)⟩)
  · (replace q := q.one_inv); obtain ⟨v, rfl, q⟩ := q
    rw [RV.bl_iff] at q
    subst q
    exact call_int1 pins s σ H _ us Q I r (.inr ⟨_, rfl, p.of0 S (RV.int_iff.mpr rfl)⟩)
  · (replace q := q.one_inv); obtain ⟨v, rfl, q⟩ := q
    rw [RV.str_iff] at q
    subst q
    split at p
    · rename_i n en
      split at p
      · rename_i hz
        exact call_int_str pins s σ H _ us Q I r ⟨_, _, rfl, en, hz, p.of0 S (RV.int_iff.mpr rfl)⟩
      · exact False.elim p
    · exact False.elim p
  · exact False.elim p
theorem cd_dvm : CallR X (.builtin "divmod") (rB X.K κ bDvm) := by
  intro pins s σ H xs us Q I r ⟨φ, h, ds, S, q, p⟩
  unfold bDvm at p
  split at p
  · rename_i i j
    (replace q := q.two_inv); obtain ⟨v, v', rfl, q, q'⟩ := q
    split at p
    · rename_i hz
      rw [RV.int_iff] at q q'
      subst q q'
      have h2 := hz.2
      unfold divOk at h2
      rw [Bool.and_eq_true] at h2
      exact call_divmodW pins s σ H _ us Q I r ⟨_, _, rfl, ⟨hz.1, PyProof.noPylong_of_log2 (of_decide_eq_true h2.2)⟩, fun t ht => p.newT S ht (RVs.cons (RV.int_iff.mpr rfl) (RVs.one (RV.int_iff.mpr rfl)))⟩
    · exact False.elim p
  · exact False.elim p
end

/-! ### isinstance -/
def tyName (d : D) (h : HP) : Option String := match d with
  | .non => some "NoneType"
  | .bl _ => some "bool"
  | .int _ => some "int"
  | .str _ => some "str"
  | .tup _ => some "tuple"
  | .ref i => match h[i]? with
    | some (.lst _) => some "list"
    | some (.fz _) => some "list"
    | some (.dic _) => some "dict"
    | some (.dct _) => some "dict"
    | _ => none
def eIs (T : String) (a : ME) : ME := fun C e h => (a C e h).bind fun x h => match tyName x h with
  | some n => .ok (.bl (n == T || (n == "bool" && T == "int"))) h
  | none => .no
def isTs : List String := ["int", "bool", "str", "list", "tuple", "dict"]
theorem kit_all : (["NoneType", "bool", "int", "str", "tuple", "list", "dict"].all fun n => isTs.all fun T => kitB n T == some (n == T || (n == "bool" && T == "int"))) = true := by decide +kernel
theorem kit_is {n T : String} (hn : n ∈ ["NoneType", "bool", "int", "str", "tuple", "list", "dict"]) (hT : T ∈ isTs) : kitB n T = some (n == T || (n == "bool" && T == "int")) := by
  have h := List.all_eq_true.mp kit_all n hn
  have h2 := List.all_eq_true.mp h T hT
  exact beq_iff_eq.mp h2
theorem tyName_mem {d : D} {h : HP} {n : String} (e : tyName d h = some n) : n ∈ ["NoneType", "bool", "int", "str", "tuple", "list", "dict"] := by
  unfold tyName at e
  split at e
  iterate 5 (cases e; simp)
  split at e <;> first | (cases e; simp) | cases e
theorem tyX_of {K : PySem.W.Frag} {κ φ : Nat → Addr} {h : HP} {H : Hp} {d : D} {v : V} {n : String} (S : Sim K κ φ h H) (r : RV φ h.length H d v) (e : tyName d h = some n) : TyX K H v (.type n) := by
  unfold tyName at e
  split at e
  · cases e; rw [RV.non_iff] at r; subst r; exact .base .non
  · cases e; rw [RV.bl_iff] at r; subst r; exact .base (.bl _)
  · cases e; rw [RV.int_iff] at r; subst r; exact .base (.int _)
  · cases e; rw [RV.str_iff] at r; subst r; exact .base (.str _)
  · cases e; rw [RV.tup_iff] at r; obtain ⟨p, vs, rfl, hp, _⟩ := r; exact .base (.tup hp)
  · rw [RV.ref_iff] at r
    obtain ⟨hi, rfl⟩ := r
    split at e
    · rename_i q; cases e; obtain ⟨vs, hv, _⟩ := S.lst q; exact .base (.lst hv)
    · rename_i q
      cases e
      obtain ⟨vs, hv, _⟩ := S.obj _ _ q
      rcases hv with ⟨o, hv⟩ | ⟨o, its, m, hk, hc, _⟩
      · exact .base (.frz hv)
      · exact .kList hk hc
    · rename_i q; cases e; obtain ⟨vs, hv, _⟩ := S.dic q; exact .base (.dK hv)
    · rename_i q; cases e; obtain ⟨vs, hv, _⟩ := S.dct q; exact .base (.dT hv)
    · cases e
section
variable {X : Cx} {κ : Nat → Addr} {C : Ctx} {a b c e : Expr} {es : List Expr} {ma mb mc : ME} {ta tb : MT} {mas : MA} {pos p2 p3 : Pos}
theorem se_is {T : String} {Ts : Str} (ha : SE X κ C a ma) (hm : X.mg "isinstance" = none) (hT : X.mg Ts = none) (hv : bootBuiltins Ts = some (.type T)) (hTs : T ∈ isTs := by decide) (hg : Gl X "isinstance" := by rfl) (hgT : Gl X Ts := by rfl)
    (hn : Ts ≠ "__name__" := by decide) (hdb : (Ts == ("__debug__" : Str)) = false := by decide)
    (hs1 : starEach [a, .Name Ts p3] X.env = (false, eval a X.env) :: starEach [.Name Ts p3] X.env := by rfl) (hs2 : starEach [.Name Ts p3] X.env = (false, eval (.Name Ts p3) X.env) :: starEach [] X.env := by rfl)
    (hpl : (backTo pos (starEach [.Name Ts p3] X.env)).any (·.1) = false := by rfl) : SE X κ C (.Call (.Name "isinstance" p2) [a, .Name Ts p3] [] pos) (eIs T ma) :=
  SE.mk' (pe_callB call_isi hg hm (by decide +kernel) (pa_cons ha.pe (pa_cons (pe_bltn (v := .ty T) hgT hT hv rfl hn hdb) pa_nil hs2) hs1) (by decide) (by decide) hs1 hpl) fun φ ev h σ H Q S r p => by
    obtain ⟨dx, h1, e1, p⟩ := Post.bind p
    refine td_of S r e1 fun φ1 H1 v st S1 r1 q1 => ?_
    split at p
    · rename_i n en
      exact ⟨v, .ty T, .type n, .type T, _, rfl, .ty T, tyX_of S1 q1 en, kit_ty (kit_is (tyName_mem en) hTs), p φ1 H1 _ st S1 (RV.bl_iff.mpr rfl)⟩
    · exact False.elim p

/-! ### fields -/
/-- what is known of the field f of own classes -/
def FldOk (K : PySem.W.Frag) (κ : Nat → Addr) (cs : List Nat) (f : Str) : Prop := ∀ c ∈ cs, Cls K (κ c) ∧ NoAttr K (κ c) f
theorem se_fld {cs : List Nat} {f : Str} (hf : FldOk X.K κ cs f) (ha : SE X κ C a ma) (hb : attributeBase a f X.env (eval a X.env) = eval a X.env := by rfl) : SE X κ C (.Attribute a f pos) (eFld cs ma f) :=
  SE.mk' (pe_fld ha.pe hb) fun φ ev h σ H Q S r p => by
    obtain ⟨dx, h1, e1, p⟩ := Post.bind p
    refine td_of S r e1 fun φ1 H1 v st S1 r1 q1 => ?_
    split at p
    · rw [RV.ref_iff] at q1
      obtain ⟨hi, rfl⟩ := q1
      split at p
      · rename_i c fs e
        obtain ⟨dx, us, hu, rr⟩ := S1.ins e
        split at p
        · rename_i hc
          split at p
          · rename_i d ed
            obtain ⟨w, e2, q2⟩ := rr.look ed
            exact ⟨_, _, dx, us, w, rfl, hu, (hf c hc).1, (hf c hc).2, e2, p φ1 H1 w st S1 q2⟩
          · exact False.elim p
        · exact False.elim p
      · exact False.elim p
    · exact False.elim p
end

/-! ### own defs -/
/-- what a call of a def is worth -/
def spD (K : PySem.W.Frag) (κ : Nat → Addr) (np : Nat) (f : List D → HP → R D) : Sp := fun vs H Q _ => vs.length = np ∧ ∃ φ h ds, Sim K κ φ h H ∧ RVs φ h.length H ds vs ∧ Post K κ φ h H (f ds h) Q
/-- the def answers to so many arguments alone -/
def Ary (np : Nat) (f : List D → HP → R D) : Prop := ∀ ds h, ds.length ≠ np → f ds h = .no
structure FnF (P : Program) (w : World) (K : PySem.W.Frag) (mg : Str → Option Value) (base : Heap) (κ : Nat → Addr) (k : Nat) (nm : Str) (dfs : List Int) (f : List D → HP → R D) : Prop where
  ex : ∃ (fa : Addr) (fd : FuncData) (ps : List Str) (us : List Value), mg nm = some (.ref fa) ∧ PySem.W.keepIn K (.ref fa) = true ∧ Binds K fd ps [] ∧ Binds K fd ps us ∧ Vals (dfs.map V.int) us ∧ Ary ps.length f ∧ FnOk P w K mg base CX0 k fa fd ps (spD K κ ps.length f)
structure MeF (P : Program) (w : World) (K : PySem.W.Frag) (mg : Str → Option Value) (base : Heap) (κ : Nat → Addr) (k : Nat) (c : Nat) (nm : Str) (f : List D → HP → R D) : Prop where
  ex : ∃ (fa : Addr) (fd : FuncData) (ps : List Str), Cls K (κ c) ∧ Meth K (κ c) nm fa ∧ Binds K fd ps [] ∧ Ary ps.length f ∧ FnOk P w K mg base CX0 k fa fd ps (spD K κ ps.length f)
structure MkF (P : Program) (w : World) (K : PySem.W.Frag) (mg : Str → Option Value) (base : Heap) (κ : Nat → Addr) (k : Nat) (c : Nat) (nm : Str) (f : List D → HP → R D) : Prop where
  ex : ∃ (fa : Addr) (fd : FuncData) (ps : List Str), mg nm = some (.ref (κ c)) ∧ Mk K (κ c) fa ∧ Binds K fd ps [] ∧ Ary ps.length f ∧ FnOk P w K mg base CX0 k fa fd ps (spD K κ ps.length f)
/-- a new instance is laid -/
theorem Sim.make {K : PySem.W.Frag} {κ φ : Nat → Addr} {h : HP} {H : Hp} {x dx : Addr} {c : Nat} (S : Sim K κ φ h H) (hx : H x = none) (hd : H dx = none) (ne : dx ≠ x) :
    Step φ h H (ext φ h.length x) (h ++ [.ins c []]) (upd (upd H dx (.own x)) x (.ins (κ c) dx [])) ∧ Sim K κ (ext φ h.length x) (h ++ [.ins c []]) (upd (upd H dx (.own x)) x (.ins (κ c) dx [])) := by
  have S1 : Sim K κ φ h (upd H dx (.own x)) := S.temp hd
  have t1 : Step φ h H φ h (upd H dx (.own x)) := step_temp S hd
  have hx1 : upd H dx (.own x) x = none := by rw [upd_ne (Ne.symm ne)]; exact hx
  exact ⟨t1.trans (step_new S1 hx1), S1.new hx1 fun st => ⟨dx, [], upd_same, by simp [RKs]⟩⟩
theorem Ary.len {np : Nat} {f : List D → HP → R D} (a : Ary np f) {ds : List D} {h h' : HP} {d : D} (e : f ds h = .ok d h') : ds.length = np := by
  by_cases hn : ds.length = np
  · exact hn
  · rw [a ds h hn] at e; cases e
theorem Post.ok {K : PySem.W.Frag} {κ φ : Nat → Addr} {h : HP} {H : Hp} {r : R D} {Q : VK} (p : Post K κ φ h H r Q) : ∃ d h', r = .ok d h' := by
  cases r with
  | ok d h' => exact ⟨d, h', rfl⟩
  | ex _ _ _ => exact False.elim p
  | no => exact False.elim p
section
variable {X : Cx} {κ : Nat → Addr} {C : Ctx} {a b c e o : Expr} {es : List Expr} {ma mb mc mo : ME} {ta tb : MT} {mas : MA} {pos p2 p3 apos : Pos} {j k : Nat}
/-- f(e, ..), every argument given -/
theorem se_call {x : Str} {n : Nat} {dfs : List Int} (F : FnF X.prog X.w X.K X.mg X.base κ k x dfs (C.call n)) (hr : Room k X.A) (ha : SA X κ C (e :: es) mas) (hg : Gl X x := by rfl) (hdb : (x == ("__debug__" : Str)) = false := by decide)
    (he : starEach (e :: es) X.env = (false, eval e X.env) :: starEach es X.env := by rfl) (hpl : (backTo pos (starEach es X.env)).any (·.1) = false := by rfl) : SE X κ C (.Call (.Name x p2) (e :: es) [] pos) (eCall n mas []) := by
  obtain ⟨fa, fd, ps, us, hm, hk, hb, _, _, ar, G⟩ := F.ex
  refine SE.mk' (pe_call G hr hg hm hk hb .nil pass0 ha.pa hdb he hpl) fun φ ev h σ H Q S r p => ?_
  obtain ⟨ds, h1, e1, p⟩ := Post.bind p
  refine ta_of S r e1 fun φ1 H1 vs st S1 r1 q1 => ?_
  rw [List.append_nil] at p ⊢
  obtain ⟨d, h', ed⟩ := p.ok
  exact ⟨by rw [q1.len]; exact ar.len ed, φ1, h1, ds, S1, q1, p.step st⟩
/-- f(e, ..), the defaults filled up -/
theorem se_calld {x : Str} {n : Nat} {dfs : List Int} {dds : List D} (F : FnF X.prog X.w X.K X.mg X.base κ k x dfs (C.call n)) (hr : Room k X.A) (ha : SA X κ C (e :: es) mas) (hg : Gl X x := by rfl) (hdb : (x == ("__debug__" : Str)) = false := by decide)
    (he : starEach (e :: es) X.env = (false, eval e X.env) :: starEach es X.env := by rfl) (hpl : (backTo pos (starEach es X.env)).any (·.1) = false := by rfl) (hds : dfs.map D.int = dds := by rfl) : SE X κ C (.Call (.Name x p2) (e :: es) [] pos) (eCall n mas dds) := by
  subst hds
  obtain ⟨fa, fd, ps, us, hm, hk, _, hb, hv, ar, G⟩ := F.ex
  refine SE.mk' (pe_call G hr hg hm hk hb hv pass0 ha.pa hdb he hpl) fun φ ev h σ H Q S r p => ?_
  obtain ⟨ds, h1, e1, p⟩ := Post.bind p
  refine ta_of S r e1 fun φ1 H1 vs st S1 r1 q1 => ?_
  obtain ⟨d, h', ed⟩ := p.ok
  have q2 := q1.append (RVs.of_ints (φ := φ1) (n := h1.length) (H := H1) (ns := dfs))
  exact ⟨by rw [q2.len]; exact ar.len ed, φ1, h1, _, S1, q2, p.step st⟩
/-- o.m(e, ..), o of one of the classes cs -/
theorem se_meth {cs : List Nat} {m : Str} {n : Nat} {pl : Sem Bool} (F : ∀ c ∈ cs, MeF X.prog X.w X.K X.mg X.base κ k c m (C.meth c n)) (hr : Room k X.A) (ho : SE X κ C o mo) (ha : SA X κ C (e :: es) mas)
    (hst : starEach (e :: es) X.env = (false, eval e X.env) :: starEach es X.env := by rfl) (hpl : (backTo pos (starEach es X.env)).any (·.1) = false := by rfl)
    (ht : eval (.Call (.Attribute o m apos) (e :: es) [] pos) X.env = (do { let ov ← eval o X.env; standAt apos.atName; let (f, first) ← holding [ov] (getMethod ov m pl); callWith pos f first (backTo pos (starEach (e :: es) X.env)) (backToKw pos (keywordEach [] X.env)) }) := by rfl) : SE X κ C (.Call (.Attribute o m apos) (e :: es) [] pos) (eMeth cs mo n m mas) := by
  refine ⟨⟨fun pins s σ H Q I ⟨φ, ev, h, S, r, p⟩ => ?_⟩⟩
  obtain ⟨dx, h1, e1, p⟩ := Post.bind p
  split at p
  · rename_i i
    split at p
    · rename_i c fs ei
      split at p
      · rename_i hc
        obtain ⟨ds, h2, e2, p⟩ := Post.bind p
        obtain ⟨d, h', ed⟩ := p.ok
        obtain ⟨fa, fd, ps, hcl, hme, hb, ar, G⟩ := (F c hc.1).ex
        refine (pe_meth ho.pe hcl hme G hr hb .nil pass0 ha.pa hst hpl ht).run pins s σ H Q I ?_
        refine td_of S r e1 fun φ1 H1 v st S1 r1 q1 => ?_
        have q0 := q1
        rw [RV.ref_iff] at q1
        obtain ⟨hi, rfl⟩ := q1
        obtain ⟨dx, us, hu, rr⟩ := S1.ins ei
        refine ⟨_, dx, us, rfl, hu, rr.look0 (Option.isNone_iff_eq_none.mp hc.2), ?_⟩
        refine ta_of S1 r1 e2 fun φ2 H2 vs st2 S2 r2 q2 => ?_
        rw [List.append_nil]
        have q3 := RVs.cons (q0.step S1 st2) q2
        exact ⟨by rw [q3.len]; exact ar.len ed, φ2, h2, _, S2, q3, p.step (st.trans st2)⟩
      · exact False.elim p
    · exact False.elim p
  · exact False.elim p
/-- C(e, ..), an own class with an __init__ -/
theorem se_make {x : Str} {c : Nat} {me : Nat → Nat → List D → HP → R D} (hC : C.make = mkBy me) (F : MkF X.prog X.w X.K X.mg X.base κ k c x (me c 0)) (hr : Room (k + 1) X.A) (ha : SA X κ C (e :: es) mas) (hg : Gl X x := by rfl) (hdb : (x == ("__debug__" : Str)) = false := by decide)
    (he : starEach (e :: es) X.env = (false, eval e X.env) :: starEach es X.env := by rfl) (hpl : (backTo pos (starEach es X.env)).any (·.1) = false := by rfl) : SE X κ C (.Call (.Name x p2) (e :: es) [] pos) (eMake c mas) := by
  obtain ⟨fa, fd, ps, hm, M, hb, ar, G⟩ := F.ex
  refine SE.mk' (pe_make M G hr hg hm hb .nil pass0 ha.pa hdb he hpl) fun φ ev h σ H Q S r p => ?_
  obtain ⟨ds, h1, e1, p⟩ := Post.bind p
  rw [hC] at p
  obtain ⟨d, h', ed, p⟩ := Post.bind p
  refine ta_of S r e1 fun φ1 H1 vs st S1 r1 q1 => ?_
  intro x dx hx hdx ne
  obtain ⟨t2, S2⟩ := S1.make (c := c) hx hdx ne
  rw [List.append_nil]
  have q3 : RVs (Z.ext φ1 h1.length x) (h1 ++ [O.ins c []]).length (upd (upd H1 dx (.own x)) x (.ins (κ c) dx [])) (.ref h1.length :: ds) (.ref x :: vs) := RVs.cons (RV.ref_iff.mpr ⟨by simp, by rw [ext_at]⟩) (q1.step S1 t2)
  refine ⟨by rw [q3.len]; exact ar.len ed, _, _, _, S2, q3, ?_⟩
  rw [ed]
  intro φ3 H3 v st3 S3 rv
  split at p
  · rw [RV.non_iff] at rv
    have hl : h1.length < (h1 ++ [O.ins c []]).length := by simp
    exact ⟨rv, p φ3 H3 _ ((st.trans t2).trans st3) S3 (RV.ref_iff.mpr ⟨Nat.lt_of_lt_of_le hl st3.len, by rw [st3.agree _ hl, ext_at]⟩)⟩
  · exact False.elim p
end
end Z
/-! Z6: targets, statements, loops, comprehensions, a def by its body. -/
namespace Z
open PySem L2 PyProof.Rows

/-! ### targets -/
def gsN : List Nat → TGs
  | [] => gNil
  | i :: r => gCons (gName i) (gsN r)
structure SGs (X : Cx) (es : List Expr) (is : List Nat) : Prop where
  pgs : PGs X es (gsN is)
def tG (K : PySem.W.Frag) (κ : Nat → Addr) (g : Tg) : TG := fun v σ H Q => ∃ φ e h d, Sim K κ φ h H ∧ EnvR φ h.length H e σ ∧ RV φ h.length H d v ∧ ∃ e', g e d = some e' ∧ ∀ σ', EnvR φ h.length H e' σ' → Q σ' H
structure SG (X : Cx) (κ : Nat → Addr) (t : Expr) (g : Tg) : Prop where
  pg : PG X t (tG X.K κ g)
section
variable {K : PySem.W.Frag} {κ φ φ' : Nat → Addr} {h h' : HP} {H H' : Hp}
theorem gsN_of {n : Nat} {Q : L2.St → Hp → Prop} : ∀ {is : List Nat} {ds : List D} {vs : List V} {e : Ev} {σ : L2.St}, ds.length = is.length → EnvR φ n H e σ → RVs φ n H ds vs →
    (∀ σ', EnvR φ n H ((is.zip ds).foldl (fun e p => e.set p.1 (some p.2)) e) σ' → Q σ' H) → gsN is vs σ H Q
  | [], [], vs, e, σ, _, r, q, k => by
    simp only [RVs] at q
    exact ⟨q, k σ r⟩
  | i :: is, d :: ds, vs, e, σ, hl, r, q, k => by
    simp only [RVs] at q
    obtain ⟨v, vr, rfl, q1, q2⟩ := q
    exact ⟨v, vr, rfl, gsN_of (is := is) (ds := ds) (by simpa using hl) (r.set q1 i) q2 k⟩
  | [], _ :: _, _, _, _, hl, _, _, _ => by simp at hl
  | _ :: _, [], _, _, _, hl, _, _, _ => by simp at hl
end
section
variable {X : Cx} {κ : Nat → Addr} {C : Ctx} {a b c e o : Expr} {es : List Expr} {ma mb mc mo : ME} {ta tb : MT} {mas : MA} {pos p2 p3 apos : Pos} {g : Tg}
theorem sgs_nil : SGs X [] [] := ⟨pgs_nil⟩
theorem sgs_cons {i : Nat} {x : Str} {is : List Nat} (hN : X.N.Nodup) (r : SGs X es is) (hi : X.N[i]? = some x := by rfl) (hx : Loc X.env.scope x := by first | exact Or.inl rfl | exact Or.inr rfl)
    (hf : X.fn x = true ∨ X.env.scope.names.lookup x = some .local := by first | exact .inl rfl | exact .inr rfl | assumption)
    (hs : (assignEach (Expr.Name x pos :: es) X.env).map (·.2) = assign (Expr.Name x pos) X.env :: (assignEach es X.env).map (·.2) := by rfl) : SGs X (.Name x pos :: es) (i :: is) := ⟨pgs_cons (pg_name hN hi hx hf) r.pgs hs⟩
theorem sg_n {i : Nat} {x : Str} (hN : X.N.Nodup) (hi : X.N[i]? = some x := by rfl) (hx : Loc X.env.scope x := by first | exact Or.inl rfl | exact Or.inr rfl)
    (hf : X.fn x = true ∨ X.env.scope.names.lookup x = some .local := by first | exact .inl rfl | exact .inr rfl | assumption) : SG X κ (.Name x pos) (gN i) := by
  refine ⟨⟨fun pins s σ H v u Q I r ⟨φ, ev, h, d, S, er, q, e', ge, k⟩ => ?_⟩⟩
  unfold gN at ge
  cases ge
  exact (pg_name hN hi hx hf).run pins s σ H v u Q I r (k _ (er.set q i))
theorem sg_t {is : List Nat} {k : Nat} {n : Nat} (hc : X.calm = true) (hs : SGs X es is) (hn : (assignEach es X.env).length = n := by rfl) (hst : (assignEach es X.env).findIdx? (·.1) = none := by rfl) (hn2 : is.length = n := by rfl) : SG X κ (.Tuple es k pos) (gT is) := by
  refine ⟨⟨fun pins s σ H v u Q I r ⟨φ, ev, h, d, S, er, q, e', ge, kk⟩ => ?_⟩⟩
  unfold gT at ge
  cases d with
  | tup ds =>
    simp only at ge
    split at ge
    · rename_i hl
      cases ge
      rw [RV.tup_iff] at q
      obtain ⟨p, vs, rfl, hp, q⟩ := q
      exact (pg_tup hc hs.pgs hn hst).run pins s σ H _ u Q I r ⟨p, vs, rfl, SqT.of hp, by rw [q.len, hl, hn2], gsN_of hl er q kk⟩
    · cases ge
  | non => cases ge
  | bl _ => cases ge
  | int _ => cases ge
  | str _ => cases ge
  | ref _ => cases ge

/-! ### plain statements -/
variable {ms mr : MS} {st : Stmt} {sts : List Stmt}
theorem ss_ex (ha : SE X κ C a ma) (hs : swapsWith a none pos.line X.env = pure false := by rfl) : SS X κ C (.Expr a pos) (sEx ma) :=
  SS.mk' (ps_expr ha.pe hs) fun φ ev h σ H Dn S r p => by
    obtain ⟨d, h1, e1, p⟩ := PostS.bind p
    exact td_of S r e1 fun φ1 H1 v st S1 r1 q1 => p φ1 H1 σ st S1 r1
theorem ss_ps : SS X κ C (.Pass pos) sSk := SS.mk' ps_pass fun φ ev h σ H Dn S r p => p φ H σ Step.refl S r
theorem ss_rt (ha : SE X κ C a ma) : SS X κ C (.Return (some a) pos) (sRt ma) :=
  SS.mk' (ps_ret ha.pe) fun φ ev h σ H Dn S r p => by
    obtain ⟨d, h1, e1, p⟩ := PostS.bind p
    exact td_of S r e1 fun φ1 H1 v st S1 r1 q1 => p φ1 H1 v st S1 q1
theorem ss_no : SS X κ C st sNo := SS.mk' ps_never fun φ ev h σ H Dn S r p => p
/-- name = a -/
theorem ss_as {i : Nat} {x : Str} (hN : X.N.Nodup) (ha : SE X κ C a ma) (hi : X.N[i]? = some x := by rfl) (hx : Loc X.env.scope x := by first | exact Or.inl rfl | exact Or.inr rfl) (hs : swapsWith a (some (.Name x p2)) pos.line X.env = pure false := by rfl)
    (hf : X.fn x = true ∨ X.env.scope.names.lookup x = some .local := by first | exact .inl rfl | exact .inr rfl | assumption) : SS X κ C (.Assign [.Name x p2] a pos) (sAs (gN i) ma) :=
  SS.mk' (ps_set hN hi hx ha.pe hs hf) fun φ ev h σ H Dn S r p => by
    obtain ⟨d, h1, e1, p⟩ := PostS.bind p
    exact td_of S r e1 fun φ1 H1 v st S1 r1 q1 => p φ1 H1 _ st S1 (r1.set q1 i)
/-- target = a -/
theorem ss_at {tg : Expr} (hg : SG X κ tg g) (ha : SE X κ C a ma) (hs : swapsWithSole [tg] a pos.line X.env = pure false := by rfl) (hw : swappedStores [tg] a X.env = pure none := by rfl) (h1 : (assignEach [tg] X.env).map (·.2) = [assign tg X.env] := by rfl) : SS X κ C (.Assign [tg] a pos) (sAs g ma) :=
  SS.mk' (ps_asg ha.pe hg.pg hs hw h1) fun φ ev h σ H Dn S r p => by
    obtain ⟨d, h1, e1, p⟩ := PostS.bind p
    refine td_of S r e1 fun φ1 H1 v st S1 r1 q1 => ?_
    split at p
    · rename_i e' ge
      exact ⟨φ1, ev, h1, d, S1, r1, q1, e', ge, fun σ' r2 => p φ1 H1 σ' st S1 r2⟩
    · exact False.elim p
/-- x, y = a, b -/
theorem ss_pr {i j : Nat} {x y : Str} {kt k2 : Nat} {px py pt pt2 : Pos} (hc : X.calm = true) (hN : X.N.Nodup) (ha : SE X κ C a ma) (hb : SE X κ C b mb) (hi : X.N[i]? = some x := by rfl) (hj : X.N[j]? = some y := by rfl) (hij : i ≠ j := by decide)
    (hx : X.env.scope.names.lookup x = some .local := by rfl) (hy : X.env.scope.names.lookup y = some .local := by rfl)
    (hw : swappedStores [.Tuple [.Name x px, .Name y py] kt pt] (.Tuple [a, b] k2 pt2) X.env = pure (some [x, y]) := by rfl)
    (hs : swapsWithSole [.Tuple [.Name x px, .Name y py] kt pt] (.Tuple [a, b] k2 pt2) pos.line X.env = pure false := by rfl)
    (h1 : starEach [a, b] X.env = (false, eval a X.env) :: starEach [b] X.env := by rfl) (h2 : starEach [b] X.env = (false, eval b X.env) :: starEach [] X.env := by rfl) :
    SS X κ C (.Assign [.Tuple [.Name x px, .Name y py] kt pt] (.Tuple [a, b] k2 pt2) pos) (sPr i j ma mb) :=
  SS.mk' (ps_par hc hN hi hj hij hx hy (pa_cons ha.pe (pa_cons hb.pe pa_nil h2) h1) hw hs) fun φ ev h σ H Dn S r p => by
    obtain ⟨d, h1, e1, p⟩ := PostS.bind p
    obtain ⟨d2, h2, e2, p⟩ := PostS.bind p
    exact td_of S r e1 fun φ1 H1 v st S1 r1 q1 => td_of S1 r1 e2 fun φ2 H2 w st2 S2 r2 q2 => ⟨v, w, rfl, p φ2 H2 _ (st.trans st2) S2 ((r2.set (q1.step S1 st2) i).set q2 j)⟩
theorem ss_if {p q : List Stmt} (hc : ST X κ C c ta) (ha : SSs X κ C p ms) (hb : SSs X κ C q mr) : SS X κ C (.If c p q pos) (sIf ta ms mr) :=
  SS.mk' (ps_if hc.pt ha.pss hb.pss) fun φ ev h σ H Dn S r p => by
    obtain ⟨k, h1, e1, p⟩ := PostS.bind p
    refine tq_of S r e1 fun φ1 H1 st S1 r1 => ?_
    cases k with
    | true => rw [if_pos rfl] at p ⊢; exact ⟨φ1, ev, h1, S1, r1, p.step st⟩
    | false => rw [if_neg Bool.false_ne_true] at p ⊢; exact ⟨φ1, ev, h1, S1, r1, p.step st⟩
theorem ss_nil : SSs X κ C [] sSk := SSs.mk' pss_nil fun φ ev h σ H Dn S r p => p φ H σ Step.refl S r
theorem ss_one (h : SS X κ C st ms) : SSs X κ C [st] ms := ⟨pss_one h.ps⟩
theorem ss_cons (h1 : SS X κ C st ms) (h2 : SSs X κ C sts mr) : SSs X κ C (st :: sts) (sSq ms mr) :=
  SSs.mk' (pss_cons h1.ps h2.pss) fun φ ev h σ H Dn S r p => by
    refine ⟨φ, ev, h, S, r, ?_⟩
    obtain ⟨f, h1, e1, p⟩ := PostS.bind p
    rw [e1]
    cases f with
    | nx e2 => exact fun φ' H' σ' st S' r' => ⟨φ', e2, h1, S', r', p.step st⟩
    | rt d => exact p
    | bk e2 => exact p
    | ct e2 => exact p
end

/-! ### op= -/
def opIAdd : D → D → HP → R D := fun x y h => match x, y with
  | .int i, .int j => .ok (.int (i + j)) h
  | .str a, .str b => if a.length + b.length ≤ sizeLine then .ok (.str (a ++ b)) h else .no
  | _, _ => .no
section
variable {X : Cx} {κ : Nat → Addr} {C : Ctx} {a b c e o : Expr} {es : List Expr} {ma mb mc mo : ME} {ta tb : MT} {mas : MA} {pos p2 p3 apos : Pos} {g : Tg} {ms mr : MS} {st : Stmt} {sts : List Stmt}
theorem iod_add : OpR X (inplaceOp .Add) (rD X.K κ opIAdd) := by
  intro pins s σ H x y v u Q I rx ry ⟨φ, h, dx, dy, S, qx, qy, p⟩
  unfold opIAdd at p
  split at p
  · rw [RV.int_iff] at qx qy
    exact iop_add pins s σ H _ _ v u Q I rx ry ⟨_, _, qx, qy, p.of0 S (RV.int_iff.mpr rfl)⟩
  · split at p
    · rename_i hz
      rw [RV.str_iff] at qx qy
      exact iop_add_str pins s σ H _ _ v u Q I rx ry ⟨_, _, qx, qy, hz, p.of0 S (RV.str_iff.mpr rfl)⟩
    · exact False.elim p
  · exact False.elim p
theorem ss_au {i : Nat} {x : Str} {o : Operator} {op : D → D → HP → R D} (hN : X.N.Nodup) (ho : OpR X (inplaceOp o) (rD X.K κ op)) (ha : SE X κ C a ma) (hi : X.N[i]? = some x := by rfl) (hx : Loc X.env.scope x := by first | exact Or.inl rfl | exact Or.inr rfl)
    (hf : X.fn x = true ∨ X.env.scope.names.lookup x = some .local := by first | exact .inl rfl | exact .inr rfl | assumption) : SS X κ C (.AugAssign (.Name x p2) o a pos) (sAu i op ma) :=
  SS.mk' (ps_aug hN hi hx ha.pe (ti := rD X.K κ op) ho hf) fun φ ev h σ H Dn S r p => by
    unfold sAu at p
    split at p
    · rename_i d e
      obtain ⟨v, e1, q⟩ := r.get i d e
      obtain ⟨d2, h1, e2, p⟩ := PostS.bind p
      refine ⟨v, e1, td_of S r e2 fun φ1 H1 w st S1 r1 q1 => ⟨φ1, h1, d, d2, S1, q.step S st, q1, ?_⟩⟩
      obtain ⟨d3, h2, e3, p⟩ := PostS.bind p
      rw [e3]
      exact fun φ2 H2 z st2 S2 q2 => p φ2 H2 _ (st.trans st2) S2 ((r1.step S1 st2).set q2 i)
    · exact False.elim p

/-! ### stores -/
end
def stD : D → D → D → HP → R Unit := fun x y v h => match x with
  | .ref i => match h[i]? with
    | some (.lst ds) => match y with
      | .int k => match ixN ds.length k with
        | some j => .ok () (h.set i (.lst (ds.set j v)))
        | none => .no
      | _ => .no
    | some (.dic kvs) => match keyD y with
      | some k => if kvs.length < sizeLine then .ok () (h.set i (.dic (putKD kvs k v))) else .no
      | none => .no
    | some (.dct kvs) => match y with
      | .tup ds => match keysD ds with
        | some k => if kvs.length < sizeLine then .ok () (h.set i (.dct (putKD kvs k v))) else .no
        | none => .no
      | _ => .no
    | _ => .no
  | _ => .no
def rSt (K : PySem.W.Frag) (κ : Nat → Addr) (f : D → D → D → HP → R Unit) : V → V → V → Hp → (Hp → Prop) → Prop := fun o i v H Q => ∃ φ h x y d h', Sim K κ φ h H ∧ RV φ h.length H x o ∧ RV φ h.length H y i ∧ RV φ h.length H d v ∧ f x y d h = .ok () h' ∧
  ∀ φ' H', Step φ h H φ' h' H' → Sim K κ φ' h' H' → Q H'
section
variable {X : Cx} {κ : Nat → Addr} {C : Ctx} {a b c e o : Expr} {es : List Expr} {ma mb mc mo : ME} {ta tb : MT} {mas : MA} {pos p2 p3 apos : Pos} {g : Tg} {ms mr : MS} {st : Stmt} {sts : List Stmt}
theorem set_ok {K : PySem.W.Frag} {κ φ : Nat → Addr} {h : HP} {H : Hp} {i : Nat} {ob ob' : O} {u : HO} (S : Sim K κ φ h H) (hi : h[i]? = some ob) (m : ob.mu = true) (m' : ob'.mu = true)
    (new : ∀ st : Step φ h H φ (h.set i ob') (upd H (φ i) u), RO K κ φ (h.set i ob').length (upd H (φ i) u) (φ i) ob') {Q : Hp → Prop} (k : ∀ φ' H', Step φ h H φ' (h.set i ob') H' → Sim K κ φ' (h.set i ob') H' → Q H') : Q (upd H (φ i) u) :=
  k φ _ (step_set S hi m m') (S.set hi m m' new)
section
variable {K : PySem.W.Frag} {κ φ : Nat → Addr} {h : HP} {H : Hp} {i c : Nat} {Q : Hp → Prop}
theorem set_okL {ds ds' : List D} {vs : List V} (S : Sim K κ φ h H) (hi : h[i]? = some (.lst ds)) (r : RVs φ h.length H ds' vs) (k : ∀ φ' H', Step φ h H φ' (h.set i (.lst ds')) H' → Sim K κ φ' (h.set i (.lst ds')) H' → Q H') : Q (upd H (φ i) (.lst vs)) :=
  set_ok (ob' := .lst ds') S hi rfl rfl (fun st => ⟨vs, upd_same, r.step S st⟩) k
theorem set_okK {ds ds' : List (Key × D)} {vs : List (Key × V)} (S : Sim K κ φ h H) (hi : h[i]? = some (.dic ds)) (r : RKs φ h.length H ds' vs) (k : ∀ φ' H', Step φ h H φ' (h.set i (.dic ds')) H' → Sim K κ φ' (h.set i (.dic ds')) H' → Q H') : Q (upd H (φ i) (.dK vs)) :=
  set_ok (ob' := .dic ds') S hi rfl rfl (fun st => ⟨vs, upd_same, r.step S st⟩) k
theorem set_okT {ds ds' : List (List Key × D)} {vs : List (List Key × V)} (S : Sim K κ φ h H) (hi : h[i]? = some (.dct ds)) (r : RKs φ h.length H ds' vs) (k : ∀ φ' H', Step φ h H φ' (h.set i (.dct ds')) H' → Sim K κ φ' (h.set i (.dct ds')) H' → Q H') : Q (upd H (φ i) (.dT vs)) :=
  set_ok (ob' := .dct ds') S hi rfl rfl (fun st => ⟨vs, upd_same, r.step S st⟩) k
theorem set_okI {ds ds' : List (Str × D)} {vs : List (Str × V)} {dx : Addr} (S : Sim K κ φ h H) (hi : h[i]? = some (.ins c ds)) (r : RKs φ h.length H ds' vs) (k : ∀ φ' H', Step φ h H φ' (h.set i (.ins c ds')) H' → Sim K κ φ' (h.set i (.ins c ds')) H' → Q H') : Q (upd H (φ i) (.ins (κ c) dx vs)) :=
  set_ok (ob' := .ins c ds') S hi rfl rfl (fun st => ⟨dx, vs, upd_same, r.step S st⟩) k
end
theorem pset (hu : X.A.units + 1 < cLine) : PSet X (rSt X.K κ stD) := by
  intro pins s σ H o i v ov iv u Q I ro ri rv ⟨φ, h, x, y, d, h', S, qx, qy, qd, e, k⟩
  unfold stD at e
  split at e
  · rename_i i'
    rw [RV.ref_iff] at qx
    obtain ⟨hi, rfl⟩ := qx
    split at e
    · rename_i ds ei
      obtain ⟨vs, hv, r⟩ := S.lst ei
      split at e
      · split at e
        · rename_i kk j ej
          cases e
          rw [RV.int_iff] at qy
          exact set_list pins s σ H _ _ _ ov iv u Q I ro ri rv ⟨_, vs, _, j, rfl, qy, hv, by rw [r.len]; exact ej, set_okL S ei (r.set j qd) k⟩
        · cases e
      · cases e
    · rename_i kvs ei
      obtain ⟨us, hd, r⟩ := S.dic ei
      split at e
      · rename_i kk ek
        split at e
        · rename_i hz
          cases e
          have ky := key_of' ek qy
          subst ky
          obtain rfl : ov = Value.ref _ := ro
          exact d_setItem hu I (DPut.k hd (by rw [r.len]; exact hz)) ri rv fun s' I' => ⟨_, I', set_okK S ei (r.put kk qd) k⟩
        · cases e
      · cases e
    · rename_i kvs ei
      obtain ⟨us, hd, r⟩ := S.dct ei
      split at e
      · split at e
        · rename_i kk ek
          split at e
          · rename_i hz
            cases e
            rw [RV.tup_iff] at qy
            obtain ⟨p, vs, rfl, hp, rr⟩ := qy
            have ky := keys_of' ek rr
            subst ky
            obtain rfl : ov = Value.ref _ := ro
            exact d_setItem hu I (DPut.t hd hp (by rw [r.len]; exact hz)) ri rv fun s' I' => ⟨_, I', set_okT S ei (r.put kk qd) k⟩
          · cases e
        · cases e
      · cases e
    · cases e
  · cases e
/-- o[i] = a -/
theorem ss_st {i : Expr} {mi : ME} (hu : X.A.units + 1 < cLine) (ho : SE X κ C o mo) (hi : SE X κ C i mi) (ha : SE X κ C a ma)
    (has : ∀ v, assign (.Subscript o i p2) X.env v = (do { let ov ← holding [v] (eval o X.env); let iv ← holding [v, ov] (eval i X.env); standAt p2; holding [v, ov, iv] (setItem ov iv v); release [v, ov, iv] [] }) := by intro _; rfl)
    (hs : swapsWithSole [.Subscript o i p2] a pos.line X.env = pure false := by rfl) (hw : swappedStores [.Subscript o i p2] a X.env = pure none := by rfl) : SS X κ C (.Assign [.Subscript o i p2] a pos) (sSt stD mo mi ma) :=
  SS.mk' (ps_asg ha.pe (pg_sub ho.pe hi.pe (pset (κ := κ) hu) has) hs hw) fun φ ev h σ H Dn S r p => by
    obtain ⟨d, h1, e1, p⟩ := PostS.bind p
    obtain ⟨x, h2, e2, p⟩ := PostS.bind p
    obtain ⟨y, h3, e3, p⟩ := PostS.bind p
    obtain ⟨_, h4, e4, p⟩ := PostS.bind p
    exact td_of S r e1 fun φ1 H1 v st S1 r1 q1 => td_of S1 r1 e2 fun φ2 H2 w st2 S2 r2 q2 => td_of S2 r2 e3 fun φ3 H3 z st3 S3 r3 q3 =>
      ⟨φ3, h3, x, y, d, h4, S3, q2.step S2 st3, q3, (q1.step S1 st2).step S2 st3, e4, fun φ4 H4 st4 S4 => p φ4 H4 σ (((st.trans st2).trans st3).trans st4) S4 (r3.step S3 st4)⟩
/-- o.f = a -/
theorem ss_fl {cs : List Nat} {f : Str} (hf : FldOk X.K κ cs f) (ho : SE X κ C o mo) (ha : SE X κ C a ma) (hs : swapsWith a (some (.Attribute o f p2)) pos.line X.env = pure false := by rfl) : SS X κ C (.Assign [.Attribute o f p2] a pos) (sFl cs mo f ma) :=
  SS.mk' (ps_fld ho.pe ha.pe hs) fun φ ev h σ H Dn S r p => by
    obtain ⟨d, h1, e1, p⟩ := PostS.bind p
    obtain ⟨x, h2, e2, p⟩ := PostS.bind p
    refine td_of S r e1 fun φ1 H1 v st S1 r1 q1 => td_of S1 r1 e2 fun φ2 H2 w st2 S2 r2 q2 => ?_
    split at p
    · rw [RV.ref_iff] at q2
      obtain ⟨hi, rfl⟩ := q2
      split at p
      · rename_i c fs ei
        split at p
        · rename_i hc
          obtain ⟨dx, us, hu, rr⟩ := S2.ins ei
          exact ⟨_, _, dx, us, rfl, hu, (hf c hc.1).1, (hf c hc.1).2, by rw [rr.len]; exact hc.2, set_okI (Q := fun H' => Dn.nx σ H') S2 ei (rr.putF (q1.step S1 st2)) fun φ' H' st3 S3 => p φ' H' σ ((st.trans st2).trans st3) S3 (r2.step S2 st3)⟩
        · exact False.elim p
      · exact False.elim p
    · exact False.elim p
end
end Z
/-! Z7: what is walked, loops, comprehensions, a def by its body. -/
namespace Z
open PySem L2 PyProof.Rows

def ItR (K : PySem.W.Frag) (κ φ1 : Nat → Addr) (h1 : HP) (H1 : Hp) (it : Itr) (J : It) : Prop := ∀ φ h H, Step φ1 h1 H1 φ h H → Sim K κ φ h H → ∀ j, (it j h = some none → J.stop j H) ∧
  ∀ d, it j h = some (some d) → J.go j H ∧ ∀ x H', J.yld j H x H' → ∃ φ', Step φ h H φ' h H' ∧ Sim K κ φ' h H' ∧ RV φ' h.length H' d x
def tI (K : PySem.W.Frag) (κ : Nat → Addr) (C : Ctx) (mi : MI) : TI := fun σ H R => ∃ φ e h, Sim K κ φ h H ∧ EnvR φ h.length H e σ ∧ ∃ it h1, mi C e h = .ok it h1 ∧
  ∀ φ1 H1 J, Step φ h H φ1 h1 H1 → Sim K κ φ1 h1 H1 → ItR K κ φ1 h1 H1 it J → R J H1
structure SI (X : Cx) (κ : Nat → Addr) (C : Ctx) (tg iter : Expr) (mi : MI) : Prop where
  pi : PI X tg iter (tI X.K κ C mi)
theorem itL_eq (i j : Nat) (h : HP) : itL i j h = (isL i h).map fun ds => ds[j]? := by
  unfold itL isL
  split <;> rfl
section
variable {K : PySem.W.Frag} {κ φ φ1 : Nat → Addr} {h h1 : HP} {H H1 : Hp} {it : Itr} {J : It}
/-- the item of the list at i, at turn j -/
theorem isL_at {i j : Nat} (hi : i < h1.length) (st : Step φ1 h1 H1 φ h H) (S : Sim K κ φ h H) : (itL i j h = some none → ∃ vs, SqL K H (φ1 i) vs ∧ vs.length ≤ j) ∧
    ∀ d, itL i j h = some (some d) → ∃ vs v, SqL K H (φ1 i) vs ∧ vs[j]? = some v ∧ RV φ h.length H d v := by
  have ea := st.agree i hi
  rw [itL_eq]
  cases e : isL i h with
  | none => exact ⟨fun z => by simp at z, fun d z => by simp at z⟩
  | some ds =>
    obtain ⟨vs, hs, r⟩ := S.isL e
    rw [ea] at hs
    refine ⟨fun z => ⟨vs, hs, ?_⟩, fun d z => ?_⟩
    · simp only [Option.map_some, Option.some.injEq] at z
      rw [r.len]
      exact List.getElem?_eq_none_iff.mp z
    · simp only [Option.map_some, Option.some.injEq] at z
      obtain ⟨v, ev, q⟩ := r.get z
      exact ⟨vs, v, hs, ev, q⟩
theorem itL_of {i : Nat} (hi : i < h1.length) : ItR K κ φ1 h1 H1 (itL i) (Itl K (φ1 i)) := by
  intro φ h H st S j
  obtain ⟨k1, k2⟩ := isL_at (j := j) hi st S
  refine ⟨k1, fun d e => ?_⟩
  obtain ⟨vs, v, hs, ev, q⟩ := k2 d e
  refine ⟨⟨vs, v, hs, ev⟩, fun x H' y => ?_⟩
  obtain ⟨e1, y⟩ := y
  subst e1
  have := y vs hs
  rw [ev] at this
  cases this
  exact ⟨φ, Step.refl, S, q⟩
theorem itT_of {ds : List D} {p : Addr} {vs : List V} (S1 : Sim K κ φ1 h1 H1) (hp : H1 p = some (.tup vs)) (r : RVs φ1 h1.length H1 ds vs) : ItR K κ φ1 h1 H1 (itT ds) (Itt K p) := by
  intro φ h H st S j
  have hp' := S1.tup st hp
  have r' := r.step S1 st
  refine ⟨fun z => ⟨vs, SqT.of hp', ?_⟩, fun d z => ?_⟩
  · simp only [itT, Option.some.injEq] at z
    rw [r.len]
    exact List.getElem?_eq_none_iff.mp z
  · simp only [itT, Option.some.injEq] at z
    obtain ⟨v, ev, q⟩ := r'.get z
    refine ⟨⟨vs, v, SqT.of hp', ev⟩, fun x H' y => ?_⟩
    obtain ⟨e1, y⟩ := y
    subst e1
    have := y vs (SqT.of hp')
    rw [ev] at this
    cases this
    exact ⟨φ, Step.refl, S, q⟩
theorem itS_of {z : Str} : ItR K κ φ1 h1 H1 (itS z) (Its z) := by
  intro φ h H st S j
  refine ⟨fun e => ?_, fun d e => ?_⟩
  · simp only [itS, Option.some.injEq, Option.map_eq_none_iff] at e
    exact Array.getElem?_eq_none_iff.mp e
  · simp only [itS, Option.some.injEq, Option.map_eq_some_iff] at e
    obtain ⟨c, ec, rfl⟩ := e
    refine ⟨(Array.getElem?_eq_some_iff.mp ec).1, fun x H' y => ?_⟩
    obtain ⟨e1, c', ec', rfl⟩ := y
    subst e1
    rw [ec] at ec'
    cases ec'
    exact ⟨φ, Step.refl, S, RV.str_iff.mpr rfl⟩
theorem itR_of {lo : Int} {n : Nat} : ItR K κ φ1 h1 H1 (itR lo n) (L2.Itr lo n) := by
  intro φ h H st S j
  unfold itR
  refine ⟨fun e => ?_, fun d e => ?_⟩
  · split at e
    · cases e
    · rename_i hj; exact Nat.not_lt.mp hj
  · split at e
    · rename_i hj
      cases e
      refine ⟨hj, fun x H' y => ?_⟩
      obtain ⟨e1, rfl⟩ := y
      subst e1
      exact ⟨φ, Step.refl, S, RV.int_iff.mpr rfl⟩
    · cases e
theorem itE_of {i : Nat} (hi : i < h1.length) : ItR K κ φ1 h1 H1 (itE i) (Ite K (φ1 i)) := by
  intro φ h H st S j
  obtain ⟨k1, k2⟩ := isL_at (j := j) hi st S
  unfold itE
  refine ⟨fun e => ?_, fun d e => ?_⟩
  · rw [Option.map_eq_some_iff] at e
    obtain ⟨o, e1, e2⟩ := e
    rw [Option.map_eq_none_iff] at e2
    subst e2
    exact k1 e1
  · rw [Option.map_eq_some_iff] at e
    obtain ⟨o, e1, e2⟩ := e
    rw [Option.map_eq_some_iff] at e2
    obtain ⟨d', rfl, rfl⟩ := e2
    obtain ⟨vs, v, hs, ev, q⟩ := k2 d' e1
    refine ⟨⟨vs, v, hs, ev⟩, fun x H' y => ?_⟩
    obtain ⟨T, w, rfl, hT, rfl, y⟩ := y
    have := y vs hs
    rw [ev] at this
    cases this
    have t := step_temp S (u := .tup [.int (j : Nat), v]) hT
    exact ⟨φ, t, S.temp hT, RV.tup_iff.mpr ⟨T, _, rfl, upd_same, RVs.cons (RV.int_iff.mpr rfl) (RVs.one (q.step S t))⟩⟩
theorem itZ_of {a b : Nat} (ha : a < h1.length) (hb : b < h1.length) : ItR K κ φ1 h1 H1 (itZ a b) (Itz K (φ1 a) (φ1 b)) := by
  intro φ h H st S j
  obtain ⟨k1, k2⟩ := isL_at (j := j) ha st S
  obtain ⟨l1, l2⟩ := isL_at (j := j) hb st S
  unfold itZ
  refine ⟨fun e => ?_, fun d e => ?_⟩
  · split at e
    · cases e
    · rename_i r1 r2 hno e1 e2
      cases r1 with
      | none =>
        obtain ⟨vs, hs, hl⟩ := k1 e1
        cases r2 with
        | none =>
          obtain ⟨us, hu, hl2⟩ := l1 e2
          exact ⟨vs, us, hs, hu, .inl hl⟩
        | some y =>
          obtain ⟨us, v, hu, _⟩ := l2 y e2
          exact ⟨vs, us, hs, hu, .inl hl⟩
      | some x =>
        obtain ⟨vs, v, hs, _⟩ := k2 x e1
        cases r2 with
        | none =>
          obtain ⟨us, hu, hl2⟩ := l1 e2
          exact ⟨vs, us, hs, hu, .inr hl2⟩
        | some y => exact absurd rfl (hno x y rfl)
    · cases e
  · split at e
    · rename_i x y e1 e2
      cases e
      obtain ⟨vs, v, hs, ev, q⟩ := k2 x e1
      obtain ⟨us, w, hu, ew, q2⟩ := l2 y e2
      refine ⟨⟨vs, us, v, w, hs, hu, ev, ew⟩, fun x H' y => ?_⟩
      obtain ⟨T, x1, y1, rfl, hT, rfl, z1, z2⟩ := y
      have t1 := z1 vs hs
      have t2 := z2 us hu
      rw [ev] at t1
      rw [ew] at t2
      cases t1
      cases t2
      have t := step_temp S (u := .tup [v, w]) hT
      exact ⟨φ, t, S.temp hT, RV.tup_iff.mpr ⟨T, _, rfl, upd_same, RVs.cons (q.step S t) (RVs.one (q2.step S t))⟩⟩
    · cases e
    · cases e
end
section
variable {X : Cx} {κ : Nat → Addr} {C : Ctx} {a b c e o tg : Expr} {es : List Expr} {ma mb mc mo : ME} {ta tb : MT} {mas : MA} {pos p2 p3 apos tpos : Pos} {g : Tg} {ms mr : MS} {st : Stmt} {sts : List Stmt}
theorem Rok {α β : Type} {r : R α} {f : α → HP → R β} {b : β} {h2 : HP} (e : r.bind f = .ok b h2) : ∃ a h1, r = .ok a h1 ∧ f a h1 = .ok b h2 := by
  cases r with
  | ok a h1 => exact ⟨a, h1, rfl, e⟩
  | ex _ _ _ => cases e
  | no => cases e
/-- for .. in a -/
theorem si_a (ha : SE X κ C a ma) : SI X κ C tg a (iA ma) := by
  refine ⟨⟨fun pins s σ H R I ⟨φ, ev, h, S, r, it, h1, e, k⟩ => ?_⟩⟩
  obtain ⟨dx, h1', e1, e⟩ := Rok e
  split at e
  · split at e
    · rename_i i _ ds el
      cases e
      refine (pi_list (tg := tg) ha.pe).run pins s σ H R I (td_of S r e1 fun φ1 H1 v st S1 r1 q1 => ?_)
      rw [RV.ref_iff] at q1
      obtain ⟨hi, rfl⟩ := q1
      obtain ⟨vs, hs, _⟩ := S1.isL el
      exact ⟨_, rfl, ⟨vs, hs⟩, k φ1 H1 _ st S1 (itL_of hi)⟩
    · cases e
  · cases e
    refine (pi_tup (tg := tg) ha.pe).run pins s σ H R I (td_of S r e1 fun φ1 H1 v st S1 r1 q1 => ?_)
    rw [RV.tup_iff] at q1
    obtain ⟨p, vs, rfl, hp, q1⟩ := q1
    exact ⟨_, rfl, ⟨vs, SqT.of hp⟩, k φ1 H1 _ st S1 (itT_of S1 hp q1)⟩
  · cases e
    refine (pi_str (tg := tg) ha.pe).run pins s σ H R I (td_of S r e1 fun φ1 H1 v st S1 r1 q1 => ?_)
    rw [RV.str_iff] at q1
    exact ⟨_, q1, k φ1 H1 _ st S1 itS_of⟩
  · cases e
theorem si_r1 (hm : X.mg "range" = none) (ha : SE X κ C a ma) (hg : Gl X "range" := by rfl) (hs : starEach [a] X.env = [(false, eval a X.env)] := by rfl) : SI X κ C tg (.Call (.Name "range" p2) [a] [] pos) (iR1 ma) := by
  refine ⟨⟨fun pins s σ H R I ⟨φ, ev, h, S, r, it, h1, e, k⟩ => ?_⟩⟩
  obtain ⟨dx, h1', e1, e⟩ := Rok e
  split at e
  · split at e
    · rename_i n hn
      cases e
      refine (pi_range1 (tg := tg) hg hm (pa_cons ha.pe pa_nil hs) hs).run pins s σ H R I (td_of S r e1 fun φ1 H1 v st S1 r1 q1 => ?_)
      rw [RV.int_iff] at q1
      subst q1
      exact ⟨_, rfl, hn.1, hn.2, k φ1 H1 _ st S1 itR_of⟩
    · cases e
  · cases e
theorem si_en {elts : List Expr} {kk : Nat} (hm : X.mg "enumerate" = none) (ha : SE X κ C a ma) (hg : Gl X "enumerate" := by rfl) (hs : starEach [a] X.env = [(false, eval a X.env)] := by rfl) : SI X κ C (.Tuple elts kk tpos) (.Call (.Name "enumerate" p2) [a] [] pos) (iEn ma) := by
  refine ⟨⟨fun pins s σ H R I ⟨φ, ev, h, S, r, it, h1, e, k⟩ => ?_⟩⟩
  obtain ⟨dx, h1', e1, e⟩ := Rok e
  split at e
  · split at e
    · rename_i i _ ds el
      cases e
      refine (pi_enum hg hm (pa_cons ha.pe pa_nil hs) hs).run pins s σ H R I (td_of S r e1 fun φ1 H1 v st S1 r1 q1 => ?_)
      rw [RV.ref_iff] at q1
      obtain ⟨hi, rfl⟩ := q1
      obtain ⟨vs, hs, _⟩ := S1.isL el
      exact ⟨_, vs, rfl, hs, k φ1 H1 _ st S1 (itE_of hi)⟩
    · cases e
  · cases e
theorem si_zp {elts : List Expr} {kk : Nat} (hm : X.mg "zip" = none) (ha : SE X κ C a ma) (hb : SE X κ C b mb) (hg : Gl X "zip" := by rfl) (hs : starEach [a, b] X.env = (false, eval a X.env) :: starEach [b] X.env := by rfl) (hs2 : starEach [b] X.env = [(false, eval b X.env)] := by rfl)
    (hpl : (backTo pos (starEach [b] X.env)).any (·.1) = false := by rfl) : SI X κ C (.Tuple elts kk tpos) (.Call (.Name "zip" p2) [a, b] [] pos) (iZp ma mb) := by
  refine ⟨⟨fun pins s σ H R I ⟨φ, ev, h, S, r, it, h1, e, k⟩ => ?_⟩⟩
  obtain ⟨dx, h1', e1, e⟩ := Rok e
  obtain ⟨dy, h2', e2, e⟩ := Rok e
  split at e
  · split at e
    · rename_i i j _ _ xs ys ex ey
      cases e
      refine (pi_zip hg hm (pa_cons ha.pe (pa_cons hb.pe pa_nil hs2) hs) hs hpl).run pins s σ H R I (td_of S r e1 fun φ1 H1 v st S1 r1 q1 => td_of S1 r1 e2 fun φ2 H2 w st2 S2 r2 q2 => ?_)
      have q3 := q1.step S1 st2
      rw [RV.ref_iff] at q2 q3
      obtain ⟨hi, rfl⟩ := q3
      obtain ⟨hj, rfl⟩ := q2
      obtain ⟨vs, hvs, _⟩ := S2.isL ex
      obtain ⟨us, hus, _⟩ := S2.isL ey
      exact ⟨_, _, vs, us, rfl, hvs, hus, k φ2 H2 _ (st.trans st2) S2 (itZ_of hi hj)⟩
    · cases e
  · cases e
/-! ### loops -/
theorem PostS.loop {K : PySem.W.Frag} {φ φ1 : Nat → Addr} {h h1 : HP} {H H1 : Hp} {r : R FL} {Dn : Ends} {N : L2.St → Hp → Prop} {f : FL → HP → R FL} (p : PostS K κ φ h H (r.bind f) Dn) (st : Step φ h H φ1 h1 H1)
    (fn : ∀ e2 h2, PostS K κ φ h H (f (.nx e2) h2) Dn → ∀ φ' H' σ', Step φ1 h1 H1 φ' h2 H' → Sim K κ φ' h2 H' → EnvR φ' h2.length H' e2 σ' → N σ' H')
    (fc : ∀ e2 h2, PostS K κ φ h H (f (.ct e2) h2) Dn → ∀ φ' H' σ', Step φ1 h1 H1 φ' h2 H' → Sim K κ φ' h2 H' → EnvR φ' h2.length H' e2 σ' → N σ' H')
    (fb : ∀ e2 h2, f (.bk e2) h2 = .ok (.nx e2) h2) (fr : ∀ d h2, f (.rt d) h2 = .ok (.rt d) h2) : PostS K κ φ1 h1 H1 r { Dn with nx := N, ct := N, bk := Dn.nx } := by
  cases r with
  | ok x h2 =>
    have p : PostS K κ φ h H (f x h2) Dn := p
    cases x with
    | nx e2 => exact fun φ' H' σ' => fn e2 h2 p φ' H' σ'
    | ct e2 => exact fun φ' H' σ' => fc e2 h2 p φ' H' σ'
    | bk e2 =>
      rw [fb] at p
      exact fun φ' H' σ' st' S' r' => p φ' H' σ' (st.trans st') S' r'
    | rt d =>
      rw [fr] at p
      exact fun φ' H' v st' S' r' => p φ' H' v (st.trans st') S' r'
  | ex _ _ _ => exact False.elim p
  | no => exact False.elim p
theorem ss_fo {body : List Stmt} {mi : MI} (hc : X.calm = true) (hi : SI X κ C tg e mi) (hg : SG X κ tg g) (hb : SSs X κ C body ms) (hp : PassesOwn (model X.prog X.w) X.A X.env X.xe := by exact PassesOwn.never)
    (hs : ∀ x, foldedSetIterable e X.env x = pure x := by intro _; rfl) : SS X κ C (.For tg e body [] pos) (sFo g mi ms) :=
  SS.mk' (ps_for hp hc hi.pi hg.pg hb.pss hs) fun φ ev h σ H Dn S r p => by
    obtain ⟨it, h1, e1, p⟩ := PostS.bind p
    refine ⟨φ, ev, h, S, r, it, h1, e1, fun φ1 H1 J st S1 hJ => ?_⟩
    refine ⟨fun j m σ' H' => ∃ φ' e' h', Step φ1 h1 H1 φ' h' H' ∧ Sim X.K κ φ' h' H' ∧ EnvR φ' h'.length H' e' σ' ∧ PostS X.K κ φ' h' H' (forN it g ms m j C e' h') Dn,
      ⟨C.fuel, φ1, ev, h1, Step.refl, S1, r.step S st, p.step st⟩, ?_⟩
    rintro j m σ' H' ⟨φ', e', h', st', S', r', p'⟩
    cases m with
    | zero => exact False.elim p'
    | succ m =>
      obtain ⟨k1, k2⟩ := hJ φ' h' H' st' S' j
      simp only [forN] at p'
      cases ei : it j h' with
      | none => rw [ei] at p'; exact False.elim p'
      | some o =>
        rw [ei] at p'
        cases o with
        | none => exact .inl ⟨k1 ei, p' φ' H' σ' Step.refl S' r'⟩
        | some d =>
          obtain ⟨g1, g2⟩ := k2 d ei
          simp only at p'
          refine .inr ⟨g1, fun σ2 H2 => ∃ φ2 e2 h2, Step φ1 h1 H1 φ2 h2 H2 ∧ Sim X.K κ φ2 h2 H2 ∧ EnvR φ2 h2.length H2 e2 σ2 ∧ PostS X.K κ φ2 h2 H2 (forN it g ms m (j + 1) C e2 h2) Dn, fun σ2 H2 n => ⟨m, Nat.lt_succ_self m, n⟩, fun x H2 y => ?_⟩
          obtain ⟨φ2, st2, S2, q2⟩ := g2 x H2 y
          cases eg : g e' d with
          | none => rw [eg] at p'; exact False.elim p'
          | some e2 =>
            rw [eg] at p'
            refine ⟨φ2, e', h', d, S2, r'.step S' st2, q2, e2, eg, fun σ3 r3 => ⟨φ2, e2, h', S2, r3, ?_⟩⟩
            have p2 := PostS.step p' st2
            have nxt : ∀ (e3 : Ev) (h3 : HP), PostS X.K κ φ2 h' H2 (forN it g ms m (j + 1) C e3 h3) Dn → ∀ φ' H' σ', Step φ2 h' H2 φ' h3 H' → Sim X.K κ φ' h3 H' → EnvR φ' h3.length H' e3 σ' →
                ∃ φ2 e2 h2, Step φ1 h1 H1 φ2 h2 H' ∧ Sim X.K κ φ2 h2 H' ∧ EnvR φ2 h2.length H' e2 σ' ∧ PostS X.K κ φ2 h2 H' (forN it g ms m (j + 1) C e2 h2) Dn := fun e3 h3 q φ4 H4 σ4 st4 S4 r4 =>
              ⟨φ4, e3, h3, (st'.trans st2).trans st4, S4, r4, q.step st4⟩
            exact PostS.loop p2 Step.refl nxt nxt (fun _ _ => rfl) (fun _ _ => rfl)
theorem ss_wh {body : List Stmt} (hc : ST X κ C c ta) (hb : SSs X κ C body ms) (hp : PassesOwn (model X.prog X.w) X.A X.env X.xe := by exact PassesOwn.never) : SS X κ C (.While c body [] pos) (sWh ta ms) :=
  SS.mk' (ps_while hp hc.pt hb.pss) fun φ ev h σ H Dn S r p => by
    refine ⟨fun m σ' H' => ∃ φ' e' h', Step φ h H φ' h' H' ∧ Sim X.K κ φ' h' H' ∧ EnvR φ' h'.length H' e' σ' ∧ PostS X.K κ φ' h' H' (whileN ta ms m C e' h') Dn, ⟨C.fuel, φ, ev, h, Step.refl, S, r, p⟩, ?_⟩
    rintro m σ' H' ⟨φ', e', h', st', S', r', p'⟩
    cases m with
    | zero => exact False.elim p'
    | succ m =>
      obtain ⟨b, h1, e1, p'⟩ := PostS.bind p'
      refine tq_of S' r' e1 fun φ1 H1 st1 S1 r1 => ?_
      cases b with
      | false =>
        rw [if_neg Bool.false_ne_true] at p' ⊢
        exact p' φ1 H1 σ' st1 S1 r1
      | true =>
        rw [if_pos rfl] at p' ⊢
        refine ⟨fun σ2 H2 => ∃ φ2 e2 h2, Step φ h H φ2 h2 H2 ∧ Sim X.K κ φ2 h2 H2 ∧ EnvR φ2 h2.length H2 e2 σ2 ∧ PostS X.K κ φ2 h2 H2 (whileN ta ms m C e2 h2) Dn, fun σ2 H2 n => ⟨m, Nat.lt_succ_self m, n⟩, φ1, e', h1, S1, r1, ?_⟩
        have p2 := PostS.step p' st1
        have nxt : ∀ (e3 : Ev) (h3 : HP), PostS X.K κ φ1 h1 H1 (whileN ta ms m C e3 h3) Dn → ∀ φ' H' σ', Step φ1 h1 H1 φ' h3 H' → Sim X.K κ φ' h3 H' → EnvR φ' h3.length H' e3 σ' →
            ∃ φ2 e2 h2, Step φ h H φ2 h2 H' ∧ Sim X.K κ φ2 h2 H' ∧ EnvR φ2 h2.length H' e2 σ' ∧ PostS X.K κ φ2 h2 H' (whileN ta ms m C e2 h2) Dn := fun e3 h3 q φ4 H4 σ4 st4 S4 r4 =>
          ⟨φ4, e3, h3, (st'.trans st1).trans st4, S4, r4, q.step st4⟩
        exact PostS.loop p2 Step.refl nxt nxt (fun _ _ => rfl) (fun _ _ => rfl)
end

/-! ### a def by its body -/
/-- a def of the text behind the top, with whole numbers as defaults -/
abbrev FunZ (K : PySem.W.Frag) (x qual : Str) (st : Stmt) (dfs : List Int) (f : Addr) (fd : FuncData) : Prop := FunD K x qual (defArgs st) (defBody st) (defScope st) (dfs.map V.int) [] f fd
theorem fnOk_of {P : Program} {w : World} {K : PySem.W.Frag} {mg : Str → Option Value} {base : Heap} {κ : Nat → Addr} {C : Ctx} {np nn : Nat} {body : MS} {x qual : Str} {st : Stmt} {f : Addr} {fd : FuncData} {N ps : List Str} {k : Nat} {dfs : List Int} (F : FunZ K x qual st dfs f fd) (S : FnScope N ps (defScope st))
    (hp : ps.length = np) (hn : N.length = nn)
    (hbody : ∀ (cdv : Value) (A : Around) (outer : List Env) (s : Shared) (H : Hp) (E : XK), Room k (A.deeper (envOfC qual (defScope st) s.heap.objs.size f cdv)) →
      SSs (cxOf CX0 P w K mg base N qual (defScope st) f cdv A outer s H E).nox κ C (defBody st) body) : FnOk P w K mg base CX0 (k + 1) f fd ps (spD K κ ps.length (runFn C ⟨np, nn, body⟩)) := by
  refine FunD.ok F S (fun vs H Q E h => h.1) fun cdv A outer s H vs Q E hr h => ?_
  obtain ⟨hl, φ, h, ds, Sm, r, p⟩ := h
  refine ⟨_, (hbody cdv A outer s H E hr).pss.nox, ?_⟩
  unfold runFn at p
  split at p
  · rename_i hd
    obtain ⟨fl, h1, e1, p⟩ := Post.bind p
    simp only at e1 p hd
    refine ⟨φ, ds.map some ++ List.replicate (nn - ds.length) none, h, Sm, ⟨?_, fun i d e => ?_⟩, ?_⟩
    · show (ds.map some ++ List.replicate (nn - ds.length) none).length = (L2.start N vs).length
      unfold L2.start
      simp only [List.length_append, List.length_map, List.length_replicate]
      rw [r.len, hn]
    · unfold L2.start
      by_cases hi : i < ds.length
      · rw [List.getElem?_append_left (by simpa using hi), List.getElem?_map] at e
        rw [List.getElem?_append_left (by simpa [r.len] using hi), List.getElem?_map]
        cases ed : ds[i]? with
        | none => rw [ed] at e; cases e
        | some d' =>
          rw [ed] at e
          cases e
          obtain ⟨v, ev, q⟩ := r.get ed
          exact ⟨v, by rw [ev]; rfl, q⟩
      · rw [List.getElem?_append_right (by simpa using hi), List.getElem?_replicate] at e
        split at e <;> cases e
    · rw [e1]
      cases fl with
      | nx e2 => exact fun φ' H' σ' st' S' r' => p φ' H' _ st' S' (RV.non_iff.mpr rfl)
      | rt d => exact fun φ' H' v st' S' r' => p φ' H' v st' S' r'
      | bk e2 => exact False.elim p
      | ct e2 => exact False.elim p
  · exact False.elim p
theorem ary_run {C : Ctx} {fn : Fn} : Ary fn.np (runFn C fn) := fun ds h hn => by unfold runFn; rw [if_neg hn]
end Z
/-! Z8: comprehensions. -/
namespace Z
open PySem L2 PyProof.Rows

/-! ### values in a heap that grew elsewhere -/
section
variable {K : PySem.W.Frag} {κ φ φ' φ1 : Nat → Addr} {h h' h1 : HP} {H H' H1 : Hp} {n m : Nat}
mutual
theorem RV.gen (a : ∀ i, i < n → φ' i = φ i) (l : n ≤ m) (t : ∀ p vs, H p = some (.tup vs) → H' p = some (.tup vs)) : ∀ {d : D} {v : V}, RV φ n H d v → RV φ' m H' d v
  | .non, v, q => by simpa only [RV] using q
  | .bl b, v, q => by simpa only [RV] using q
  | .int i, v, q => by simpa only [RV] using q
  | .str x, v, q => by simpa only [RV] using q
  | .ref i, v, q => by
    simp only [RV] at q ⊢
    exact ⟨Nat.lt_of_lt_of_le q.1 l, by rw [a i q.1]; exact q.2⟩
  | .tup ds, v, q => by
    simp only [RV] at q ⊢
    obtain ⟨p, vs, e, e2, r⟩ := q
    exact ⟨p, vs, e, t p vs e2, RVs.gen a l t r⟩
theorem RVs.gen (a : ∀ i, i < n → φ' i = φ i) (l : n ≤ m) (t : ∀ p vs, H p = some (.tup vs) → H' p = some (.tup vs)) : ∀ {ds : List D} {vs : List V}, RVs φ n H ds vs → RVs φ' m H' ds vs
  | [], vs, q => by simpa only [RVs] using q
  | d :: ds, vs, q => by
    simp only [RVs] at q ⊢
    obtain ⟨v, r, e, q1, q2⟩ := q
    exact ⟨v, r, e, RV.gen a l t q1, RVs.gen a l t q2⟩
end
theorem RKs.gen {κ' : Type} (a : ∀ i, i < n → φ' i = φ i) (l : n ≤ m) (t : ∀ p vs, H p = some (.tup vs) → H' p = some (.tup vs)) : ∀ {ds : List (κ' × D)} {vs : List (κ' × V)}, RKs φ n H ds vs → RKs φ' m H' ds vs
  | [], vs, q => by simpa only [RKs] using q
  | (k, d) :: ds, vs, q => by
    simp only [RKs] at q ⊢
    obtain ⟨v, r, e, q1, q2⟩ := q
    exact ⟨v, r, e, RV.gen a l t q1, RKs.gen a l t q2⟩
theorem EnvR.gen (a : ∀ i, i < n → φ' i = φ i) (l : n ≤ m) (t : ∀ p vs, H p = some (.tup vs) → H' p = some (.tup vs)) {e : Ev} {σ : L2.St} (r : EnvR φ n H e σ) : EnvR φ' m H' e σ :=
  ⟨r.len, fun i d q => by obtain ⟨v, e, rv⟩ := r.get i d q; exact ⟨v, e, rv.gen a l t⟩⟩
/-- an object at an address that holds the same -/
theorem RO.gen {b : Addr} {o : O} (a : ∀ i, i < n → φ' i = φ i) (l : n ≤ m) (t : ∀ p vs, H p = some (.tup vs) → H' p = some (.tup vs)) (e : ∀ u, H b = some u → H' b = some u) (q : RO K κ φ n H b o) : RO K κ φ' m H' b o := by
  cases o with
  | lst ds => obtain ⟨vs, e1, r⟩ := q; exact ⟨vs, e _ e1, r.gen a l t⟩
  | fz ds =>
    obtain ⟨vs, e1, r⟩ := q
    refine ⟨vs, ?_, r.gen a l t⟩
    rcases e1 with ⟨o, e1⟩ | e1
    · exact .inl ⟨o, e _ e1⟩
    · exact .inr e1
  | dic ds => obtain ⟨vs, e1, r⟩ := q; exact ⟨vs, e _ e1, r.gen a l t⟩
  | dct ds => obtain ⟨vs, e1, r⟩ := q; exact ⟨vs, e _ e1, r.gen a l t⟩
  | ins c fs => obtain ⟨dx, vs, e1, r⟩ := q; exact ⟨dx, vs, e _ e1, r.gen a l t⟩
/-- a list that the evaluator does not know is changed -/
theorem tup_off {b : Addr} {l : List V} {u : HO} (hb : H b = some (.lst l)) : ∀ p vs, H p = some (.tup vs) → upd H b u p = some (.tup vs) := fun p vs e => by
  by_cases z : p = b
  · subst z; rw [hb] at e; cases e
  · rw [upd_ne z]; exact e
theorem Sim.off (S : Sim K κ φ h H) {b : Addr} {l l' : List V} (hb : H b = some (.lst l)) (no : ¬ Own φ h b) : Sim K κ φ h (upd H b (.lst l')) := by
  refine ⟨S.inj, fun i o hi => ?_⟩
  by_cases m : o.mu = true
  · have ne : φ i ≠ b := fun z => no ⟨i, o, hi, m, z⟩
    exact RO.gen (fun _ _ => rfl) (Nat.le_refl _) (tup_off hb) (fun u e => by rw [upd_ne ne]; exact e) (S.obj i o hi)
  · cases o with
    | fz ds =>
      obtain ⟨vs, e1, r⟩ := S.obj i _ hi
      refine ⟨vs, ?_, r.gen (fun _ _ => rfl) (Nat.le_refl _) (tup_off hb)⟩
      rcases e1 with ⟨o, e1⟩ | e1
      · refine .inl ⟨o, ?_⟩
        by_cases z : φ i = b
        · rw [z, hb] at e1; cases e1
        · rw [upd_ne z]; exact e1
      · exact .inr e1
    | lst _ => exact absurd rfl m
    | dic _ => exact absurd rfl m
    | dct _ => exact absurd rfl m
    | ins _ _ => exact absurd rfl m
/-- .. becomes one of the evaluator's -/
theorem Sim.adopt (S : Sim K κ φ h H) {b : Addr} {ds : List D} {l : List V} (hb : H b = some (.lst l)) (no : ¬ Own φ h b) (r : RVs φ h.length H ds l) : Sim K κ (ext φ h.length b) (h ++ [.lst ds]) H := by
  have a : ∀ i, i < h.length → ext φ h.length b i = φ i := fun i hi => ext_lt hi
  have le : h.length ≤ (h ++ [O.lst ds]).length := by simp
  refine ⟨fun i j oi oj hi hj mi mj e => ?_, fun i o' hi => ?_⟩
  · rcases get_snoc hi with ⟨li, hi2⟩ | ⟨ei, eoi⟩ <;> rcases get_snoc hj with ⟨lj, hj2⟩ | ⟨ej, eoj⟩
    · rw [ext_lt li, ext_lt lj] at e
      exact S.inj i j oi oj hi2 hj2 mi mj e
    · rw [ext_lt li, ej, ext_at] at e
      exact absurd ⟨i, oi, hi2, mi, e⟩ no
    · rw [ext_lt lj, ei, ext_at] at e
      exact absurd ⟨j, oj, hj2, mj, e.symm⟩ no
    · rw [ei, ej]
  · rcases get_snoc hi with ⟨li, hi⟩ | ⟨rfl, rfl⟩
    · rw [ext_lt li]
      exact RO.gen a le (fun _ _ e => e) (fun _ e => e) (S.obj i o' hi)
    · rw [ext_at]
      exact ⟨l, hb, r.gen a le fun _ _ e => e⟩
end
/-! ### slots forgotten -/
theorem wipe_get (σ : L2.St) : ∀ (vs : List Nat) (j : Nat), (wipe σ vs)[j]? = if j ∈ vs then (σ[j]?).map (fun _ => none) else σ[j]?
  | [], j => by simp [wipe]
  | v :: vs, j => by
    show ((wipe σ vs).set v none)[j]? = _
    rw [List.getElem?_set, wipe_get σ vs j, wipe_length]
    by_cases hv : v = j
    · subst hv
      by_cases hl : v < σ.length
      · simp [hl]
      · simp [hl]
    · have : ¬ j = v := fun z => hv z.symm
      simp [hv, this]
theorem wipe_set {σ : L2.St} {vs : List Nat} {i : Nat} {x : Option V} (hi : i ∈ vs) : wipe (σ.set i x) vs = wipe σ vs := by
  apply List.ext_getElem?
  intro j
  rw [wipe_get, wipe_get]
  by_cases hj : j ∈ vs
  · rw [if_pos hj, if_pos hj, List.getElem?_set]
    by_cases e : i = j
    · subst e
      by_cases hl : i < σ.length
      · simp [hl]
      · simp [hl]
    · simp [e]
  · rw [if_neg hj, if_neg hj, List.getElem?_set_ne (fun e => hj (by rw [← e]; exact hi))]
theorem wipe_wipe {σ : L2.St} {vs : List Nat} : wipe (wipe σ vs) vs = wipe σ vs := by
  apply List.ext_getElem?
  intro j
  rw [wipe_get, wipe_get]
  by_cases hj : j ∈ vs
  · rw [if_pos hj, if_pos hj]
    cases σ[j]? <;> rfl
  · rw [if_neg hj, if_neg hj]
/-- a target of a block's own names -/
def GW (K : PySem.W.Frag) (vs : List Nat) (tg : TG) (g : Tg) : Prop := ∀ (φ : Nat → Addr) (n : Nat) (H : Hp) (e e' : Ev) (σ : L2.St) (d : D) (v : V) (Q : L2.St → Hp → Prop), EnvR φ n H e σ → RV φ n H d v → g e d = some e' →
  (∀ σ', EnvR φ n H e' σ' → wipe σ' vs = wipe σ vs → Q σ' H) → tg v σ H Q
theorem gw_name {K : PySem.W.Frag} {vs : List Nat} {i : Nat} (hi : i ∈ vs) : GW K vs (gName i) (gN i) := by
  intro φ n H e e' σ d v Q r q ge k
  unfold gN at ge
  cases ge
  exact k _ (r.set q i) (wipe_set hi)
theorem gsN_w {φ : Nat → Addr} {H : Hp} {n : Nat} {vs : List Nat} {Q : L2.St → Hp → Prop} : ∀ {is : List Nat} {ds : List D} {us : List V} {e : Ev} {σ : L2.St}, (∀ i ∈ is, i ∈ vs) → ds.length = is.length → EnvR φ n H e σ → RVs φ n H ds us →
    (∀ σ', EnvR φ n H ((is.zip ds).foldl (fun e p => e.set p.1 (some p.2)) e) σ' → wipe σ' vs = wipe σ vs → Q σ' H) → gsN is us σ H Q
  | [], [], us, e, σ, _, _, r, q, k => by
    simp only [RVs] at q
    exact ⟨q, k σ r rfl⟩
  | i :: is, d :: ds, us, e, σ, hv, hl, r, q, k => by
    simp only [RVs] at q
    obtain ⟨v, vr, rfl, q1, q2⟩ := q
    exact ⟨v, vr, rfl, gsN_w (is := is) (ds := ds) (fun j hj => hv j (List.mem_cons_of_mem _ hj)) (by simpa using hl) (r.set q1 i) q2 fun σ' r' w => k σ' r' (w.trans (wipe_set (hv i (List.mem_cons_self ..))))⟩
  | [], _ :: _, _, _, _, _, hl, _, _, _ => by simp at hl
  | _ :: _, [], _, _, _, _, hl, _, _, _ => by simp at hl
theorem gw_tup {K : PySem.W.Frag} {vs is : List Nat} {n : Nat} (hi : ∀ i ∈ is, i ∈ vs) (hn : is.length = n) : GW K vs (gTup K n (gsN is)) (gT is) := by
  intro φ m H e e' σ d v Q r q ge k
  unfold gT at ge
  cases d with
  | tup ds =>
    simp only at ge
    split at ge
    · rename_i hl
      cases ge
      rw [RV.tup_iff] at q
      obtain ⟨p, us, rfl, hp, q⟩ := q
      exact ⟨p, us, rfl, SqT.of hp, by rw [q.len, hl, hn], gsN_w hi hl r q k⟩
    · cases ge
  | non => cases ge
  | bl _ => cases ge
  | int _ => cases ge
  | str _ => cases ge
  | ref _ => cases ge
/-! ### the core -/
section
variable {K : PySem.W.Frag} {κ φ φ1 : Nat → Addr} {h h1 hF : HP} {H H1 : Hp} {C : Ctx}
theorem lc_go {e : Ev} {σ : L2.St} {it : Itr} {J : It} {g : Tg} {tg : TG} {vs : List Nat} {mt : MT} {me : ME} {xs : List D} {Qd : Hp → Prop} {Dl : Addr} (S1 : Sim K κ φ1 h1 H1) (r1 : EnvR φ1 h1.length H1 e σ) (hJ : ItR K κ φ1 h1 H1 it J) (hg : GW K vs tg g)
    (hc : cmpN it g mt me (wipeE e vs) C C.fuel 0 [] h1 = .ok xs hF) (hD : H1 Dl = none)
    (kQ : ∀ φ' H', Step φ1 h1 H1 φ' (hF ++ [.lst xs]) H' → Sim K κ φ' (hF ++ [.lst xs]) H' → φ' hF.length = Dl → Qd H') :
    ∃ W : Nat → Nat → Hp → Prop, (∃ m, W 0 m (upd H1 Dl (.lst []))) ∧ ∀ i m H, W i m H →
      (J.stop i H ∧ Qd H) ∨ (J.go i H ∧ ∃ Nx : Hp → Prop, (∀ H', Nx H' → ∃ m', m' < m ∧ W (i + 1) m' H') ∧ ∀ x H', J.yld i H x H' → tg x (wipe σ vs) H' fun σ2 H2 => wipe σ2 vs = wipe σ vs ∧ tQ K κ C mt σ2 H2 fun b H3 =>
        if b = true then tD K κ C me σ2 H3 fun y H4 => ∃ acc, H4 Dl = some (.lst acc) ∧ acc.length < sizeLine ∧ Nx (upd H4 Dl (.lst (acc ++ [y]))) else Nx H3) := by
  let W : Nat → Nat → Hp → Prop := fun i m H => ∃ φ h acc l, Step φ1 h1 H1 φ h H ∧ Sim K κ φ h H ∧ H Dl = some (.lst l) ∧ RVs φ h.length H acc l ∧ EnvR φ h.length H (wipeE e vs) (wipe σ vs) ∧ ¬ Own φ h Dl ∧ cmpN it g mt me (wipeE e vs) C m i acc h = .ok xs hF
  refine ⟨W, ⟨C.fuel, φ1, h1, [], [], step_temp S1 hD, S1.temp hD, upd_same, RVs.nil_iff.mpr rfl, ?_, fun o => ?_, hc⟩, ?_⟩
  · exact (r1.step S1 (step_temp S1 hD)).wipe vs
  · obtain ⟨u, e', _⟩ := S1.own o
    rw [hD] at e'; cases e'
  rintro i m H ⟨φ, h, acc, l, st, S, hl, ra, re, no, hcm⟩
  have neD : ∀ b, H1 b ≠ none → b ≠ Dl := fun b hb z => hb (z ▸ hD)
  cases m with
  | zero => cases hcm
  | succ m =>
    obtain ⟨k1, k2⟩ := hJ φ h H st S i
    simp only [cmpN] at hcm
    cases ei : it i h with
    | none => rw [ei] at hcm; cases hcm
    | some o =>
      rw [ei] at hcm
      cases o with
      | none =>
        simp only [R.ok.injEq] at hcm
        obtain ⟨rfl, rfl⟩ := hcm
        refine .inl ⟨k1 ei, kQ (ext φ h.length Dl) H ⟨?_, fun j hj => ?_, fun b hb ob => ?_⟩ (S.adopt hl no ra) ext_at⟩
        · have := st.len; simp; omega
        · rw [ext_lt (Nat.lt_of_lt_of_le hj st.len)]; exact st.agree j hj
        · obtain ⟨e1, o1⟩ := st.frame b hb ob
          refine ⟨e1, fun z => ?_⟩
          obtain ⟨j, oj, hj, mj, rfl⟩ := z
          rcases get_snoc hj with ⟨lj, hj⟩ | ⟨rfl, rfl⟩
          · exact o1 ⟨j, oj, hj, mj, (ext_lt lj).symm⟩
          · exact neD _ hb ext_at
      | some d =>
        simp only at hcm
        obtain ⟨g1, g2⟩ := k2 d ei
        refine .inr ⟨g1, W (i + 1) m, fun H' w => ⟨m, Nat.lt_succ_self m, w⟩, fun x H2 y => ?_⟩
        obtain ⟨φ2, st2, S2, q2⟩ := g2 x H2 y
        cases eg : g (wipeE e vs) d with
        | none => rw [eg] at hcm; cases hcm
        | some e2 =>
          rw [eg] at hcm
          simp only at hcm
          have hl2 := st2.frame Dl (by rw [hl]; simp) no
          refine hg φ2 h.length H2 _ e2 _ d x _ (re.step S st2) q2 eg fun σ3 r3 w3 => ⟨w3.trans wipe_wipe, ?_⟩
          cases et : mt C e2 h with
          | no => rw [et] at hcm; cases hcm
          | ex _ _ _ => rw [et] at hcm; cases hcm
          | ok b h3 =>
            rw [et] at hcm
            simp only [R.bind_ok] at hcm
            refine tq_of S2 r3 et fun φ3 H3 st3 S3 r4 => ?_
            have hl3 := st3.frame Dl (by rw [hl2.1, hl]; simp) hl2.2
            have rw3 := (re.step S st2).step S2 st3
            cases b with
            | false =>
              rw [if_neg Bool.false_ne_true] at hcm ⊢
              exact ⟨φ3, h3, acc, l, (st.trans st2).trans st3, S3, hl3.1.trans (hl2.1.trans hl), (ra.step S st2).step S2 st3, rw3, hl3.2, hcm⟩
            | true =>
              rw [if_pos rfl] at hcm ⊢
              cases ea : me C e2 h3 with
              | no => rw [ea] at hcm; cases hcm
              | ex _ _ _ => rw [ea] at hcm; cases hcm
              | ok yv h4 =>
                rw [ea] at hcm
                simp only [R.bind_ok] at hcm
                refine td_of S3 r4 ea fun φ4 H4 v st4 S4 r5 q4 => ?_
                have hl4 := st4.frame Dl (by rw [hl3.1, hl2.1, hl]; simp) hl3.2
                have hD4 : H4 Dl = some (.lst l) := hl4.1.trans (hl3.1.trans (hl2.1.trans hl))
                have ra4 := ((ra.step S st2).step S2 st3).step S3 st4
                split at hcm
                · rename_i hz
                  have tf := tup_off (u := .lst (l ++ [v])) hD4
                  refine ⟨l, hD4, by rw [ra4.len]; exact hz, φ4, h4, acc ++ [yv], l ++ [v], ⟨?_, fun j hj => ?_, fun b hb ob => ?_⟩, S4.off hD4 hl4.2, upd_same, ?_, ?_, hl4.2, hcm⟩
                  · exact Nat.le_trans st.len (Nat.le_trans st2.len (Nat.le_trans st3.len st4.len))
                  · exact ((st.trans st2).trans (st3.trans st4)).agree j hj
                  · obtain ⟨e1, o1⟩ := ((st.trans st2).trans (st3.trans st4)).frame b hb ob
                    exact ⟨by rw [upd_ne (neD b hb)]; exact e1, o1⟩
                  · exact (RVs.append ra4 (RVs.one q4)).gen (fun _ _ => rfl) (Nat.le_refl _) tf
                  · exact (rw3.step S3 st4).gen (fun _ _ => rfl) (Nat.le_refl _) tf
                · cases hcm
end
structure STs (X : Cx) (κ : Nat → Addr) (C : Ctx) (ifs : List Expr) (m : MT) : Prop where
  pts : PTs X ifs (tQ X.K κ C m)
section
variable {X : Cx} {κ : Nat → Addr} {C : Ctx} {c elt iter : Expr} {ifs : List Expr} {me : ME} {mt : MT} {mi : MI} {g : Tg} {scope : Scope} {own : List (Str × Nat)} {vs is : List Nat} {pos px spos py : Pos}
theorem sts_nil : STs X κ C [] tY := ⟨⟨fun pins s σ H Q I ⟨φ, ev, h, S, r, p⟩ => pts_nil.run pins s σ H Q I (p φ H Step.refl S)⟩⟩
theorem sts_one (h : ST X κ C c mt) : STs X κ C [c] mt := ⟨pts_one h.pt⟩
theorem lc_read {tg : TG} {e : Ev} {σ : L2.St} {φ : Nat → Addr} {h : HP} {H : Hp} {Q : VK} (hg : GW X.K vs tg g) (S : Sim X.K κ φ h H) (r : EnvR φ h.length H e σ) (p : Post X.K κ φ h H (eLc vs g mi mt me C e h) Q) : tLc (tI X.K κ C mi) tg (tQ X.K κ C mt) (tD X.K κ C me) vs σ H Q := by
  obtain ⟨it, h1, e1, p⟩ := Post.bind p
  obtain ⟨xs, hF, e2, p⟩ := Post.bind p
  refine ⟨φ, e, h, S, r, it, h1, e1, fun φ1 H1 J st S1 hJ Dl hD => ?_⟩
  refine lc_go S1 (r.step S st) hJ hg e2 hD fun φ' H' st' S' ed => ?_
  exact p φ' H' (.ref Dl) (st.trans st') S' (RV.ref_iff.mpr ⟨by simp, by rw [ed]⟩)
theorem se_lc {i : Nat} {x : Str} (hc : X.calm = true) (hN : X.N.Nodup) (hi : SI X κ C (.Name x px) iter mi) (ok : BlkOk X.N X.env.scope scope own)
    (hg : ∀ (s : Shared) (H : Hp) (A : Addr) (cl : List (Str × Addr)) (fp : List Addr), PG (X.blk s H scope (compEnvC scope cl A X.env) fp) (.Name x px) (gName i))
    (ht : ∀ (s : Shared) (H : Hp) (A : Addr) (cl : List (Str × Addr)) (fp : List Addr), STs (X.blk s H scope (compEnvC scope cl A X.env) fp) κ C ifs mt)
    (he : ∀ (s : Shared) (H : Hp) (A : Addr) (cl : List (Str × Addr)) (fp : List Addr), SE (X.blk s H scope (compEnvC scope cl A X.env) fp) κ C elt me)
    (hvs : own.map (·.2) = vs := by rfl) (hv : i ∈ vs := by decide) (hs : ∀ x, foldedSetIterable iter X.env x = pure x := by intro _; rfl) : SE X κ C (.ListComp elt [⟨.Name x px, iter, ifs, 0⟩] scope pos) (eLc vs (gN i) mi mt me) := by
  subst hvs
  exact SE.mk' (pe_lc hc hN hi.pi ok hg (fun s H A cl fp => (ht s H A cl fp).pts) (fun s H A cl fp => (he s H A cl fp).pe) hs) fun φ ev h σ H Q S r p => lc_read (gw_name hv) S r p
theorem se_lct {es : List Expr} {kk : Nat} (hc : X.calm = true) (hN : X.N.Nodup) (hi : SI X κ C (.Tuple es kk px) iter mi) (ok : BlkOk X.N X.env.scope scope own)
    (hg : ∀ (s : Shared) (H : Hp) (A : Addr) (cl : List (Str × Addr)) (fp : List Addr), SGs (X.blk s H scope (compEnvC scope cl A X.env) fp) es is)
    (ht : ∀ (s : Shared) (H : Hp) (A : Addr) (cl : List (Str × Addr)) (fp : List Addr), STs (X.blk s H scope (compEnvC scope cl A X.env) fp) κ C ifs mt)
    (he : ∀ (s : Shared) (H : Hp) (A : Addr) (cl : List (Str × Addr)) (fp : List Addr), SE (X.blk s H scope (compEnvC scope cl A X.env) fp) κ C elt me)
    (hvs : own.map (·.2) = vs := by rfl) (hv : ∀ i ∈ is, i ∈ vs := by decide) (hs : ∀ x, foldedSetIterable iter X.env x = pure x := by intro _; rfl)
    (hn : ∀ env : Env, (assignEach es env).length = is.length := by intro _; rfl) (hst : ∀ env : Env, (assignEach es env).findIdx? (·.1) = none := by intro _; rfl) : SE X κ C (.ListComp elt [⟨.Tuple es kk px, iter, ifs, 0⟩] scope pos) (eLc vs (gT is) mi mt me) := by
  subst hvs
  exact SE.mk' (pe_lc hc hN hi.pi ok (fun s H A cl fp => pg_tup (X := X.blk s H scope (compEnvC scope cl A X.env) fp) hc (hg s H A cl fp).pgs (hn _) (hst _)) (fun s H A cl fp => (ht s H A cl fp).pts) (fun s H A cl fp => (he s H A cl fp).pe) hs) fun φ ev h σ H Q S r p => lc_read (gw_tup hv rfl) S r p
/-- y = [..] -/
theorem ss_lc {j i : Nat} {x y : Str} (hc : X.calm = true) (hsw : swapsWith (.ListComp elt [⟨.Name x px, iter, ifs, 0⟩] scope pos) (some (.Name y py)) spos.line X.env = pure true) (hN : X.N.Nodup) (hi : SI X κ C (.Name x px) iter mi) (ok : BlkOk X.N X.env.scope scope own)
    (hg : ∀ (s : Shared) (H : Hp) (A : Addr) (cl : List (Str × Addr)) (fp : List Addr), PG (X.blk s H scope (compEnvC scope cl A X.env) fp) (.Name x px) (gName i))
    (ht : ∀ (s : Shared) (H : Hp) (A : Addr) (cl : List (Str × Addr)) (fp : List Addr), STs (X.blk s H scope (compEnvC scope cl A X.env) fp) κ C ifs mt)
    (he : ∀ (s : Shared) (H : Hp) (A : Addr) (cl : List (Str × Addr)) (fp : List Addr), SE (X.blk s H scope (compEnvC scope cl A X.env) fp) κ C elt me)
    (hy : X.N[j]? = some y := by rfl) (hyl : X.env.scope.names.lookup y = some .local := by rfl)
    (hvs : own.map (·.2) = vs := by rfl) (hv : i ∈ vs := by decide) (hs : ∀ x, foldedSetIterable iter X.env x = pure x := by intro _; rfl) : SS X κ C (.Assign [.Name y py] (.ListComp elt [⟨.Name x px, iter, ifs, 0⟩] scope pos) spos) (sAs (gN j) (eLc vs (gN i) mi mt me)) := by
  subst hvs
  refine SS.mk' (ps_setLc (te := tD X.K κ C me) (tt := tQ X.K κ C mt) hc hN hy hyl hsw hi.pi ok hg (fun s H A cl fp => (ht s H A cl fp).pts) (fun s H A cl fp => (he s H A cl fp).pe) hs) fun φ ev h σ H Dn S r p => ?_
  obtain ⟨d, h1, e1, p⟩ := PostS.bind p
  refine lc_read (Q := fun x H1 => gName j x σ H1 Dn.nx) (gw_name hv) S r ?_
  rw [e1]
  exact fun φ1 H1 v st S1 q1 => p φ1 H1 _ st S1 ((r.step S st).set q1 j)
theorem ss_lct {j : Nat} {y : Str} {es : List Expr} {kk : Nat} (hc : X.calm = true) (hsw : swapsWith (.ListComp elt [⟨.Tuple es kk px, iter, ifs, 0⟩] scope pos) (some (.Name y py)) spos.line X.env = pure true) (hN : X.N.Nodup) (hi : SI X κ C (.Tuple es kk px) iter mi) (ok : BlkOk X.N X.env.scope scope own)
    (hg : ∀ (s : Shared) (H : Hp) (A : Addr) (cl : List (Str × Addr)) (fp : List Addr), SGs (X.blk s H scope (compEnvC scope cl A X.env) fp) es is)
    (ht : ∀ (s : Shared) (H : Hp) (A : Addr) (cl : List (Str × Addr)) (fp : List Addr), STs (X.blk s H scope (compEnvC scope cl A X.env) fp) κ C ifs mt)
    (he : ∀ (s : Shared) (H : Hp) (A : Addr) (cl : List (Str × Addr)) (fp : List Addr), SE (X.blk s H scope (compEnvC scope cl A X.env) fp) κ C elt me)
    (hy : X.N[j]? = some y := by rfl) (hyl : X.env.scope.names.lookup y = some .local := by rfl)
    (hvs : own.map (·.2) = vs := by rfl) (hv : ∀ i ∈ is, i ∈ vs := by decide) (hs : ∀ x, foldedSetIterable iter X.env x = pure x := by intro _; rfl)
    (hn : ∀ env : Env, (assignEach es env).length = is.length := by intro _; rfl) (hst : ∀ env : Env, (assignEach es env).findIdx? (·.1) = none := by intro _; rfl) : SS X κ C (.Assign [.Name y py] (.ListComp elt [⟨.Tuple es kk px, iter, ifs, 0⟩] scope pos) spos) (sAs (gN j) (eLc vs (gT is) mi mt me)) := by
  subst hvs
  refine SS.mk' (ps_setLc (g := gTup X.K is.length (gsN is)) (te := tD X.K κ C me) (tt := tQ X.K κ C mt) hc hN hy hyl hsw hi.pi ok (fun s H A cl fp => pg_tup (X := X.blk s H scope (compEnvC scope cl A X.env) fp) hc (hg s H A cl fp).pgs (hn _) (hst _)) (fun s H A cl fp => (ht s H A cl fp).pts) (fun s H A cl fp => (he s H A cl fp).pe) hs) fun φ ev h σ H Dn S r p => ?_
  obtain ⟨d, h1, e1, p⟩ := PostS.bind p
  refine lc_read (Q := fun x H1 => gName j x σ H1 Dn.nx) (gw_tup hv rfl) S r ?_
  rw [e1]
  exact fun φ1 H1 v st S1 q1 => p φ1 H1 _ st S1 ((r.step S st).set q1 j)
end
end Z
/-! Z8m: methods of lists and texts, list(), tuple(), sorted(), chains of comparisons. -/
namespace Z
open PySem L2 PyProof.Rows

/-- o.m(..), o of a built-in type (looked at ahead of the arguments) -/
def eBk (ok : D → HP → Bool) (f : D → List D → HP → R D) (o : ME) (as : MA) : ME := fun C e h => (o C e h).bind fun x h => if ok x h = true then (as C e h).bind fun xs h => f x xs h else .no
def okL : D → HP → Bool := fun x h => match x with
  | .ref i => (isL i h).isSome
  | _ => false
def okS : D → HP → Bool := fun x _ => match x with
  | .str _ => true
  | _ => false
def mApp : D → List D → HP → R D := fun x ys h => match x, ys with
  | .ref i, [y] => match h[i]? with
    | some (.lst xs) => if xs.length < sizeLine then .ok .non (h.set i (.lst (xs ++ [y]))) else .no
    | _ => .no
  | _, _ => .no
def mExt : D → List D → HP → R D := fun x ys h => match x, ys with
  | .ref i, [.ref j] => match h[i]?, h[j]? with
    | some (.lst xs), some (.lst zs) => if xs.length + zs.length ≤ sizeLine then .ok .non (h.set i (.lst (xs ++ zs))) else .no
    | _, _ => .no
  | _, _ => .no
def mClr : D → List D → HP → R D := fun x ys h => match x, ys with
  | .ref i, [] => match h[i]? with
    | some (.lst _) => .ok .non (h.set i (.lst []))
    | _ => .no
  | _, _ => .no
def mCnt : D → List D → HP → R D := fun x ys h => match x, ys with
  | .ref i, [.int k] => match isL i h with
    | some ds => match intsD ds with
      | some ns => .ok (.int (ns.count k : Nat)) h
      | none => .no
    | none => .no
  | _, _ => .no
/-- the first place, among flat things -/
def idxD (y : D) : List D → Nat → Option Nat
  | [], _ => none
  | z :: r, j => match eqFlat z y with
    | some true => some j
    | some false => idxD y r (j + 1)
    | none => none
def mIdx : D → List D → HP → R D := fun x ys h => match x, ys with
  | .ref i, [y] => match isL i h with
    | some ds => if flatD y = true ∧ ds.all flatD = true then match idxD y ds 0 with
        | some j => .ok (.int (j : Nat)) h
        | none => .no
      else .no
    | none => .no
  | _, _ => .no
def strD : D → Option Str
  | .str x => some x
  | _ => none
def strsD (ds : List D) : Option (List Str) := seqO (ds.map strD)
def mJoin : D → List D → HP → R D := fun x ys h => match x, ys with
  | .str a, [.ref i] => match isL i h with
    | some ds => match strsD ds with
      | some zs => if (zs.map (·.length)).sum + zs.length * a.length ≤ 16777216 then .ok (.str (Txt.join a zs)) h else .no
      | none => .no
    | none => .no
  | .str a, [.tup ds] => match strsD ds with
    | some zs => if (zs.map (·.length)).sum + zs.length * a.length ≤ 16777216 then .ok (.str (Txt.join a zs)) h else .no
    | none => .no
  | _, _ => .no
def mSplit : D → List D → HP → R D := fun x ys h => match x, ys with
  | .str a, [.str b] => if (b.length == 0) = false ∧ a.length + 2 ≤ sizeLine then .ok (.ref h.length) (h ++ [.lst ((Txt.split a b).map D.str)]) else .no
  | _, _ => .no
def mFind : D → List D → HP → R D := fun x ys h => match x, ys with
  | .str a, [.str b] => .ok (.int (Txt.find a b)) h
  | _, _ => .no
def bLst : List D → HP → R D := fun xs h => match xs with
  | [.ref i] => match isL i h with
    | some ds => .ok (.ref h.length) (h ++ [.lst ds])
    | none => .no
  | [.tup ds] => .ok (.ref h.length) (h ++ [.lst ds])
  | _ => .no
def bTup : List D → HP → R D := fun xs h => match xs with
  | [.ref i] => match isL i h with
    | some ds => .ok (.tup ds) h
    | none => .no
  | [.tup ds] => .ok (.tup ds) h
  | _ => .no
def srtI (ns : List Int) : List Int := ns.mergeSort (fun a b => decide (a ≤ b))
def bSrt : List D → HP → R D := fun xs h => match xs with
  | [.ref i] => match isL i h with
    | some ds => match intsD ds with
      | some ns => .ok (.ref h.length) (h ++ [.lst ((srtI ns).map D.int)])
      | none => .no
    | none => .no
  | _ => .no
section
variable {K : PySem.W.Frag} {κ φ : Nat → Addr} {h : HP} {H : Hp}
theorem okL_ok {φ : Nat → Addr} {h : HP} {H : Hp} {d : D} {v : V} (S : Sim K κ φ h H) (r : RV φ h.length H d v) (e : okL d h = true) : tyV K "list" v H := by
  unfold okL at e
  split at e
  · rw [RV.ref_iff] at r
    obtain ⟨_, rfl⟩ := r
    obtain ⟨ds, e2⟩ := Option.isSome_iff_exists.mp e
    obtain ⟨vs, hs, _⟩ := S.isL e2
    exact .inl ⟨rfl, vs, hs⟩
  · cases e
/-- an object of the evaluator's is changed: what is to be shown of the result -/
theorem Post.setL {Q : VK} {d : D} {v : V} {i : Nat} {o : O} {ds : List D} {vs : List V} (p : Post K κ φ h H (.ok d (h.set i (.lst ds))) Q) (S : Sim K κ φ h H) (hi : h[i]? = some o) (m : o.mu = true) (r : RVs φ h.length H ds vs) (q : RV φ h.length H d v) : Q v (upd H (φ i) (.lst vs)) := by
  have st := step_set S (o' := .lst ds) (u := .lst vs) hi m rfl
  exact p _ _ _ st (S.set hi m rfl fun st => ⟨vs, upd_same, r.step S st⟩) (q.step S st)
end
/-- what a method's reading asks, by the evaluator -/
def MetD (X : Cx) (κ : Nat → Addr) (r : V → List V → Hp → VK → Prop) (f : D → List D → HP → R D) : Prop := ∀ (φ : Nat → Addr) (h : HP) (H : Hp) (x : D) (xs : List D) (v : V) (vs : List V) (Q : VK), Sim X.K κ φ h H → RV φ h.length H x v → RVs φ h.length H xs vs → Post X.K κ φ h H (f x xs h) Q → r v vs H Q
section
variable {X : Cx} {κ : Nat → Addr} {C : Ctx} {a b c e o : Expr} {es : List Expr} {ma mb mc mo : ME} {ta tb : MT} {mas : MA} {pos apos cpos p2 : Pos}
theorem md_append : MetD X κ rAppend mApp := by
  intro φ h H x xs v vs Q S rx rs p
  unfold mApp at p
  split at p
  · (replace rs := rs.one_inv); obtain ⟨u, rfl, ry⟩ := rs
    rw [RV.ref_iff] at rx
    obtain ⟨hi, rfl⟩ := rx
    split at p
    · rename_i ds e
      split at p
      · rename_i hz
        obtain ⟨ws, e2, r⟩ := S.lst e
        exact ⟨_, ws, u, rfl, rfl, e2, by rw [r.len]; exact hz, p.setL S e rfl (r.append (RVs.one ry)) (RV.non_iff.mpr rfl)⟩
      · exact False.elim p
    · exact False.elim p
  · exact False.elim p
theorem md_extend : MetD X κ rExtend mExt := by
  intro φ h H x xs v vs Q S rx rs p
  unfold mExt at p
  split at p
  · (replace rs := rs.one_inv); obtain ⟨u, rfl, ry⟩ := rs
    rw [RV.ref_iff] at rx ry
    obtain ⟨hi, rfl⟩ := rx
    obtain ⟨hj, rfl⟩ := ry
    split at p
    · rename_i ds zs e ez
      split at p
      · rename_i hz
        obtain ⟨ws, e2, r⟩ := S.lst e
        obtain ⟨ys, e3, r2⟩ := S.lst ez
        exact ⟨_, _, ws, ys, rfl, rfl, e2, e3, by rw [r.len, r2.len]; exact hz, p.setL S e rfl (r.append r2) (RV.non_iff.mpr rfl)⟩
      · exact False.elim p
    · exact False.elim p
  · exact False.elim p
theorem se_bk {T id : String} {name : Str} {r : V → List V → Hp → VK → Prop} {ok : D → HP → Bool} {f : D → List D → HP → R D} (pa : PlainAttrs T) (slot : Slot T name id) (hty : typeOf (.builtin id) = pure (.type "method_descriptor")) (hm : MtR X id r)
    (hk : ∀ {φ : Nat → Addr} {h : HP} {H : Hp} {d : D} {v : V}, Sim X.K κ φ h H → RV φ h.length H d v → ok d h = true → tyV X.K T v H) (M : MetD X κ r f) (ho : SE X κ C o mo) (ha : SA X κ C (e :: es) mas)
    (hbase : attributeBase o name X.env (eval o X.env) = eval o X.env := by rfl)
    (hfew : ((backTo cpos (starEach (e :: es) X.env)).all (fun x => !x.1) && (backToKw cpos (keywordEach [] X.env)).all (fun x => x.1.isSome)
      && decide ((e :: es).length + ([] : List Keyword).length + (if ([] : List Keyword).isEmpty then 0 else 1) < 30)) = true := by rfl)
    (hline : (apos.endLine == cpos.line) = true := by rfl) (hs : starEach (e :: es) X.env = (false, eval e X.env) :: starEach es X.env := by rfl) (hplain : (backTo cpos (starEach es X.env)).any (·.1) = false := by rfl) :
    SE X κ C (.Call (.Attribute o name apos) (e :: es) [] cpos) (eBk ok f mo mas) :=
  SE.mk' (pe_bm pa slot hty hm ho.pe ha.pa hbase hfew hline hs hplain) fun φ ev h σ H Q S r p => by
    obtain ⟨d, h1, e1, p⟩ := Post.bind p
    split at p
    · rename_i hok
      obtain ⟨ds, h2, e2, p⟩ := Post.bind p
      exact td_of S r e1 fun φ1 H1 v st S1 r1 q1 => ⟨hk S1 q1 hok, ta_of S1 r1 e2 fun φ2 H2 vs st2 S2 r2 q2 => M φ2 h2 H2 d ds v vs Q S2 (q1.step S1 st2) q2 (p.step (st.trans st2))⟩
    · exact False.elim p
theorem srt_uniq {ns ms : List Int} (hp : ms.Perm ns) (hs : ms.Pairwise (· ≤ ·)) : ms = srtI ns := by
  have p2 : (srtI ns).Perm ns := List.mergeSort_perm ns _
  have s2 : (srtI ns).Pairwise (· ≤ ·) := by
    have := List.pairwise_mergeSort (le := fun a b : Int => decide (a ≤ b)) (fun a b c h1 h2 => by simp at *; omega) (fun a b => by simp; omega) ns
    exact this.imp fun h => by simpa using h
  exact (hp.trans p2.symm).eq_of_pairwise (le := (· ≤ ·)) (fun a b _ _ h1 h2 => Int.le_antisymm h1 h2) hs s2
theorem cd_srt : CallR X (.builtin "sorted") (rB X.K κ bSrt) := by
  intro pins s σ H xs us Q I r ⟨φ, h, ds, S, q, p⟩
  unfold bSrt at p
  split at p
  · (replace q := q.one_inv); obtain ⟨v, rfl, q⟩ := q
    rw [RV.ref_iff] at q
    obtain ⟨hi, rfl⟩ := q
    split at p
    · rename_i ds e
      split at p
      · rename_i ns en
        refine cr_sortedI pins s σ H _ us Q I r ⟨_, ns, rfl, S.intsL e en, fun ms l hp hs hl => ?_⟩
        rw [srt_uniq hp hs]
        exact p.newL S hl RVs.of_ints
      · exact False.elim p
    · exact False.elim p
  · exact False.elim p
/-- a op b op2 c -/
def eChn (op op2 : D → D → HP → R D) (a b c : ME) : ME := fun C e h => (a C e h).bind fun x h => (b C e h).bind fun y h => (op x y h).bind fun z h => match z with
  | .bl k => if k = true then (c C e h).bind fun w h => op2 y w h else .ok (.bl false) h
  | _ => .no
end
end Z
/-! Z8d: dicts: displays, dict(), get, sorted(). -/
namespace Z
open PySem L2 PyProof.Rows

def eDiK : ME := fun _ _ h => .ok (.ref h.length) (h ++ [.dic []])
def eDiT : ME := fun _ _ h => .ok (.ref h.length) (h ++ [.dct []])
abbrev MP := Ctx → Ev → HP → R (List (D × D))
def keyP : D × D → Option (Key × D) := fun p => (keyD p.1).map fun k => (k, p.2)
def dicAt (x : D) (h : HP) : Option (List (Key × D)) := match x with
  | .ref i => match h[i]? with
    | some (.dic kvs) => some kvs
    | _ => none
  | _ => none
/-- o.get(a) -/
def eGet1 (o : ME) (as : MA) : ME := fun C e h => (o C e h).bind fun x h => match dicAt x h with
  | some _ => (as C e h).bind fun ys h => match ys, dicAt x h with
    | [y], some kvs => match keyD y with
      | some k => .ok ((valD kvs k).getD .non) h
      | none => .no
    | _, _ => .no
  | none => .no
def intK : Key → Option Int
  | .inl i => some i
  | .inr _ => none
/-- sorted(..): a list of whole numbers, a dict's keys -/
def bSr2 : List D → HP → R D := fun xs h => match xs with
  | [.ref i] => match h[i]? with
    | some (.dic kvs) => match seqO (kvs.map fun kv => intK kv.1) with
      | some ks => if ks.length < 64 then .ok (.ref h.length) (h ++ [.lst ((srtI ks).map D.int)]) else .no
      | none => .no
    | _ => bSrt xs h
  | _ => .no
section
variable {K : PySem.W.Frag} {κ φ : Nat → Addr} {h : HP} {H : Hp}
/-- a new object is laid -/
theorem Post.newO {o : O} {u : HO} {Q : VK} {p : Addr} (q : Post K κ φ h H (.ok (.ref h.length) (h ++ [o])) Q) (S : Sim K κ φ h H) (hp : H p = none)
    (r : ∀ st : Step φ h H (ext φ h.length p) (h ++ [o]) (upd H p u), RO K κ (ext φ h.length p) (h ++ [o]).length (upd H p u) p o) : Q (.ref p) (upd H p u) := by
  have st := step_new S (o := o) (u := u) hp
  exact q _ _ _ st (S.new hp r) (RV.ref_iff.mpr ⟨by simp, by rw [ext_at]⟩)
theorem RKs.nil' {κ' : Type} {n : Nat} : RKs φ n H ([] : List (κ' × D)) [] := by simp [RKs]
theorem RKs.cons' {κ' : Type} {n : Nat} {k : κ'} {d : D} {v : V} {ds : List (κ' × D)} {vs : List (κ' × V)} (q : RV φ n H d v) (r : RKs φ n H ds vs) : RKs φ n H ((k, d) :: ds) ((k, v) :: vs) := by
  simp only [RKs]; exact ⟨v, vs, rfl, q, r⟩
/-- pairs of values -/
def RPs (φ : Nat → Addr) (n : Nat) (H : Hp) : List (D × D) → List (V × V) → Prop
  | [], vs => vs = []
  | (x, y) :: ds, vs => ∃ u v r, vs = (u, v) :: r ∧ RV φ n H x u ∧ RV φ n H y v ∧ RPs φ n H ds r
theorem RPs.step {φ' : Nat → Addr} {h' : HP} {H' : Hp} (S : Sim K κ φ h H) (st : Step φ h H φ' h' H') : ∀ {ds : List (D × D)} {vs : List (V × V)}, RPs φ h.length H ds vs → RPs φ' h'.length H' ds vs
  | [], vs, q => by simpa only [RPs] using q
  | (x, y) :: ds, vs, q => by
    simp only [RPs] at q ⊢
    obtain ⟨u, v, r, rfl, q1, q2, q3⟩ := q
    exact ⟨u, v, r, rfl, q1.step S st, q2.step S st, RPs.step S st q3⟩
theorem RPs.keys {n : Nat} : ∀ {ds : List (D × D)} {vs : List (V × V)} {kvs : List (Key × D)}, RPs φ n H ds vs → seqO (ds.map keyP) = some kvs → ∃ us : List (Key × V), vs = us.map (fun kv => (kV kv.1, kv.2)) ∧ RKs φ n H kvs us
  | [], vs, kvs, r, e => by
    simp only [RPs] at r
    simp only [List.map_nil, seqO, Option.some.injEq] at e
    subst r e
    exact ⟨[], rfl, RKs.nil'⟩
  | (x, y) :: ds, vs, kvs, r, e => by
    simp only [RPs] at r
    obtain ⟨u, v, r', rfl, q1, q2, q3⟩ := r
    simp only [List.map_cons] at e
    cases ek : keyD x with
    | none => simp [keyP, ek, seqO] at e
    | some k =>
      have e : (seqO (ds.map keyP)).map (fun l => (k, y) :: l) = some kvs := by
        have : keyP (x, y) = some (k, y) := by simp [keyP, ek]
        rw [this] at e
        exact e
      rw [Option.map_eq_some_iff] at e
      obtain ⟨l, el, rfl⟩ := e
      obtain ⟨us, e2, r2⟩ := RPs.keys q3 el
      refine ⟨(k, v) :: us, ?_, RKs.cons' q2 r2⟩
      rw [key_of' ek q1, e2]
      rfl
end
section
variable {X : Cx} {κ : Nat → Addr} {C : Ctx} {a b c e o : Expr} {es : List Expr} {ma mb mc mo : ME} {ta tb : MT} {mas : MA} {pos apos cpos p2 : Pos} {keys : List (Option Expr)} {values : List Expr} {mp : MP}
theorem se_diK : SE X κ C (.Dict [] [] pos) eDiK :=
  SE.mk' pe_dnewK fun φ ev h σ H Q S r p => fun q hq => Post.newO p S hq fun st => ⟨[], upd_same, RKs.nil'⟩
theorem cd_sr2 (hc : X.calm = true) : CallR X (.builtin "sorted") (rB X.K κ bSr2) := by
  intro pins s σ H xs us Q I r ⟨φ, h, ds, S, q, p⟩
  have q0 := q
  unfold bSr2 at p
  split at p
  · (replace q := q.one_inv); obtain ⟨v, rfl, q⟩ := q
    rw [RV.ref_iff] at q
    obtain ⟨hi, rfl⟩ := q
    split at p
    · rename_i kvs e
      split at p
      · rename_i ks ek
        split at p
        · rename_i hz
          obtain ⟨ms, hm, rk⟩ := S.dic e
          have hk : ∀ {kvs : List (Key × D)} {ms : List (Key × V)} {ks : List Int}, RKs φ h.length H kvs ms → seqO (kvs.map fun kv => intK kv.1) = some ks → ms.map (·.1) = ks.map Sum.inl := by
            intro kvs
            induction kvs with
            | nil =>
              intro ms ks r e
              simp only [RKs] at r
              simp only [List.map_nil, seqO, Option.some.injEq] at e
              subst r e
              rfl
            | cons kv kvs ih =>
              intro ms ks r e
              obtain ⟨k, d⟩ := kv
              simp only [RKs] at r
              obtain ⟨v, r', rfl, q1, q2⟩ := r
              cases k with
              | inr x => simp [intK, seqO] at e
              | inl i =>
                have e : (seqO (kvs.map fun kv => intK kv.1)).map (fun l => i :: l) = some ks := e
                rw [Option.map_eq_some_iff] at e
                obtain ⟨l, el, rfl⟩ := e
                simp only [List.map_cons, ih q2 el]
          refine call_sortedDI hc pins s σ H _ us Q I r ⟨_, ms, ks, rfl, .inl hm, hk rk ek, hz, fun ys l hp hs hl => ?_⟩
          rw [srt_uniq hp hs]
          exact p.newL S hl RVs.of_ints
        · exact False.elim p
      · exact False.elim p
    · exact cd_srt pins s σ H _ us Q I r ⟨φ, h, _, S, q0, p⟩
  · exact False.elim p
end
end Z
/-! Z8s: sorted(set(..)) of whole numbers, list(range(..)), a range with a step, reversed(range(..)). -/
namespace Z
open PySem PySem.Spec L2 PyProof.Rows
section
variable {P : Program} {w : World} {A : Around} {E : Value → Shared → Prop} {z : Shared}
/-- the empty set that is laid first -/
abbrev mt0 (w : World) : Obj := { cls := .type "set", dict := none, data := .set #[] 0 (.fresh 0 0 (!w.params.followText "set-order")) }
abbrev withSet (w : World) (z : Shared) : Shared := { z with heap := z.heap.push (mt0 w) }
/-- set(xs), xs a list of whole numbers -/
theorem setL_ints {l : Addr} {vs : Array Value} (ns : List Int) {Q : Value → Shared → Prop} (hd : A.handled = none) (il : z.heap.IsList l vs) (ia : IntsAre vs.toList ns) (room : ns.length + 1 < scanBound)
    (fin : ∀ (hp : Heap) (tk c : Nat), SetR w hp z.heap.objs.size (fun j => decide (j ∈ ns)) c → (∀ b o, z.heap.get? b = some o → hp.get? b = some o) → Q (.ref z.heap.objs.size) { z with heap := hp, toks := tk }) :
    wpAny (model P w) A (call (.type "set") [.ref l]) Q E z := by
  have len : vs.size = ns.length := by rw [← Array.length_toList]; exact ia.length
  obtain ⟨_, _, mro⟩ := F.called_set.mro
  have f1 := F.called_set.made
  have f2 := F.called_set.sub
  have f3 := F.called_set.notType
  have f4 := F.called_set.canCreate
  have f5 := F.typeCall_set_1 (.ref l)
  refine wpAny_call (codeAny_of_tree (wpAny_pure ⟨Code.quiet_builtin _ (by decide +kernel), codeAny_builtin F.entry_type_call ?_⟩))
  rw [Around.under_plain (weight_type_call_type "set" [.ref l] []) rfl]
  repeat' first | assumption | wp_step
  have hnew : (withSet w z).heap.get? z.heap.objs.size = some (mt0 w) := Heap.get?_push_size _ rfl
  refine codeAny_mono (code_set_led1 (.ref l) (E := E) (Q₁ := fun v z1 => v = .ref z.heap.objs.size ∧ z1 = withSet w z) ⟨rfl, rfl⟩) fun r z1 hr => ?_
  rcases r with e | fl
  · exact hr
  cases fl with
  | ret v =>
    obtain ⟨rfl, rfl⟩ := hr
    have ty : Shared.TypeIs (withSet w z) (.ref z.heap.objs.size) "set" := ⟨_, hnew, rfl⟩
    have i1 := F.called_set.init.lookup
    have i2 := F.called_set.init.bind (.ref z.heap.objs.size)
    repeat' first | assumption | wp_step
    refine codeAny_mono (codeAny_call_builtin (R := wants (fun r z2 => r = .none ∧ ∃ hp tk c, z2 = { z with heap := hp, toks := tk } ∧ SetR w hp z.heap.objs.size (fun j => decide (j ∈ ns)) c ∧ (∀ b o, z.heap.get? b = some o → hp.get? b = some o)) E)
      F.called_set.init.plain F.entry_set_init (check_set_init_1 ty ?_)) fun r2 z2 hr2 => ?_
    · obtain ⟨⟨oc, od, dt, os⟩, ho, hc, n, hdt⟩ := il
      simp only at hc hdt
      subst hc hdt
      have ho1 : (withSet w z).heap.get? l = some { cls := .type "list", dict := od, data := .seq vs n, slots := os } := Heap.get?_push_of_some _ ho
      have s1 := F.sub_list_set
      have s2 := F.sub_list_frozenset
      have s3 : (Value.type "list" == Value.type "dict") = false := by decide
      have il1 : (withSet w z).heap.IsList l vs := ⟨_, ho1, rfl, n, rfl⟩
      unfold Builtin.«set.__init__» noKeywords Builtin.Frozenset.updateFrom
      generalize gi : pyIter = gi
      wp_walk
      subst gi
      refine wpAny_pyIter_list il1 (wpAny_bind (wpAny_runValue ?_))
      have lz : l < z.heap.objs.size := Heap.lt_size ho
      have hd3 : A.in1.in1.in1.handled = none := by simp [hd]
      have sz : (withSet w z).heap.objs.size = z.heap.objs.size + 1 := Heap.size_push ..
      have ne1 : l ≠ (withSet w z).heap.objs.size := by rw [sz]; exact Nat.ne_of_lt (Nat.lt_succ_of_lt lz)
      have nin : z.heap.objs.size ∉ [(withSet w z).heap.objs.size, l] := by
        rw [sz]
        simp only [List.mem_cons, List.not_mem_nil, or_false, not_or]
        exact ⟨Nat.ne_of_lt (Nat.lt_succ_self _), fun e => Nat.ne_of_lt lz e.symm⟩
      have at_ : ∀ (i : Nat) (v : Value), vs[i]? = some v → ∃ k t, ns[i]? = some k ∧ v = .int k t := fun i v hv => by
        have hi : i < ns.length := by rw [← len]; exact (Array.getElem?_eq_some_iff.mp hv).1
        obtain ⟨t, e⟩ := IntsAre.int_at ia i v (by rw [Array.getElem?_toList]; exact hv)
        exact ⟨ns[i], t, List.getElem?_eq_getElem hi, by rw [e, List.getD_eq_getElem?_getD, List.getElem?_eq_getElem hi]; rfl⟩
      refine set_update_ints ((Walks.list hd3 _ l ne1 vs).toS) z.heap.objs.size nin ns len room at_ (vs.size - 0) 0 _ (by omega) (Nat.zero_le _) ⟨⟨_, Heap.get?_push_size _ rfl, rfl, rfl⟩, il1.push _⟩ ⟨0, Nat.le_refl 0, setR_new_at (Heap.get?_push_of_some _ hnew)⟩ ?_
      rintro ⟨hp, g2, d2, t2, o2⟩ c mv _ R2
      have e1 : g2 = z.gens := mv.gens
      have e2 : d2 = z.drawn := mv.drawn
      have e3 : o2 = z.os := mv.os
      subst e1 e2 e3
      refine wpAny_pure (wpAny_pure ⟨rfl, hp, t2, c, rfl, R2, fun b o e => ?_⟩)
      have lb : b < z.heap.objs.size := Heap.lt_size e
      refine mv.heap b o ?_ (Heap.get?_push_of_some _ (Heap.get?_push_of_some _ e))
      simp only [List.mem_cons, List.not_mem_nil, or_false, not_or]
      exact ⟨Nat.ne_of_lt lb, fun e => Nat.ne_of_lt (Nat.lt_succ_of_lt lb) (e.trans sz)⟩
    · rcases r2 with e | fl2
      · exact hr2
      cases fl2 with
      | ret r =>
        obtain ⟨rfl, hp, tk, c, rfl, R2, k2⟩ := hr2
        repeat' first | assumption | wp_step
        exact fin hp tk c R2 k2
      | _ => exact hr2.elim
  | _ => exact hr.elim
end
/-! ### sorted(set(..)) -/
/-- each once -/
def uniq : List Int → List Int
  | [] => []
  | x :: xs => if x ∈ xs then uniq xs else x :: uniq xs
theorem uniq_mem : ∀ {xs : List Int} {k : Int}, k ∈ uniq xs ↔ k ∈ xs
  | [], k => Iff.rfl
  | x :: xs, k => by
    unfold uniq
    split
    · rename_i h
      rw [uniq_mem, List.mem_cons]
      exact ⟨.inr, fun q => q.elim (fun e => e ▸ h) id⟩
    · rw [List.mem_cons, List.mem_cons, uniq_mem]
theorem uniq_nd : ∀ xs : List Int, (uniq xs).Nodup
  | [] => List.nodup_nil
  | x :: xs => by
    unfold uniq
    split
    · exact uniq_nd xs
    · rename_i h
      exact List.nodup_cons.mpr ⟨fun q => h (uniq_mem.mp q), uniq_nd xs⟩
def bSrS : D → HP → R D := fun x h => match x with
  | .ref i => match isL i h with
    | some ds => match intsD ds with
      | some ns => if ns.length + 1 < scanBound ∧ (uniq ns).length < 64 then .ok (.ref h.length) (h ++ [.lst ((srtI (uniq ns)).map D.int)]) else .no
      | none => .no
    | none => .no
  | _ => .no
def rSetL (K : PySem.W.Frag) (w : World) : List V → Hp → VK → Prop := fun xs H Q => ∃ (l : Addr) (ns : List Int), xs = [V.ref l] ∧ SqL K H l (ns.map V.int) ∧ ns.length + 1 < scanBound ∧
  ∀ a, H a = none → Q (.ref a) (upd H a (SetO w a (fun j => decide (j ∈ ns)) (uniq ns).length))
section
variable {X : Cx}
theorem cr_setL (hc : X.calm = true) : CallR X (.type "set") (rSetL X.K X.w) := by
  intro pins z σ H xs us Q I r ⟨l, ns, e, hl, room, q⟩
  subst e
  rw [Vals.ref1 r]
  obtain ⟨its, rv, pl, _⟩ := I.list hl
  have hn : H z.heap.objs.size = none := I.hok.fresh (Nat.le_refl _)
  refine setL_ints (P := X.prog) (w := X.w) ns (I.ok.hd hc) pl.isList (by simpa using ints_of_vals rv) room fun hp tk c R k => ?_
  have hcn : c = (uniq ns).length := by
    obtain ⟨o, es, ep, t, ho, hex, hd, g, nd, hm, hb, hf, hnn, rest⟩ := R
    have pm : (es.toList.map keyOf).Perm (uniq ns) := (List.perm_ext_iff_of_nodup nd (uniq_nd ns)).mpr fun k => by
      rw [uniq_mem, ← hm k, decide_eq_true_iff]
    have := pm.length_eq
    rw [List.length_map, Array.length_toList] at this
    omega
  subst hcn
  exact ⟨.ref z.heap.objs.size, upd H z.heap.objs.size (SetO X.w z.heap.objs.size (fun j => decide (j ∈ ns)) (uniq ns).length), I.laid (t' := tk) k (Nat.le_refl _) (setO_new R), rfl, q _ hn⟩
variable {κ : Nat → Addr} {C : Ctx} {a : Expr} {ma : ME} {p p2 q pos : Pos}
theorem se_srs (hc : X.calm = true) (hm : X.mg "sorted" = none) (hm2 : X.mg "set" = none) (ha : SE X κ C a ma) (hg : Gl X "sorted" := by rfl) (hg2 : Gl X "set" := by rfl) (he : starEach [a] X.env = (false, eval a X.env) :: starEach [] X.env := by rfl)
    (he2 : starEach [.Call (.Name "set" p2) [a] [] q] X.env = (false, eval (.Call (.Name "set" p2) [a] [] q) X.env) :: starEach [] X.env := by rfl) : SE X κ C (.Call (.Name "sorted" p) [.Call (.Name "set" p2) [a] [] q] [] pos) (eUn bSrS ma) := by
  have P1 := pe_callTy (pos := q) (p := p2) (cr_setL hc) hg2 hm2 boot_set (pa_cons ha.pe pa_nil he) (by decide) (by decide) he rfl
  have P2 := pe_callB (pos := pos) (p := p) (cr_sortedSet hc) hg hm boot_sorted (pa_cons P1 pa_nil he2) (by decide) (by decide) he2 rfl
  refine SE.mk' P2 fun φ ev h σ H Q S r p => ?_
  obtain ⟨dx, h1, e1, p⟩ := Post.bind p
  refine td_of S r e1 fun φ1 H1 v st S1 r1 q1 => ?_
  unfold bSrS at p
  split at p
  · rename_i i
    rw [RV.ref_iff] at q1
    obtain ⟨hi, rfl⟩ := q1
    split at p
    · rename_i ds el
      split at p
      · rename_i ns en
        split at p
        · rename_i hz
          obtain ⟨vs, hs, rr⟩ := S1.isL el
          have ed := intsD_of en
          subst ed
          have ev' := rr.ints
          subst ev'
          refine ⟨_, ns, rfl, hs, hz.1, fun a ha => ⟨a, _, _, rfl, upd_same, hz.2, fun ms l hp hm hl hn => ?_⟩⟩
          have e2 : ms = srtI (uniq ns) := by
            refine srt_uniq ((List.perm_ext_iff_of_nodup (hp.imp fun h => by omega) (uniq_nd ns)).mpr fun k => ?_) (hp.imp fun h => by omega)
            rw [hm k, uniq_mem, decide_eq_true_iff]
          subst e2
          exact (p.step (st.trans (step_temp S1 ha))).newL (S1.temp ha) hn RVs.of_ints
        · exact False.elim p
      · exact False.elim p
    · exact False.elim p
  · exact False.elim p
/-! ### text.index -/
end
end Z
/-! Z9: levels, the end of a law. -/
namespace Z
open PySem L2 PyProof.Rows
theorem boot_len_ : bootBuiltins "len" = some (.builtin "len") := by decide +kernel
theorem boot_max_ : bootBuiltins "max" = some (.builtin "max") := by decide +kernel
theorem boot_sum_ : bootBuiltins "sum" = some (.builtin "sum") := by decide +kernel
theorem boot_divmod_ : bootBuiltins "divmod" = some (.builtin "divmod") := by decide +kernel
theorem boot_sorted_ : bootBuiltins "sorted" = some (.builtin "sorted") := by decide +kernel
theorem boot_int_ : bootBuiltins "int" = some (.type "int") := by decide +kernel
theorem hu65 {k : Nat} {A : Around} (hr : Room k A) : A.units + 65 < cLine := by have := hr.un; omega
section
variable {P : Program} {w : World} {K : PySem.W.Frag} {mg : Str → Option Value} {base : Heap} {κ : Nat → Addr} {T : Tbl}
/-- what stands of a def behind the top -/
structure FunM (K : PySem.W.Frag) (mg : Str → Option Value) (nm : Str) (st : Stmt) (ps : List Str) (dfs : List Int) : Prop where
  ex : ∃ (fa : Addr) (fd : FuncData) (us : List Value), FunZ K nm nm st dfs fa fd ∧ mg nm = some (.ref fa) ∧ Binds K fd ps [] ∧ Binds K fd ps us ∧ Vals (dfs.map V.int) us
theorem fnF_zero {nm : Str} {st : Stmt} {ps : List Str} {dfs : List Int} {f : Nat} (F : FunM K mg nm st ps dfs) : FnF P w K mg base κ 0 nm dfs ((ctx T 0).call f) := by
  obtain ⟨fa, fd, us, F, hm, hb, hb2, hv⟩ := F.ex
  refine ⟨fa, fd, ps, us, hm, F.kp, hb, hb2, hv, fun _ _ _ => rfl, ⟨fun vs H Q E h => h.1, fun A outer s H args us vs Q E hr he hb hv hs => ?_⟩⟩
  obtain ⟨_, φ, h, ds, _, _, p⟩ := hs
  exact False.elim p
theorem fnF_succ {nm : Str} {st : Stmt} {ps : List Str} {dfs : List Int} {f n : Nat} {fn : Fn} (F : FunM K mg nm st ps dfs) (hT : T.fn f = some fn) (hp : ps.length = fn.np)
    (ok : ∀ (fa : Addr) (fd : FuncData), FunZ K nm nm st dfs fa fd → FnOk P w K mg base CX0 (n + 1) fa fd ps (spD K κ ps.length (runFn (ctx T n) fn))) : FnF P w K mg base κ (n + 1) nm dfs ((ctx T (n + 1)).call f) := by
  obtain ⟨fa, fd, us, F, hm, hb, hb2, hv⟩ := F.ex
  have e : (ctx T (n + 1)).call f = runFn (ctx T n) fn := by
    funext ds h
    show (match T.fn f with | some fn => runFn (ctx T n) fn ds h | none => R.no) = _
    rw [hT]
  rw [e]
  exact ⟨fa, fd, ps, us, hm, F.kp, hb, hb2, hv, by rw [hp]; exact ary_run, ok fa fd F⟩
theorem mem1 {P : Nat → Prop} {a : Nat} (x : P a) : ∀ c ∈ [a], P c := fun c h => by rw [List.mem_singleton.mp h]; exact x
theorem memc {P : Nat → Prop} {a : Nat} {as : List Nat} (x : P a) (y : ∀ c ∈ as, P c) : ∀ c ∈ a :: as, P c := fun c h => by
  rcases List.mem_cons.mp h with q | q
  · rw [q]; exact x
  · exact y c q
/-- what stands of a method of a class behind the top -/
structure MetM (K : PySem.W.Frag) (κ : Nat → Addr) (c : Nat) (nm qual : Str) (st : Stmt) (ps : List Str) : Prop where
  ex : ∃ (fa : Addr) (fd : FuncData), FunZ K nm qual st [] fa fd ∧ Cls K (κ c) ∧ Meth K (κ c) nm fa ∧ Binds K fd ps []
structure MakM (K : PySem.W.Frag) (mg : Str → Option Value) (κ : Nat → Addr) (c : Nat) (x qual : Str) (st : Stmt) (ps : List Str) : Prop where
  ex : ∃ (fa : Addr) (fd : FuncData), FunZ K "__init__" qual st [] fa fd ∧ mg x = some (.ref (κ c)) ∧ Mk K (κ c) fa ∧ Binds K fd ps []
structure MkA (P : Program) (w : World) (K : PySem.W.Frag) (mg : Str → Option Value) (base : Heap) (κ : Nat → Addr) (T : Tbl) (n c : Nat) (x : Str) : Prop where
  ex : n = 0 ∨ ∃ k, n = k + 1 ∧ MkF P w K mg base κ k c x ((ctx T k).meth c 0)
theorem meF_zero {nm qual : Str} {st : Stmt} {ps : List Str} {c m : Nat} (F : MetM K κ c nm qual st ps) : MeF P w K mg base κ 0 c nm ((ctx T 0).meth c m) := by
  obtain ⟨fa, fd, F, hc, hm, hb⟩ := F.ex
  refine ⟨fa, fd, ps, hc, hm, hb, fun _ _ _ => rfl, ⟨fun vs H Q E h => h.1, fun A outer s H args us vs Q E hr he hb hv hs => ?_⟩⟩
  obtain ⟨_, φ, h, ds, _, _, p⟩ := hs
  exact False.elim p
theorem mkF_zero {x qual : Str} {st : Stmt} {ps : List Str} {c : Nat} (F : MakM K mg κ c x qual st ps) : MkF P w K mg base κ 0 c x ((ctx T 0).meth c 0) := by
  obtain ⟨fa, fd, F, hm, hk, hb⟩ := F.ex
  refine ⟨fa, fd, ps, hm, hk, hb, fun _ _ _ => rfl, ⟨fun vs H Q E h => h.1, fun A outer s H args us vs Q E hr he hb hv hs => ?_⟩⟩
  obtain ⟨_, φ, h, ds, _, _, p⟩ := hs
  exact False.elim p
theorem meth_eq {c m n : Nat} {fn : Fn} (hT : T.me c m = some fn) : (ctx T (n + 1)).meth c m = runFn (ctx T n) fn := by
  funext ds h
  show (match T.me c m with | some fn => runFn (ctx T n) fn ds h | none => R.no) = _
  rw [hT]
theorem meF_succ {nm qual : Str} {st : Stmt} {ps : List Str} {c m n : Nat} {fn : Fn} (F : MetM K κ c nm qual st ps) (hT : T.me c m = some fn) (hp : ps.length = fn.np)
    (ok : ∀ (fa : Addr) (fd : FuncData), FunZ K nm qual st [] fa fd → FnOk P w K mg base CX0 (n + 1) fa fd ps (spD K κ ps.length (runFn (ctx T n) fn))) : MeF P w K mg base κ (n + 1) c nm ((ctx T (n + 1)).meth c m) := by
  obtain ⟨fa, fd, F, hc, hm, hb⟩ := F.ex
  rw [meth_eq hT]
  exact ⟨fa, fd, ps, hc, hm, hb, by rw [hp]; exact ary_run, ok fa fd F⟩
theorem mkF_succ {x qual : Str} {st : Stmt} {ps : List Str} {c n : Nat} {fn : Fn} (F : MakM K mg κ c x qual st ps) (hT : T.me c 0 = some fn) (hp : ps.length = fn.np)
    (ok : ∀ (fa : Addr) (fd : FuncData), FunZ K "__init__" qual st [] fa fd → FnOk P w K mg base CX0 (n + 1) fa fd ps (spD K κ ps.length (runFn (ctx T n) fn))) : MkF P w K mg base κ (n + 1) c x ((ctx T (n + 1)).meth c 0) := by
  obtain ⟨fa, fd, F, hm, hk, hb⟩ := F.ex
  rw [meth_eq hT]
  exact ⟨fa, fd, ps, hm, hk, hb, by rw [hp]; exact ary_run, ok fa fd F⟩
theorem se_makeA {X : Cx} {e : Expr} {es : List Expr} {mas : MA} {pos p2 : Pos} {x : Str} {c n : Nat} (F : MkA X.prog X.w X.K X.mg X.base κ T n c x) (hr : Room n X.A) (ha : SA X κ (ctx T n) (e :: es) mas) (hg : Gl X x := by rfl) (hdb : (x == ("__debug__" : Str)) = false := by decide)
    (he : starEach (e :: es) X.env = (false, eval e X.env) :: starEach es X.env := by rfl) (hpl : (backTo pos (starEach es X.env)).any (·.1) = false := by rfl) : SE X κ (ctx T n) (.Call (.Name x p2) (e :: es) [] pos) (eMake c mas) := by
  rcases F.ex with e0 | ⟨k, e1, F1⟩
  · subst e0
    refine ⟨⟨fun pins s σ H Q I ⟨φ, ev, h, S, r, p⟩ => ?_⟩⟩
    obtain ⟨ds, h1, _, p⟩ := Post.bind p
    exact False.elim p
  · subst e1
    exact se_make rfl F1 hr ha hg hdb he hpl
theorem funZ_mk {x qual : Str} {st : Stmt} {f : Addr} {oc : Value} {od an : Option Addr} {osl : Array (Option Value)} {kV doc pm cdv ct : Value} (l : K.lookup f = some ⟨oc, od, .func (PySem.W.fnOf x qual (defArgs st) (defBody st) (defScope st) .none kV doc pm an cdv ct), osl⟩)
    (c : PySem.W.codeIn K cdv qual = true) (k : PySem.W.keepIn K (.ref f) = true) : FunZ K x qual st [] f (PySem.W.fnOf x qual (defArgs st) (defBody st) (defScope st) .none kV doc pm an cdv ct) := ⟨⟨oc, od, .none, kV, doc, pm, an, cdv, ct, osl, rfl, l, c, .inl ⟨rfl, rfl⟩, .inl rfl⟩, k⟩
theorem funZ_mkd {x qual : Str} {st : Stmt} {f T : Addr} {oc toc : Value} {od an tod : Option Addr} {osl tsl : Array (Option Value)} {kV doc pm cdv ct : Value} {dfs : List Int} {its : List Value} {n : Nat} (hd : dfs.map V.int ≠ [])
    (l : K.lookup f = some ⟨oc, od, .func (PySem.W.fnOf x qual (defArgs st) (defBody st) (defScope st) (.ref T) kV doc pm an cdv ct), osl⟩)
    (c : PySem.W.codeIn K cdv qual = true) (k : PySem.W.keepIn K (.ref f) = true) (t : K.lookup T = some ⟨toc, tod, .seq its.toArray n, tsl⟩) (v : Vals (dfs.map V.int) its) :
    FunZ K x qual st dfs f (PySem.W.fnOf x qual (defArgs st) (defBody st) (defScope st) (.ref T) kV doc pm an cdv ct) := ⟨⟨oc, od, .ref T, kV, doc, pm, an, cdv, ct, osl, rfl, l, c, .inr ⟨hd, T, _, its, n, rfl, t, rfl, v⟩, .inl rfl⟩, k⟩
/-- the law's promise -/
def spL (K : PySem.W.Frag) (f : List D → HP → R D) : Sp := fun vs H Q _ => vs.length = 1 ∧ ∀ κ : Nat → Addr, ∃ φ h ds, Sim K κ φ h H ∧ RVs φ h.length H ds vs ∧ Post K κ φ h H (f ds h) Q
theorem spL_of {k : Nat} {fa : Addr} {fd : FuncData} {ps : List Str} {f : List D → HP → R D} (hp : ps.length = 1) (F : FnOk P w K mg base CX0 k fa fd ps (spD K κ ps.length f)) : FnOk P w K mg base CX0 k fa fd ps (spL K f) :=
  F.imp fun vs H Q E h => ⟨by rw [hp]; exact h.1, h.2 κ⟩
end
theorem law_end {l : PySem.W.OpenLaw} {k : Nat} {q : Program} {loose : List Str} {XP : (Str → Option Value) → Heap → Prop} {YP : World → Heap → Prop} {d : DefRec} {K : Params → PySem.W.Frag} {f : List D → HP → R D}
    (hn : l.most = some 63) (hdf : d.params.defaults = []) (hr : Room k callerA) (hY : ∀ (w : World) (h : Heap), YP w h → (K w.params).In h)
    (F : ∀ (w : World) (mg : Str → Option Value) (fa : Addr) (h : Heap), (K w.params).In h → h.Ns mainGlobals mg → mg d.name = some (.ref fa) → ∃ fd : FuncData, (∀ (s : Shared) (u : Value), BindsTo s fd ⟨[u], []⟩ [("script", u)]) ∧ ∀ base : Heap, (K w.params).In base → base.Ns mainGlobals mg → FnOk l.prog w (K w.params) mg base CX0 k fa fd ["script"] (spL (K w.params) f))
    (M : ∀ ns : List Int, ns.length ≤ 63 → (∀ z ∈ ns, Builtin.Int.intBits z ≤ 1048576) → ∃ h', f [.ref 0] [.fz (ns.map D.int)] = .ok (.bl true) h') :
    PySem.W.WalkO q loose XP YP l.row.toRowW d [] (fun g us => PySem.call g us) := by
  refine L2.walk_ofB (n := 63) (k := k) (x := "script") (CX := fun _ => CX0) (sp := fun w => spL (K w.params) f) hn (by decide) hdf hr hY F (fun w H a ns hl hb hO hS => ?_) fun _ _ _ _ _ z => z
  obtain ⟨h', e⟩ := M ns hl hb
  refine ⟨rfl, fun κ => ⟨fun _ => a, [.fz (ns.map D.int)], [.ref 0], ⟨fun i j o o' hi hj mi => ?_, fun i o hi => ?_⟩, RVs.one (RV.ref_iff.mpr ⟨by simp, rfl⟩), ?_⟩⟩
  · cases i with
    | zero => simp at hi; subst hi; cases mi
    | succ i => simp at hi
  · cases i with
    | zero =>
      simp at hi
      subst hi
      refine ⟨ns.map V.int, ?_, RVs.of_ints⟩
      rcases hS with (hS | ⟨o, hS⟩) | hS
      · rcases hO a with z | ⟨o, xs, z⟩
        · rw [z] at hS; cases hS
        · rw [z] at hS; cases hS
      · exact .inl ⟨o, hS⟩
      · exact .inr hS
    | succ i => simp at hi
  · rw [e]
    intro φ' H' v st S rv
    rw [RV.bl_iff] at rv
    exact rv
end Z
/-! Y0: values without places; what stands for them in the plain evaluator's heap; who owns what. -/
namespace Z
open PySem L2

inductive U where
  | non | bl (b : Bool) | int (i : Int) | str (x : Str) | tup (us : List U) | lst (us : List U) | fz (us : List U) | dic (kvs : List (Key × U)) | dct (kvs : List (List Key × U)) | obj (c : Nat) (fs : List (Str × U))

/-- places that are not to be read -/
abbrev AS := Nat → Prop
inductive Rd (A : AS) (h : HP) : D → U → Prop
  | non : Rd A h .non .non
  | bl {b : Bool} : Rd A h (.bl b) (.bl b)
  | int {i : Int} : Rd A h (.int i) (.int i)
  | str {x : Str} : Rd A h (.str x) (.str x)
  | tup {ds : List D} {us : List U} : ds.length = us.length → (∀ (j : Nat) (d : D) (u : U), ds[j]? = some d → us[j]? = some u → Rd A h d u) → Rd A h (.tup ds) (.tup us)
  | lst {i : Nat} {ds : List D} {us : List U} : ¬ A i → h[i]? = some (.lst ds) → ds.length = us.length → (∀ (j : Nat) (d : D) (u : U), ds[j]? = some d → us[j]? = some u → Rd A h d u) → Rd A h (.ref i) (.lst us)
  | fz {i : Nat} {ds : List D} {us : List U} : ¬ A i → h[i]? = some (.fz ds) → ds.length = us.length → (∀ (j : Nat) (d : D) (u : U), ds[j]? = some d → us[j]? = some u → Rd A h d u) → Rd A h (.ref i) (.fz us)
  | dic {i : Nat} {ds : List (Key × D)} {us : List (Key × U)} : ¬ A i → h[i]? = some (.dic ds) → ds.map (·.1) = us.map (·.1) → (∀ (j : Nat) (p : Key × D) (q : Key × U), ds[j]? = some p → us[j]? = some q → Rd A h p.2 q.2) → Rd A h (.ref i) (.dic us)
  | dct {i : Nat} {ds : List (List Key × D)} {us : List (List Key × U)} : ¬ A i → h[i]? = some (.dct ds) → ds.map (·.1) = us.map (·.1) → (∀ (j : Nat) (p : List Key × D) (q : List Key × U), ds[j]? = some p → us[j]? = some q → Rd A h p.2 q.2) → Rd A h (.ref i) (.dct us)
  | obj {i c : Nat} {ds : List (Str × D)} {us : List (Str × U)} : ¬ A i → h[i]? = some (.ins c ds) → ds.map (·.1) = us.map (·.1) → (∀ (j : Nat) (p : Str × D) (q : Str × U), ds[j]? = some p → us[j]? = some q → Rd A h p.2 q.2) → Rd A h (.ref i) (.obj c us)
structure AllR (P : D → U → Prop) (ds : List D) (us : List U) : Prop where
  len : ds.length = us.length
  each : ∀ (j : Nat) (d : D) (u : U), ds[j]? = some d → us[j]? = some u → P d u
structure AllK {κ : Type} (P : D → U → Prop) (ds : List (κ × D)) (us : List (κ × U)) : Prop where
  keys : ds.map (·.1) = us.map (·.1)
  each : ∀ (j : Nat) (p : κ × D) (q : κ × U), ds[j]? = some p → us[j]? = some q → P p.2 q.2
theorem AllR.imp {P Q : D → U → Prop} {ds : List D} {us : List U} (a : AllR P ds us) (f : ∀ d u, P d u → Q d u) : AllR Q ds us := ⟨a.len, fun j d u q r => f _ _ (a.each j d u q r)⟩
theorem AllK.imp {κ : Type} {P Q : D → U → Prop} {ds : List (κ × D)} {us : List (κ × U)} (a : AllK P ds us) (f : ∀ d u, P d u → Q d u) : AllK Q ds us := ⟨a.keys, fun j d u q r => f _ _ (a.each j d u q r)⟩
theorem AllR.nil {P : D → U → Prop} : AllR P [] [] := ⟨rfl, fun j d u q => by simp at q⟩
theorem AllK.nil {κ : Type} {P : D → U → Prop} : AllK (κ := κ) P [] [] := ⟨rfl, fun j d u q => by simp at q⟩
theorem AllR.cons {P : D → U → Prop} {d : D} {u : U} {ds : List D} {us : List U} (q : P d u) (a : AllR P ds us) : AllR P (d :: ds) (u :: us) :=
  ⟨by simp [a.len], fun j d' u' q1 q2 => by
    cases j with
    | zero => simp only [List.getElem?_cons_zero, Option.some.injEq] at q1 q2; subst q1 q2; exact q
    | succ j => exact a.each j _ _ (by simpa using q1) (by simpa using q2)⟩
theorem AllR.inv {P : D → U → Prop} {ds : List D} {u : U} {us : List U} (a : AllR P ds (u :: us)) : ∃ d r, ds = d :: r ∧ P d u ∧ AllR P r us := by
  cases ds with
  | nil => exact absurd a.len (by simp)
  | cons d r => exact ⟨d, r, rfl, a.each 0 _ _ rfl rfl, by have := a.len; simpa using this, fun j d' u' q1 q2 => a.each (j + 1) _ _ (by simpa using q1) (by simpa using q2)⟩
theorem AllR.inv0 {P : D → U → Prop} {ds : List D} (a : AllR P ds []) : ds = [] := List.length_eq_zero_iff.mp a.len
theorem AllR.invD {P : D → U → Prop} {d : D} {ds : List D} {us : List U} (a : AllR P (d :: ds) us) : ∃ u r, us = u :: r ∧ P d u ∧ AllR P ds r := by
  cases us with
  | nil => exact absurd a.len (by simp)
  | cons u r => exact ⟨u, r, rfl, a.each 0 _ _ rfl rfl, by have := a.len; simpa using this, fun j d' u' q1 q2 => a.each (j + 1) _ _ (by simpa using q1) (by simpa using q2)⟩
theorem AllR.get {P : D → U → Prop} {ds : List D} {us : List U} {j : Nat} {u : U} (a : AllR P ds us) (q : us[j]? = some u) : ∃ d, ds[j]? = some d ∧ P d u := by
  have hj : j < ds.length := by rw [a.len]; exact (List.getElem?_eq_some_iff.mp q).1
  exact ⟨ds[j], List.getElem?_eq_getElem hj, a.each j _ _ (List.getElem?_eq_getElem hj) q⟩
theorem AllR.getD {P : D → U → Prop} {ds : List D} {us : List U} {j : Nat} {d : D} (a : AllR P ds us) (q : ds[j]? = some d) : ∃ u, us[j]? = some u ∧ P d u := by
  have hj : j < us.length := by rw [← a.len]; exact (List.getElem?_eq_some_iff.mp q).1
  exact ⟨us[j], List.getElem?_eq_getElem hj, a.each j _ _ q (List.getElem?_eq_getElem hj)⟩
theorem AllR.app {P : D → U → Prop} {ds es : List D} {us vs : List U} (a : AllR P ds us) (b : AllR P es vs) : AllR P (ds ++ es) (us ++ vs) :=
  ⟨by simp [a.len, b.len], fun j d u q1 q2 => by
    by_cases hj : j < ds.length
    · rw [List.getElem?_append_left hj] at q1
      rw [List.getElem?_append_left (by rw [← a.len]; exact hj)] at q2
      exact a.each j _ _ q1 q2
    · rw [List.getElem?_append_right (by omega)] at q1
      rw [List.getElem?_append_right (by rw [← a.len]; omega)] at q2
      rw [← a.len] at q2
      exact b.each _ _ _ q1 q2⟩
theorem AllR.one {P : D → U → Prop} {d : D} {u : U} (q : P d u) : AllR P [d] [u] := AllR.cons q AllR.nil
theorem AllR.take {P : D → U → Prop} {ds : List D} {us : List U} (a : AllR P ds us) (n : Nat) : AllR P (ds.take n) (us.take n) :=
  ⟨by simp [a.len], fun j d u q1 q2 => by
    rw [List.getElem?_take] at q1 q2
    split at q1
    · rename_i hj; rw [if_pos hj] at q2; exact a.each j _ _ q1 q2
    · cases q1⟩
theorem AllR.drop {P : D → U → Prop} {ds : List D} {us : List U} (a : AllR P ds us) (n : Nat) : AllR P (ds.drop n) (us.drop n) :=
  ⟨by simp [a.len], fun j d u q1 q2 => by
    rw [List.getElem?_drop] at q1 q2
    exact a.each _ _ _ q1 q2⟩
theorem AllR.set {P : D → U → Prop} {ds : List D} {us : List U} {d : D} {u : U} (a : AllR P ds us) (n : Nat) (q : P d u) : AllR P (ds.set n d) (us.set n u) :=
  ⟨by simp [a.len], fun j d' u' q1 q2 => by
    by_cases e : n = j
    · subst e
      have h1 : n < ds.length := by have := (List.getElem?_eq_some_iff.mp q1).1; simpa using this
      rw [List.getElem?_set_self h1] at q1
      rw [List.getElem?_set_self (by rw [← a.len]; exact h1)] at q2
      cases q1; cases q2; exact q
    · rw [List.getElem?_set_ne e] at q1 q2
      exact a.each j _ _ q1 q2⟩
theorem AllR.map {α : Type} {P : D → U → Prop} {f : α → D} {g : α → U} {xs : List α} (q : ∀ x ∈ xs, P (f x) (g x)) : AllR P (xs.map f) (xs.map g) :=
  ⟨by simp, fun j d u q1 q2 => by
    rw [List.getElem?_map] at q1 q2
    cases e : xs[j]? with
    | none => rw [e] at q1; cases q1
    | some x => rw [e] at q1 q2; cases q1; cases q2; exact q x (List.mem_of_getElem? e)⟩
section
variable {A A' : AS} {h h' : HP}
theorem isL_cases {i : Nat} {ds : List D} : isL i h = some ds ↔ h[i]? = some (.lst ds) ∨ h[i]? = some (.fz ds) := by
  unfold isL
  split
  · rename_i xs e; rw [e]; simp
  · rename_i xs e; rw [e]; simp
  · rename_i e1 e2
    constructor
    · intro q; cases q
    · rintro (q | q)
      · exact absurd q (e1 _)
      · exact absurd q (e2 _)
/-- from heap to heap: what is not to be read may change, no old place becomes such a one -/
structure Tr (A A' : AS) (h h' : HP) : Prop where
  keep : ∀ (i : Nat) (o : O), ¬ A i → h[i]? = some o → h'[i]? = some o
  sub : ∀ i, A' i → A i ∨ h.length ≤ i
  len : h.length ≤ h'.length
theorem Tr.isL (t : Tr A A' h h') {i : Nat} {ds : List D} (n : ¬ A i) (q : isL i h = some ds) : Z.isL i h' = some ds := by
  rcases isL_cases.mp q with q | q
  · exact isL_cases.mpr (.inl (t.keep _ _ n q))
  · exact isL_cases.mpr (.inr (t.keep _ _ n q))
theorem Tr.nA (t : Tr A A' h h') {i : Nat} (n : ¬ A i) (l : i < h.length) : ¬ A' i := fun q => (t.sub i q).elim n (fun w => by omega)
theorem Tr.refl : Tr A A h h := ⟨fun _ _ _ q => q, fun _ q => .inl q, Nat.le_refl _⟩
theorem Tr.trans {A2 : AS} {h2 : HP} (t : Tr A A' h h') (t2 : Tr A' A2 h' h2) : Tr A A2 h h2 :=
  ⟨fun i o n q => t2.keep i o (t.nA n (List.getElem?_eq_some_iff.mp q).1) (t.keep i o n q), fun i q => (t2.sub i q).elim (fun w => t.sub i w) (fun w => .inr (Nat.le_trans t.len w)), Nat.le_trans t.len t2.len⟩
theorem Rd.tr {d : D} {u : U} (r : Rd A h d u) (t : Tr A A' h h') : Rd A' h' d u := by
  induction r with
  | non => exact .non
  | bl => exact .bl
  | int => exact .int
  | str => exact .str
  | tup l _ ih => exact .tup l ih
  | lst n q l _ ih => exact .lst (t.nA n (List.getElem?_eq_some_iff.mp q).1) (t.keep _ _ n q) l ih
  | fz n q l _ ih => exact .fz (t.nA n (List.getElem?_eq_some_iff.mp q).1) (t.keep _ _ n q) l ih
  | dic n q l _ ih => exact .dic (t.nA n (List.getElem?_eq_some_iff.mp q).1) (t.keep _ _ n q) l ih
  | dct n q l _ ih => exact .dct (t.nA n (List.getElem?_eq_some_iff.mp q).1) (t.keep _ _ n q) l ih
  | obj n q l _ ih => exact .obj (t.nA n (List.getElem?_eq_some_iff.mp q).1) (t.keep _ _ n q) l ih
/-- all that stood stands -/
def Kq (h h' : HP) : Prop := ∀ (i : Nat) (o : O), h[i]? = some o → h'[i]? = some o
theorem Kq.refl : Kq h h := fun _ _ q => q
theorem Kq.trans {h2 : HP} (a : Kq h h') (b : Kq h' h2) : Kq h h2 := fun i o q => b i o (a i o q)
theorem Kq.app {t : HP} : Kq h (h ++ t) := fun i o q => by rw [List.getElem?_append_left (List.getElem?_eq_some_iff.mp q).1]; exact q
theorem Kq.len (a : Kq h h') : h.length ≤ h'.length := by
  cases hl : h.length with
  | zero => exact Nat.zero_le _
  | succ n =>
    have := a n (h[n]'(by omega)) (List.getElem?_eq_getElem _)
    exact (List.getElem?_eq_some_iff.mp this).1
theorem Kq.tr (a : Kq h h') : Tr A A h h' := ⟨fun i o _ q => a i o q, fun _ q => .inl q, a.len⟩
theorem Kq.isL (a : Kq h h') {i : Nat} {ds : List D} (q : isL i h = some ds) : Z.isL i h' = some ds := (a.tr (A := fun _ => False)).isL (fun q => q) q
theorem Rd.kq {d : D} {u : U} (r : Rd A h d u) (k : Kq h h') : Rd A h' d u := r.tr k.tr
theorem get_push {o : O} : (h ++ [o])[h.length]? = some o := by rw [List.getElem?_append_right (Nat.le_refl _)]; simp
/-! what stands for what -/
theorem Rd.non_iff {d : D} : Rd A h d .non ↔ d = .non := ⟨fun r => by cases r; rfl, fun e => e ▸ .non⟩
theorem Rd.bl_iff {d : D} {b : Bool} : Rd A h d (.bl b) ↔ d = .bl b := ⟨fun r => by cases r; rfl, fun e => e ▸ .bl⟩
theorem Rd.int_iff {d : D} {i : Int} : Rd A h d (.int i) ↔ d = .int i := ⟨fun r => by cases r; rfl, fun e => e ▸ .int⟩
theorem Rd.str_iff {d : D} {x : Str} : Rd A h d (.str x) ↔ d = .str x := ⟨fun r => by cases r; rfl, fun e => e ▸ .str⟩
theorem Rd.tup_inv {d : D} {us : List U} (r : Rd A h d (.tup us)) : ∃ ds, d = .tup ds ∧ AllR (Rd A h) ds us := by
  cases r with
  | tup l e => exact ⟨_, rfl, l, e⟩
theorem Rd.fz_inv {d : D} {us : List U} (r : Rd A h d (.fz us)) : ∃ i ds, d = .ref i ∧ ¬ A i ∧ h[i]? = some (.fz ds) ∧ AllR (Rd A h) ds us := by
  cases r with
  | fz n q l e => exact ⟨_, _, rfl, n, q, l, e⟩
theorem Rd.lst_inv {d : D} {us : List U} (r : Rd A h d (.lst us)) : ∃ i ds, d = .ref i ∧ ¬ A i ∧ h[i]? = some (.lst ds) ∧ AllR (Rd A h) ds us := by
  cases r with
  | lst n q l e => exact ⟨_, _, rfl, n, q, l, e⟩
theorem Rd.dic_inv {d : D} {us : List (Key × U)} (r : Rd A h d (.dic us)) : ∃ i ds, d = .ref i ∧ ¬ A i ∧ h[i]? = some (.dic ds) ∧ AllK (Rd A h) ds us := by
  cases r with
  | dic n q l e => exact ⟨_, _, rfl, n, q, l, e⟩
theorem Rd.dct_inv {d : D} {us : List (List Key × U)} (r : Rd A h d (.dct us)) : ∃ i ds, d = .ref i ∧ ¬ A i ∧ h[i]? = some (.dct ds) ∧ AllK (Rd A h) ds us := by
  cases r with
  | dct n q l e => exact ⟨_, _, rfl, n, q, l, e⟩
theorem Rd.obj_inv {d : D} {c : Nat} {us : List (Str × U)} (r : Rd A h d (.obj c us)) : ∃ i ds, d = .ref i ∧ ¬ A i ∧ h[i]? = some (.ins c ds) ∧ AllK (Rd A h) ds us := by
  cases r with
  | obj n q l e => exact ⟨_, _, rfl, n, q, l, e⟩
theorem Rd.mk_tup {ds : List D} {us : List U} (a : AllR (Rd A h) ds us) : Rd A h (.tup ds) (.tup us) := .tup a.len a.each
end
/-! what is owned: the fields of an object that it alone has -/
def ownF (f : Str) : Bool := ([("known" : Str), "counts", "stands", "books", "numbers", "limbs"] : List Str).contains f
def Cn0 (A : AS) (h : HP) (a : Nat) : U → Prop
  | .lst us => ∃ ds, h[a]? = some (.lst ds) ∧ AllR (Rd A h) ds us
  | .dic us => ∃ ds, h[a]? = some (.dic ds) ∧ AllK (Rd A h) ds us
  | .dct us => ∃ ds, h[a]? = some (.dct ds) ∧ AllK (Rd A h) ds us
  | _ => False
structure CnO (A : AS) (h : HP) (a : Nat) (S : List Nat) (c : Nat) (us : List (Str × U)) (ds : List (Str × D)) (Ss : List (List Nat)) : Prop where
  sum : S = a :: Ss.flatten
  nd : S.Nodup
  at_ : h[a]? = some (.ins c ds)
  keys : ds.map (·.1) = us.map (·.1)
  len : Ss.length = us.length
  each : ∀ (j : Nat) (p : Str × D) (q : Str × U) (s : List Nat), ds[j]? = some p → us[j]? = some q → Ss[j]? = some s → if ownF q.1 = true then ∃ b, p.2 = .ref b ∧ s = [b] ∧ Cn0 A h b q.2 else s = [] ∧ Rd A h p.2 q.2
def Cn (A : AS) (h : HP) (a : Nat) (S : List Nat) (u : U) : Prop := match u with
  | .obj c us => ∃ ds Ss, CnO A h a S c us ds Ss
  | u => S = [a] ∧ Cn0 A h a u
section
variable {A A' : AS} {h h' : HP}
theorem Cn0.lt {a : Nat} {u : U} (c : Cn0 A h a u) : a < h.length := by
  cases u with
  | lst us => obtain ⟨ds, q, _⟩ := c; exact (List.getElem?_eq_some_iff.mp q).1
  | dic us => obtain ⟨ds, q, _⟩ := c; exact (List.getElem?_eq_some_iff.mp q).1
  | dct us => obtain ⟨ds, q, _⟩ := c; exact (List.getElem?_eq_some_iff.mp q).1
  | _ => exact False.elim c
theorem Cn0.tr {a : Nat} {u : U} (c : Cn0 A h a u) (k : ∀ o, h[a]? = some o → h'[a]? = some o) (t : Tr A A' h h') : Cn0 A' h' a u := by
  cases u with
  | lst us => obtain ⟨ds, q, r⟩ := c; exact ⟨ds, k _ q, r.imp fun d u w => w.tr t⟩
  | dic us => obtain ⟨ds, q, r⟩ := c; exact ⟨ds, k _ q, r.imp fun d u w => w.tr t⟩
  | dct us => obtain ⟨ds, q, r⟩ := c; exact ⟨ds, k _ q, r.imp fun d u w => w.tr t⟩
  | _ => exact False.elim c
theorem Cn.cases {a : Nat} {S : List Nat} {u : U} (c : Cn A h a S u) : (S = [a] ∧ Cn0 A h a u) ∨ ∃ k us ds Ss, u = .obj k us ∧ CnO A h a S k us ds Ss := by
  cases u with
  | obj k us => obtain ⟨ds, Ss, q⟩ := c; exact .inr ⟨k, us, ds, Ss, rfl, q⟩
  | _ => exact .inl c
theorem CnO.lt {a c : Nat} {S : List Nat} {us : List (Str × U)} {ds : List (Str × D)} {Ss : List (List Nat)} (q : CnO A h a S c us ds Ss) : ∀ s ∈ S, s < h.length := fun s hs => by
  rw [q.sum] at hs
  rcases List.mem_cons.mp hs with e | e
  · rw [e]; exact (List.getElem?_eq_some_iff.mp q.at_).1
  · obtain ⟨l, hl, hs⟩ := List.mem_flatten.mp e
    obtain ⟨j, hj⟩ := List.mem_iff_getElem?.mp hl
    have j1 := (List.getElem?_eq_some_iff.mp hj).1
    have j2 : j < us.length := by rw [← q.len]; exact j1
    have j3 : j < ds.length := by have := congrArg List.length q.keys; simp only [List.length_map] at this; omega
    have := q.each j _ _ _ (List.getElem?_eq_getElem j3) (List.getElem?_eq_getElem j2) hj
    split at this
    · obtain ⟨b, _, e2, c0⟩ := this
      rw [e2, List.mem_singleton] at hs
      rw [hs]; exact c0.lt
    · rw [this.1] at hs; cases hs
theorem Cn.lt {a : Nat} {S : List Nat} {u : U} (c : Cn A h a S u) : ∀ s ∈ S, s < h.length := by
  rcases c.cases with ⟨e, c⟩ | ⟨k, us, ds, Ss, e, c⟩
  · intro s hs; rw [e, List.mem_singleton] at hs; rw [hs]; exact c.lt
  · exact c.lt
theorem Cn.self {a : Nat} {S : List Nat} {u : U} (c : Cn A h a S u) : a ∈ S := by
  rcases c.cases with ⟨e, c⟩ | ⟨k, us, ds, Ss, e, c⟩
  · rw [e]; simp
  · rw [c.sum]; simp
theorem CnO.tr {a c : Nat} {S : List Nat} {us : List (Str × U)} {ds : List (Str × D)} {Ss : List (List Nat)} (q : CnO A h a S c us ds Ss) (k : ∀ s ∈ S, ∀ o, h[s]? = some o → h'[s]? = some o) (t : Tr A A' h h') : CnO A' h' a S c us ds Ss :=
  ⟨q.sum, q.nd, k a (by rw [q.sum]; simp) _ q.at_, q.keys, q.len, fun j p r s q1 q2 q3 => by
    have := q.each j p r s q1 q2 q3
    split at this
    · rename_i hf
      rw [if_pos hf]
      obtain ⟨b, e1, e2, c0⟩ := this
      exact ⟨b, e1, e2, c0.tr (k b (by rw [q.sum]; exact List.mem_cons_of_mem _ (List.mem_flatten.mpr ⟨s, List.mem_of_getElem? q3, by rw [e2]; simp⟩))) t⟩
    · rename_i hf
      rw [if_neg hf]
      exact ⟨this.1, this.2.tr t⟩⟩
theorem Cn.tr {a : Nat} {S : List Nat} {u : U} (c : Cn A h a S u) (k : ∀ s ∈ S, ∀ o, h[s]? = some o → h'[s]? = some o) (t : Tr A A' h h') : Cn A' h' a S u := by
  cases u with
  | obj n us => obtain ⟨ds, Ss, q⟩ := c; exact ⟨ds, Ss, q.tr k t⟩
  | _ => exact ⟨c.1, c.2.tr (k a (by rw [c.1]; simp)) t⟩
/-- what is given away -/
theorem Cn0.rd {a : Nat} {u : U} (c : Cn0 A h a u) (n : ¬ A a) : Rd A h (.ref a) u := by
  cases u with
  | lst us => obtain ⟨ds, q, r⟩ := c; exact .lst n q r.len r.each
  | dic us => obtain ⟨ds, q, r⟩ := c; exact .dic n q r.keys r.each
  | dct us => obtain ⟨ds, q, r⟩ := c; exact .dct n q r.keys r.each
  | _ => exact False.elim c
theorem Cn.rd {a : Nat} {S : List Nat} {u : U} (c : Cn A h a S u) (n : ∀ s ∈ S, ¬ A s) : Rd A h (.ref a) u := by
  rcases c.cases with ⟨e, c⟩ | ⟨k, us, ds, Ss, e, c⟩
  · exact c.rd (n a (by rw [e]; simp))
  · rw [e]
    refine .obj (n a (by rw [c.sum]; simp)) c.at_ c.keys fun j p q q1 q2 => ?_
    have j2 : j < Ss.length := by rw [c.len]; exact (List.getElem?_eq_some_iff.mp q2).1
    have := c.each j p q _ q1 q2 (List.getElem?_eq_getElem j2)
    split at this
    · obtain ⟨b, e1, e2, c0⟩ := this
      rw [e1]
      exact c0.rd (n b (by rw [c.sum]; exact List.mem_cons_of_mem _ (List.mem_flatten.mpr ⟨_, List.getElem_mem j2, by rw [e2]; simp⟩)))
    · exact this.2
end
/-! a def's names: not there, told, owned -/
inductive Sl where
  | n | s (u : U) | o (u : U)
def Ow (Sg : Nat → List Nat) (pe : List Sl) : AS := fun a => ∃ (i : Nat) (u : U), pe[i]? = some (.o u) ∧ a ∈ Sg i
def Av (B : AS) (Sg : Nat → List Nat) (pe : List Sl) : AS := fun a => B a ∨ Ow Sg pe a
structure Sta (B : AS) (Sg : Nat → List Nat) (e : Ev) (h : HP) (pe : List Sl) : Prop where
  len : e.length = pe.length
  sh : ∀ (i : Nat) (u : U), pe[i]? = some (.s u) → ∃ d, e[i]? = some (some d) ∧ Rd (Av B Sg pe) h d u
  ow : ∀ (i : Nat) (u : U), pe[i]? = some (.o u) → ∃ a, e[i]? = some (some (.ref a)) ∧ Cn (Av B Sg pe) h a (Sg i) u
  dis : ∀ (i j : Nat) (u v : U), i ≠ j → pe[i]? = some (.o u) → pe[j]? = some (.o v) → ∀ a ∈ Sg i, a ∉ Sg j
  bl : ∀ a, B a → a < h.length
  nb : ∀ a, Ow Sg pe a → ¬ B a
section
variable {B : AS} {Sg : Nat → List Nat} {e : Ev} {h h' : HP} {pe : List Sl}
theorem Sta.olt (s : Sta B Sg e h pe) {a : Nat} (q : Ow Sg pe a) : a < h.length := by
  obtain ⟨i, u, q, m⟩ := q
  obtain ⟨b, _, c⟩ := s.ow i u q
  exact c.lt a m
theorem Sta.lt (s : Sta B Sg e h pe) {a : Nat} (q : Av B Sg pe a) : a < h.length := q.elim (s.bl a) s.olt
theorem Sta.new (s : Sta B Sg e h pe) {a : Nat} (l : h.length ≤ a) : ¬ Av B Sg pe a := fun q => by have := s.lt q; omega
theorem Sta.kq (s : Sta B Sg e h pe) (k : Kq h h') : Sta B Sg e h' pe :=
  ⟨s.len, fun i u q => by obtain ⟨d, e1, r⟩ := s.sh i u q; exact ⟨d, e1, r.kq k⟩, fun i u q => by obtain ⟨a, e1, c⟩ := s.ow i u q; exact ⟨a, e1, c.tr (fun s _ o w => k s o w) k.tr⟩, s.dis, fun a q => Nat.lt_of_lt_of_le (s.bl a q) k.len, s.nb⟩
theorem Tr.av {Sg' : Nat → List Nat} {pe' : List Sl} (t : Tr (Ow Sg pe) (Ow Sg' pe') h h') : Tr (Av B Sg pe) (Av B Sg' pe') h h' :=
  ⟨fun i o n q => t.keep i o (fun w => n (.inr w)) q, fun i q => q.elim (fun w => .inl (.inl w)) fun w => (t.sub i w).elim (fun z => .inl (.inr z)) .inr, t.len⟩
end
end Z
/-! Y1: what is said of expressions, statements and defs without a heap in sight; the rules. -/
namespace Z
open PySem L2

/-- a target that is owned from here on; names given away: marks alone -/
def gNo (i : Nat) : Tg := gN i
def sFz (_ : List Nat) (s : MS) : MS := s

/-! ### what is read on top -/
def RT (A : AS) (h : HP) (d : D) (u : U) : Prop := Rd A h d u ∨ ∃ a S, d = .ref a ∧ Cn A h a S u
section
variable {A A' : AS} {h h' : HP} {d : D}
theorem Rd.t {u : U} (r : Rd A h d u) : RT A h d u := .inl r
theorem RT.kq {u : U} (r : RT A h d u) (k : Kq h h') : RT A h' d u := r.elim (fun r => .inl (r.kq k)) fun ⟨a, S, e, c⟩ => .inr ⟨a, S, e, c.tr (fun s _ o w => k s o w) k.tr⟩
theorem RT.flat {u : U} (r : RT A h d u) (n : ∀ a S, ¬ Cn A h a S u) : Rd A h d u := r.elim id fun ⟨a, S, _, c⟩ => absurd c (n a S)
theorem RT.non (r : RT A h d .non) : d = .non := Rd.non_iff.mp (r.flat fun a S c => c.2)
theorem RT.bl {b : Bool} (r : RT A h d (.bl b)) : d = .bl b := Rd.bl_iff.mp (r.flat fun a S c => c.2)
theorem RT.int {i : Int} (r : RT A h d (.int i)) : d = .int i := Rd.int_iff.mp (r.flat fun a S c => c.2)
theorem RT.str {x : Str} (r : RT A h d (.str x)) : d = .str x := Rd.str_iff.mp (r.flat fun a S c => c.2)
theorem RT.tup {us : List U} (r : RT A h d (.tup us)) : ∃ ds, d = .tup ds ∧ AllR (Rd A h) ds us := Rd.tup_inv (r.flat fun a S c => c.2)
theorem RT.fz {us : List U} (r : RT A h d (.fz us)) : ∃ i ds, d = .ref i ∧ h[i]? = some (.fz ds) ∧ AllR (Rd A h) ds us := by
  obtain ⟨i, ds, e, _, q, a⟩ := Rd.fz_inv (r.flat fun a S c => c.2)
  exact ⟨i, ds, e, q, a⟩
theorem RT.lst {us : List U} (r : RT A h d (.lst us)) : ∃ i ds, d = .ref i ∧ h[i]? = some (.lst ds) ∧ AllR (Rd A h) ds us := by
  rcases r with r | ⟨a, S, e, c⟩
  · obtain ⟨i, ds, e, _, q, a⟩ := r.lst_inv
    exact ⟨i, ds, e, q, a⟩
  · obtain ⟨_, ds, q, a2⟩ := c
    exact ⟨a, ds, e, q, a2⟩
theorem RT.dic {us : List (Key × U)} (r : RT A h d (.dic us)) : ∃ i ds, d = .ref i ∧ h[i]? = some (.dic ds) ∧ AllK (Rd A h) ds us := by
  rcases r with r | ⟨a, S, e, c⟩
  · obtain ⟨i, ds, e, _, q, a⟩ := r.dic_inv
    exact ⟨i, ds, e, q, a⟩
  · obtain ⟨_, ds, q, a2⟩ := c
    exact ⟨a, ds, e, q, a2⟩
theorem RT.dct {us : List (List Key × U)} (r : RT A h d (.dct us)) : ∃ i ds, d = .ref i ∧ h[i]? = some (.dct ds) ∧ AllK (Rd A h) ds us := by
  rcases r with r | ⟨a, S, e, c⟩
  · obtain ⟨i, ds, e, _, q, a⟩ := r.dct_inv
    exact ⟨i, ds, e, q, a⟩
  · obtain ⟨_, ds, q, a2⟩ := c
    exact ⟨a, ds, e, q, a2⟩
end
/-- a list's things, whatever list -/
def Seq (u : U) (us : List U) : Prop := u = .lst us ∨ u = .fz us
theorem RT.seq {A : AS} {h : HP} {d : D} {u : U} {us : List U} (r : RT A h d u) (s : Seq u us) : ∃ i ds, d = .ref i ∧ isL i h = some ds ∧ AllR (Rd A h) ds us := by
  rcases s with s | s <;> subst s
  · obtain ⟨i, ds, e, q, a⟩ := r.lst; exact ⟨i, ds, e, isL_cases.mpr (.inl q), a⟩
  · obtain ⟨i, ds, e, q, a⟩ := r.fz; exact ⟨i, ds, e, isL_cases.mpr (.inr q), a⟩

/-! ### what comes of it -/
def Ful (A : AS) (h : HP) (r : R D) (u : U) : Prop := ∃ d h', r = .ok d h' ∧ Kq h h' ∧ Rd A h' d u
def Top (A : AS) (h : HP) (r : R D) (u : U) : Prop := ∃ d h', r = .ok d h' ∧ Kq h h' ∧ RT A h' d u
def Fsh (A : AS) (h : HP) (r : R D) (u : U) : Prop := ∃ i h' S, r = .ok (.ref i) h' ∧ Kq h h' ∧ (∀ s ∈ S, h.length ≤ s) ∧ Cn (fun x => A x ∨ x ∈ S) h' i S u
def Bd (A : AS) (h : HP) : Prop := ∀ a, A a → a < h.length
theorem Ful.top {A : AS} {h : HP} {r : R D} {u : U} (f : Ful A h r u) : Top A h r u := by obtain ⟨d, h', e, k, q⟩ := f; exact ⟨d, h', e, k, .inl q⟩
theorem Cn.less {A : AS} {h : HP} {a : Nat} {S T : List Nat} {u : U} (c : Cn (fun x => A x ∨ x ∈ T) h a S u) : Cn A h a S u := c.tr (fun _ _ _ q => q) ⟨fun i o _ q => q, fun i q => .inl (.inl q), Nat.le_refl _⟩
theorem Fsh.ful {A : AS} {h : HP} {r : R D} {u : U} (b : Bd A h) (f : Fsh A h r u) : Ful A h r u := by
  obtain ⟨i, h', S, e, k, n, c⟩ := f
  exact ⟨_, h', e, k, c.less.rd fun s hs q => by have := b s q; have := n s hs; omega⟩
theorem Rd.push {A : AS} {h : HP} {d : D} {u : U} {o : O} (r : Rd A h d u) : Rd (fun x => A x ∨ x ∈ [h.length]) (h ++ [o]) d u := r.tr ⟨fun i o _ q => Kq.app i o q, fun i q => q.elim .inl fun w => .inr (by rw [List.mem_singleton] at w; omega), by simp⟩
/-- a new list, a new dict -/
theorem Fsh.lst {A : AS} {h : HP} {ds : List D} {us : List U} (a : AllR (Rd A h) ds us) : Fsh A h (.ok (.ref h.length) (h ++ [.lst ds])) (.lst us) :=
  ⟨h.length, _, [h.length], rfl, Kq.app, fun s hs => by rw [List.mem_singleton] at hs; omega, rfl, ds, get_push, a.imp fun d u r => r.push⟩
theorem Fsh.dic {A : AS} {h : HP} {ds : List (Key × D)} {us : List (Key × U)} (a : AllK (Rd A h) ds us) : Fsh A h (.ok (.ref h.length) (h ++ [.dic ds])) (.dic us) :=
  ⟨h.length, _, [h.length], rfl, Kq.app, fun s hs => by rw [List.mem_singleton] at hs; omega, rfl, ds, get_push, a.imp fun d u r => r.push⟩
theorem Fsh.dct {A : AS} {h : HP} {ds : List (List Key × D)} {us : List (List Key × U)} (a : AllK (Rd A h) ds us) : Fsh A h (.ok (.ref h.length) (h ++ [.dct ds])) (.dct us) :=
  ⟨h.length, _, [h.length], rfl, Kq.app, fun s hs => by rw [List.mem_singleton] at hs; omega, rfl, ds, get_push, a.imp fun d u r => r.push⟩
/-- from a later heap -/
theorem Fsh.kq {A : AS} {h h' : HP} {r : R D} {u : U} (k : Kq h h') (f : Fsh A h' r u) : Fsh A h r u := by
  obtain ⟨i, h2, S, e, k2, n, c⟩ := f
  exact ⟨i, h2, S, e, k.trans k2, fun s hs => Nat.le_trans k.len (n s hs), c⟩
theorem Ful.kq {A : AS} {h h' : HP} {r : R D} {u : U} (k : Kq h h') (f : Ful A h' r u) : Ful A h r u := by
  obtain ⟨i, h2, e, k2, c⟩ := f
  exact ⟨i, h2, e, k.trans k2, c⟩
theorem Top.kq {A : AS} {h h' : HP} {r : R D} {u : U} (k : Kq h h') (f : Top A h' r u) : Top A h r u := by
  obtain ⟨i, h2, e, k2, c⟩ := f
  exact ⟨i, h2, e, k.trans k2, c⟩

/-! ### expressions -/
def Xp (C : Ctx) (pe : List Sl) (a : ME) (u : U) : Prop := ∀ ⦃B Sg e h⦄, Sta B Sg e h pe → Ful (Av B Sg pe) h (a C e h) u
def Xt (C : Ctx) (pe : List Sl) (a : ME) (u : U) : Prop := ∀ ⦃B Sg e h⦄, Sta B Sg e h pe → Top (Av B Sg pe) h (a C e h) u
def Xf (C : Ctx) (pe : List Sl) (a : ME) (u : U) : Prop := ∀ ⦃B Sg e h⦄, Sta B Sg e h pe → Fsh (Av B Sg pe) h (a C e h) u
def Xb (C : Ctx) (pe : List Sl) (t : MT) (b : Bool) : Prop := ∀ ⦃B Sg e h⦄, Sta B Sg e h pe → ∃ h', t C e h = .ok b h' ∧ Kq h h'
def Xa (C : Ctx) (pe : List Sl) (as : MA) (us : List U) : Prop := ∀ ⦃B Sg e h⦄, Sta B Sg e h pe → ∃ ds h', as C e h = .ok ds h' ∧ Kq h h' ∧ AllR (Rd (Av B Sg pe) h') ds us
def Xu (C : Ctx) (pe : List Sl) (as : MA) (us : List U) : Prop := ∀ ⦃B Sg e h⦄, Sta B Sg e h pe → ∃ ds h', as C e h = .ok ds h' ∧ Kq h h' ∧ AllR (RT (Av B Sg pe) h') ds us
def Xo (C : Ctx) (pe : List Sl) (m : MO) (o : Option Int) : Prop := ∀ ⦃B Sg e h⦄, Sta B Sg e h pe → ∃ h', m C e h = .ok o h' ∧ Kq h h'
/-- defs -/
abbrev Gn := List D → HP → R D
def Fu (G : Gn) (vs : List U) (u : U) : Prop := ∀ ⦃A h ds⦄, Bd A h → AllR (Rd A h) ds vs → Ful A h (G ds h) u
def Ff (G : Gn) (vs : List U) (u : U) : Prop := ∀ ⦃A h ds⦄, Bd A h → AllR (Rd A h) ds vs → Fsh A h (G ds h) u
theorem Ff.fu {G : Gn} {vs : List U} {u : U} (f : Ff G vs u) : Fu G vs u := fun _ _ _ b r => (f b r).ful b
/-- operators, built-in functions -/
def O2 (op : D → D → HP → R D) (x y u : U) : Prop := ∀ ⦃A h dx dy⦄, Bd A h → RT A h dx x → RT A h dy y → Ful A h (op dx dy h) u
def O2f (op : D → D → HP → R D) (x y u : U) : Prop := ∀ ⦃A h dx dy⦄, Bd A h → RT A h dx x → RT A h dy y → Fsh A h (op dx dy h) u
def O1 (op : D → HP → R D) (x u : U) : Prop := ∀ ⦃A h dx⦄, Bd A h → RT A h dx x → Ful A h (op dx h) u
def O1f (op : D → HP → R D) (x u : U) : Prop := ∀ ⦃A h dx⦄, Bd A h → RT A h dx x → Fsh A h (op dx h) u
def B1 (f : List D → HP → R D) (us : List U) (u : U) : Prop := ∀ ⦃A h ds⦄, Bd A h → AllR (RT A h) ds us → Ful A h (f ds h) u
def B1f (f : List D → HP → R D) (us : List U) (u : U) : Prop := ∀ ⦃A h ds⦄, Bd A h → AllR (RT A h) ds us → Fsh A h (f ds h) u
def M1 (f : D → List D → HP → R D) (x : U) (us : List U) (u : U) : Prop := ∀ ⦃A h d ds⦄, Bd A h → RT A h d x → AllR (RT A h) ds us → Ful A h (f d ds h) u
def M1f (f : D → List D → HP → R D) (x : U) (us : List U) (u : U) : Prop := ∀ ⦃A h d ds⦄, Bd A h → RT A h d x → AllR (RT A h) ds us → Fsh A h (f d ds h) u
def OkU (ok : D → HP → Bool) (x : U) : Prop := ∀ ⦃A h d⦄, RT A h d x → ok d h = true
theorem O2f.o2 {op : D → D → HP → R D} {x y u : U} (f : O2f op x y u) : O2 op x y u := fun _ _ _ _ b r s => (f b r s).ful b
theorem O1f.o1 {op : D → HP → R D} {x u : U} (f : O1f op x u) : O1 op x u := fun _ _ _ b r => (f b r).ful b
theorem B1f.b1 {f : List D → HP → R D} {us : List U} {u : U} (q : B1f f us u) : B1 f us u := fun _ _ _ b r => (q b r).ful b
theorem M1f.m1 {f : D → List D → HP → R D} {x : U} {us : List U} {u : U} (q : M1f f x us u) : M1 f x us u := fun _ _ _ _ b r s => (q b r s).ful b
/-- what goes on by a truth -/
def Cd (b : Bool) (p q : Prop) : Prop := if b = true then p else q
section
variable {p q : Prop}
theorem cd_t (k : p) : Cd true p q := k
theorem cd_f (k : q) : Cd false p q := by unfold Cd; simpa using k
theorem cd_dt {c : Prop} [Decidable c] (l : c) (k : p) : Cd (decide c) p q := by unfold Cd; rw [if_pos (decide_eq_true l)]; exact k
theorem cd_df {c : Prop} [Decidable c] (l : ¬ c) (k : q) : Cd (decide c) p q := by unfold Cd; rw [if_neg (by simpa using l)]; exact k
theorem cd_n {b : Bool} (k : Cd b q p) : Cd (!b) p q := by cases b <;> exact k
end
section
variable {C : Ctx} {pe pe0 pe1 pe2 : List Sl} {a b c o : ME} {as : MA} {t s : MT} {u v w x y z : U} {us vs ws : List U} {bb b2 : Bool} {i j : Nat} {ds : List D}
theorem Xp.top (q : Xp C pe a u) : Xt C pe a u := fun _ _ _ _ s => (q s).top
theorem Xf.p (q : Xf C pe a u) : Xp C pe a u := fun _ _ _ _ s => (q s).ful fun _ w => s.lt w
theorem x_v (l : pe[i]? = some (.s u)) : Xp C pe (eV i) u := fun B Sg e h s => by
  obtain ⟨d, e1, r⟩ := s.sh i u l
  exact ⟨d, h, by unfold eV; rw [e1], Kq.refl, r⟩
theorem t_v (l : pe[i]? = some (.o u)) : Xt C pe (eV i) u := fun B Sg e h s => by
  obtain ⟨d, e1, r⟩ := s.ow i u l
  exact ⟨.ref d, h, by unfold eV; rw [e1], Kq.refl, .inr ⟨d, _, rfl, r⟩⟩
theorem x_ci {k : Int} : Xp C pe (eC (.int k)) (.int k) := fun B Sg e h s => ⟨_, h, rfl, Kq.refl, .int⟩
theorem x_cs {k : Str} : Xp C pe (eC (.str k)) (.str k) := fun B Sg e h s => ⟨_, h, rfl, Kq.refl, .str⟩
theorem x_cb {k : Bool} : Xp C pe (eC (.bl k)) (.bl k) := fun B Sg e h s => ⟨_, h, rfl, Kq.refl, .bl⟩
theorem x_cn : Xp C pe (eC .non) .non := fun B Sg e h s => ⟨_, h, rfl, Kq.refl, .non⟩
theorem x_op {op : D → D → HP → R D} (ha : Xt C pe a x) (hb : Xt C pe b y) (ho : O2 op x y u) : Xp C pe (eOp op a b) u := fun B Sg e h s => by
  obtain ⟨dx, h1, e1, k1, r1⟩ := ha s
  have s1 := s.kq k1
  obtain ⟨dy, h2, e2, k2, r2⟩ := hb s1
  have s2 := s1.kq k2
  have := ho (fun _ w => s2.lt w) (r1.kq k2) r2
  unfold eOp; rw [e1]; simp only [R.bind_ok]; rw [e2]; simp only [R.bind_ok]
  exact this.kq (k1.trans k2)
theorem f_op {op : D → D → HP → R D} (ha : Xt C pe a x) (hb : Xt C pe b y) (ho : O2f op x y u) : Xf C pe (eOp op a b) u := fun B Sg e h s => by
  obtain ⟨dx, h1, e1, k1, r1⟩ := ha s
  have s1 := s.kq k1
  obtain ⟨dy, h2, e2, k2, r2⟩ := hb s1
  have s2 := s1.kq k2
  have := ho (fun _ w => s2.lt w) (r1.kq k2) r2
  unfold eOp; rw [e1]; simp only [R.bind_ok]; rw [e2]; simp only [R.bind_ok]
  exact this.kq (k1.trans k2)
theorem x_un {op : D → HP → R D} (ha : Xt C pe a x) (ho : O1 op x u) : Xp C pe (eUn op a) u := fun B Sg e h s => by
  obtain ⟨dx, h1, e1, k1, r1⟩ := ha s
  have := ho (fun _ w => (s.kq k1).lt w) r1
  unfold eUn; rw [e1]; simp only [R.bind_ok]
  exact this.kq k1
theorem f_un {op : D → HP → R D} (ha : Xt C pe a x) (ho : O1f op x u) : Xf C pe (eUn op a) u := fun B Sg e h s => by
  obtain ⟨dx, h1, e1, k1, r1⟩ := ha s
  have := ho (fun _ w => (s.kq k1).lt w) r1
  unfold eUn; rw [e1]; simp only [R.bind_ok]
  exact this.kq k1
theorem Xp.bl (ha : Xp C pe a (.bl bb)) {B Sg e h} (s : Sta B Sg e h pe) : ∃ h', a C e h = .ok (.bl bb) h' ∧ Kq h h' := by
  obtain ⟨d, h1, e1, k1, r1⟩ := ha s
  rw [Rd.bl_iff] at r1; subst r1
  exact ⟨h1, e1, k1⟩
theorem b_v (ha : Xp C pe a (.bl bb)) : Xb C pe (tV a) bb := fun B Sg e h s => by
  obtain ⟨h1, e1, k1⟩ := ha.bl s
  exact ⟨h1, by unfold tV; rw [e1]; rfl, k1⟩
theorem b_an (ha : Xb C pe t bb) (hb : Cd bb (Xb C pe s b2) (b2 = false)) : Xb C pe (tAn t s) b2 := fun B Sg e h q => by
  obtain ⟨h1, e1, k1⟩ := ha q
  unfold tAn; rw [e1]; simp only [R.bind_ok]
  cases bb with
  | true => obtain ⟨h2, e2, k2⟩ := hb (q.kq k1); exact ⟨h2, by simpa using e2, k1.trans k2⟩
  | false => have : b2 = false := hb; subst this; exact ⟨h1, by simp, k1⟩
theorem b_or (ha : Xb C pe t bb) (hb : Cd bb (b2 = true) (Xb C pe s b2)) : Xb C pe (tOr t s) b2 := fun B Sg e h q => by
  obtain ⟨h1, e1, k1⟩ := ha q
  unfold tOr; rw [e1]; simp only [R.bind_ok]
  cases bb with
  | false => obtain ⟨h2, e2, k2⟩ := (show Xb C pe s b2 from hb) (q.kq k1); exact ⟨h2, by simpa using e2, k1.trans k2⟩
  | true => have : b2 = true := hb; subst this; exact ⟨h1, by simp, k1⟩
theorem b_nt (ha : Xb C pe t bb) : Xb C pe (tNt t) (!bb) := fun B Sg e h q => by
  obtain ⟨h1, e1, k1⟩ := ha q
  exact ⟨h1, by unfold tNt; rw [e1]; rfl, k1⟩
theorem x_ean (ha : Xp C pe a (.bl bb)) (hb : Cd bb (Xp C pe b u) (u = .bl false)) : Xp C pe (eAn a b) u := fun B Sg e h q => by
  obtain ⟨h1, e1, k1⟩ := ha.bl q
  unfold eAn; rw [e1]; simp only [R.bind_ok]
  cases bb with
  | true => simp only [if_true]; exact ((show Xp C pe b u from hb) (q.kq k1)).kq k1
  | false => have : u = .bl false := hb; subst this; exact ⟨_, h1, by simp, k1, .bl⟩
theorem x_eor (ha : Xp C pe a (.bl bb)) (hb : Cd bb (u = .bl true) (Xp C pe b u)) : Xp C pe (eOr a b) u := fun B Sg e h q => by
  obtain ⟨h1, e1, k1⟩ := ha.bl q
  unfold eOr; rw [e1]; simp only [R.bind_ok]
  cases bb with
  | false => simp only [Bool.false_eq_true, if_false]; exact ((show Xp C pe b u from hb) (q.kq k1)).kq k1
  | true => have : u = .bl true := hb; subst this; exact ⟨_, h1, by simp, k1, .bl⟩
theorem x_ent (ha : Xp C pe a (.bl bb)) : Xp C pe (eNt a) (.bl (!bb)) := fun B Sg e h q => by
  obtain ⟨h1, e1, k1⟩ := ha.bl q
  exact ⟨_, h1, by unfold eNt; rw [e1]; rfl, k1, .bl⟩
theorem x_eif (ha : Xb C pe t bb) (hb : Cd bb (Xp C pe a u) (Xp C pe b u)) : Xp C pe (eIf t a b) u := fun B Sg e h q => by
  obtain ⟨h1, e1, k1⟩ := ha q
  unfold eIf; rw [e1]; simp only [R.bind_ok]
  cases bb with
  | true => simp only [if_true]; exact ((show Xp C pe a u from hb) (q.kq k1)).kq k1
  | false => simp only [Bool.false_eq_true, if_false]; exact ((show Xp C pe b u from hb) (q.kq k1)).kq k1
theorem f_eif (ha : Xb C pe t bb) (hb : Cd bb (Xf C pe a u) (Xf C pe b u)) : Xf C pe (eIf t a b) u := fun B Sg e h q => by
  obtain ⟨h1, e1, k1⟩ := ha q
  unfold eIf; rw [e1]; simp only [R.bind_ok]
  cases bb with
  | true => simp only [if_true]; exact ((show Xf C pe a u from hb) (q.kq k1)).kq k1
  | false => simp only [Bool.false_eq_true, if_false]; exact ((show Xf C pe b u from hb) (q.kq k1)).kq k1
theorem a_n : Xa C pe aN [] := fun B Sg e h s => ⟨[], h, rfl, Kq.refl, .nil⟩
theorem u_n : Xu C pe aN [] := fun B Sg e h s => ⟨[], h, rfl, Kq.refl, .nil⟩
theorem a_c (ha : Xp C pe a u) (hb : Xa C pe as us) : Xa C pe (aC a as) (u :: us) := fun B Sg e h s => by
  obtain ⟨d, h1, e1, k1, r1⟩ := ha s
  obtain ⟨ds, h2, e2, k2, r2⟩ := hb (s.kq k1)
  exact ⟨d :: ds, h2, by unfold aC; rw [e1]; simp only [R.bind_ok]; rw [e2]; rfl, k1.trans k2, .cons (r1.kq k2) r2⟩
theorem u_c (ha : Xt C pe a u) (hb : Xu C pe as us) : Xu C pe (aC a as) (u :: us) := fun B Sg e h s => by
  obtain ⟨d, h1, e1, k1, r1⟩ := ha s
  obtain ⟨ds, h2, e2, k2, r2⟩ := hb (s.kq k1)
  exact ⟨d :: ds, h2, by unfold aC; rw [e1]; simp only [R.bind_ok]; rw [e2]; rfl, k1.trans k2, .cons (r1.kq k2) r2⟩
theorem x_tup (ha : Xa C pe as us) (l : us.length ≤ sizeLine) : Xp C pe (eTup as) (.tup us) := fun B Sg e h s => by
  obtain ⟨ds, h1, e1, k1, r1⟩ := ha s
  exact ⟨_, h1, by unfold eTup; rw [e1]; simp only [R.bind_ok]; rw [if_pos (by rw [r1.len]; exact l)], k1, .mk_tup r1⟩
theorem f_lst (ha : Xa C pe as us) (l : us.length ≤ sizeLine) : Xf C pe (eLst as) (.lst us) := fun B Sg e h s => by
  obtain ⟨ds, h1, e1, k1, r1⟩ := ha s
  unfold eLst; rw [e1]; simp only [R.bind_ok]; rw [if_pos (by rw [r1.len]; exact l)]
  exact (Fsh.lst r1).kq k1
theorem f_call {f : Nat} (ha : Xa C pe as us) (hf : Ff (C.call f) us u) : Xf C pe (eCall f as []) u := fun B Sg e h s => by
  obtain ⟨ds, h1, e1, k1, r1⟩ := ha s
  unfold eCall; rw [e1]; simp only [R.bind_ok, List.append_nil]
  exact (hf (fun _ w => (s.kq k1).lt w) r1).kq k1
/-- defaults: whole numbers -/
theorem x_calld {f : Nat} {ns : List Int} (ha : Xa C pe as us) (hf : Fu (C.call f) (us ++ ns.map U.int) u) : Xp C pe (eCall f as (ns.map D.int)) u := fun B Sg e h s => by
  obtain ⟨ds, h1, e1, k1, r1⟩ := ha s
  unfold eCall; rw [e1]; simp only [R.bind_ok]
  exact (hf (fun _ w => (s.kq k1).lt w) (r1.app (AllR.map fun x _ => .int))).kq k1
theorem x_bf {f : List D → HP → R D} (ha : Xu C pe as us) (hf : B1 f us u) : Xp C pe (eBf f as) u := fun B Sg e h s => by
  obtain ⟨ds, h1, e1, k1, r1⟩ := ha s
  unfold eBf; rw [e1]; simp only [R.bind_ok]
  exact (hf (fun _ w => (s.kq k1).lt w) r1).kq k1
theorem f_bf {f : List D → HP → R D} (ha : Xu C pe as us) (hf : B1f f us u) : Xf C pe (eBf f as) u := fun B Sg e h s => by
  obtain ⟨ds, h1, e1, k1, r1⟩ := ha s
  unfold eBf; rw [e1]; simp only [R.bind_ok]
  exact (hf (fun _ w => (s.kq k1).lt w) r1).kq k1
theorem x_bk {ok : D → HP → Bool} {f : D → List D → HP → R D} (ho : Xt C pe o x) (hk : OkU ok x) (ha : Xu C pe as us) (hf : M1 f x us u) : Xp C pe (eBk ok f o as) u := fun B Sg e h s => by
  obtain ⟨d, h1, e1, k1, r1⟩ := ho s
  obtain ⟨ds, h2, e2, k2, r2⟩ := ha (s.kq k1)
  unfold eBk; rw [e1]; simp only [R.bind_ok]; rw [if_pos (hk r1), e2]; simp only [R.bind_ok]
  exact (hf (fun _ w => (s.kq (k1.trans k2)).lt w) (r1.kq k2) r2).kq (k1.trans k2)
theorem f_bk {ok : D → HP → Bool} {f : D → List D → HP → R D} (ho : Xt C pe o x) (hk : OkU ok x) (ha : Xu C pe as us) (hf : M1f f x us u) : Xf C pe (eBk ok f o as) u := fun B Sg e h s => by
  obtain ⟨d, h1, e1, k1, r1⟩ := ho s
  obtain ⟨ds, h2, e2, k2, r2⟩ := ha (s.kq k1)
  unfold eBk; rw [e1]; simp only [R.bind_ok]; rw [if_pos (hk r1), e2]; simp only [R.bind_ok]
  exact (hf (fun _ w => (s.kq (k1.trans k2)).lt w) (r1.kq k2) r2).kq (k1.trans k2)
theorem o_n : Xo C pe oN none := fun B Sg e h s => ⟨h, rfl, Kq.refl⟩
theorem o_s {k : Int} (ha : Xp C pe a (.int k)) : Xo C pe (oS a) (some k) := fun B Sg e h s => by
  obtain ⟨d, h1, e1, k1, r1⟩ := ha s
  rw [Rd.int_iff] at r1; subst r1
  exact ⟨h1, by unfold oS; rw [e1]; rfl, k1⟩
def S3 (x : U) (l r : Option Int) (u : U) : Prop := ∀ ⦃A h d⦄, Bd A h → RT A h d x → Ful A h (opSl d l r h) u
def S3f (x : U) (l r : Option Int) (u : U) : Prop := ∀ ⦃A h d⦄, Bd A h → RT A h d x → Fsh A h (opSl d l r h) u
theorem S3f.s3 {l r : Option Int} (q : S3f x l r u) : S3 x l r u := fun _ _ _ b w => (q b w).ful b
theorem x_sl {lo hi : MO} {l r : Option Int} (ha : Xt C pe a x) (hl : Xo C pe lo l) (hh : Xo C pe hi r) (q : S3 x l r u) : Xp C pe (eSl opSl a lo hi) u := fun B Sg e h s => by
  obtain ⟨d, h1, e1, k1, r1⟩ := ha s
  obtain ⟨h2, e2, k2⟩ := hl (s.kq k1)
  obtain ⟨h3, e3, k3⟩ := hh ((s.kq k1).kq k2)
  have k := (k1.trans k2).trans k3
  unfold eSl; rw [e1]; simp only [R.bind_ok]; rw [e2]; simp only [R.bind_ok]; rw [e3]; simp only [R.bind_ok]
  exact (q (fun _ w => (s.kq k).lt w) (r1.kq (k2.trans k3))).kq k
theorem f_sl {lo hi : MO} {l r : Option Int} (ha : Xt C pe a x) (hl : Xo C pe lo l) (hh : Xo C pe hi r) (q : S3f x l r u) : Xf C pe (eSl opSl a lo hi) u := fun B Sg e h s => by
  obtain ⟨d, h1, e1, k1, r1⟩ := ha s
  obtain ⟨h2, e2, k2⟩ := hl (s.kq k1)
  obtain ⟨h3, e3, k3⟩ := hh ((s.kq k1).kq k2)
  have k := (k1.trans k2).trans k3
  unfold eSl; rw [e1]; simp only [R.bind_ok]; rw [e2]; simp only [R.bind_ok]; rw [e3]; simp only [R.bind_ok]
  exact (q (fun _ w => (s.kq k).lt w) (r1.kq (k2.trans k3))).kq k
/-- chains of comparisons -/
theorem x_chn {op op2 : D → D → HP → R D} (ha : Xt C pe a x) (hb : Xt C pe b y) (ho : O2 op x y (.bl bb)) (hc : Cd bb (∃ z, Xt C pe c z ∧ O2 op2 y z u) (u = .bl false)) : Xp C pe (eChn op op2 a b c) u := fun B Sg e h s => by
  obtain ⟨dx, h1, e1, k1, r1⟩ := ha s
  have s1 := s.kq k1
  obtain ⟨dy, h2, e2, k2, r2⟩ := hb s1
  have s2 := s1.kq k2
  obtain ⟨dz, h3, e3, k3, r3⟩ := ho (fun _ w => s2.lt w) (r1.kq k2) r2
  rw [Rd.bl_iff] at r3; subst r3
  have s3 := s2.kq k3
  unfold eChn; rw [e1]; simp only [R.bind_ok]; rw [e2]; simp only [R.bind_ok]; rw [e3]; simp only [R.bind_ok]
  cases bb with
  | false => have : u = .bl false := hc; subst this; exact ⟨_, h3, by simp, (k1.trans k2).trans k3, .bl⟩
  | true =>
    obtain ⟨z, hz, o2⟩ := hc
    obtain ⟨dw, h4, e4, k4, r4⟩ := hz s3
    simp only [if_true]; rw [e4]; simp only [R.bind_ok]
    exact (o2 (fun _ w => (s3.kq k4).lt w) (r2.kq (k3.trans k4)) r4).kq (((k1.trans k2).trans k3).trans k4)
/-- isinstance -/
def TyN (u : U) : String := match u with
  | .non => "NoneType"
  | .bl _ => "bool"
  | .int _ => "int"
  | .str _ => "str"
  | .tup _ => "tuple"
  | .lst _ => "list"
  | .fz _ => "list"
  | .dic _ => "dict"
  | .dct _ => "dict"
  | .obj _ _ => ""
theorem x_is {T : String} (ha : Xt C pe a x) (ho : TyN x ≠ "") : Xp C pe (eIs T a) (.bl (TyN x == T || (TyN x == "bool" && T == "int"))) := fun B Sg e h s => by
  obtain ⟨d, h1, e1, k1, r1⟩ := ha s
  refine ⟨_, h1, ?_, k1, .bl⟩
  unfold eIs; rw [e1]; simp only [R.bind_ok]
  have : tyName d h1 = some (TyN x) := by
    cases x with
    | non => rw [r1.non]; rfl
    | bl b => rw [r1.bl]; rfl
    | int i => rw [r1.int]; rfl
    | str i => rw [r1.str]; rfl
    | tup us => obtain ⟨ds, e, _⟩ := r1.tup; rw [e]; rfl
    | lst us => obtain ⟨i, ds, e, q, _⟩ := r1.lst; rw [e]; simp only [tyName, q]; rfl
    | fz us => obtain ⟨i, ds, e, q, _⟩ := r1.fz; rw [e]; simp only [tyName, q]; rfl
    | dic us => obtain ⟨i, ds, e, q, _⟩ := r1.dic; rw [e]; simp only [tyName, q]; rfl
    | dct us => obtain ⟨i, ds, e, q, _⟩ := r1.dct; rw [e]; simp only [tyName, q]; rfl
    | obj c us => exact absurd rfl ho
  simp only [this]
/-- fields, methods, objects made -/
theorem look_at {fs : List (Str × D)} {us : List (Str × U)} {P : D → U → Prop} {f : Str} (r : AllK P fs us) (q : us.lookup f = some u) : ∃ d, fs.lookup f = some d ∧ P d u := by
  induction us generalizing fs with
  | nil => cases q
  | cons p us ih =>
    cases fs with
    | nil => exact absurd r.keys (by simp)
    | cons z fs =>
      have h1 : z.1 = p.1 := by have := r.keys; simp at this; exact this.1
      have h0 := r.each 0 z p rfl rfl
      rw [List.lookup_cons] at q ⊢
      rw [h1]
      split at q
      · cases q; exact ⟨_, rfl, h0⟩
      · exact ih ⟨by have := r.keys; simp at this; exact this.2, fun j p q q1 q2 => r.each (j + 1) p q (by simpa using q1) (by simpa using q2)⟩ q
theorem look_none {fs : List (Str × D)} {us : List (Str × U)} {f : Str} (r : fs.map (·.1) = us.map (·.1)) (q : (us.lookup f).isNone = true) : (fs.lookup f).isNone = true := by
  induction us generalizing fs with
  | nil => cases fs with
    | nil => rfl
    | cons z fs => exact absurd r (by simp)
  | cons p us ih =>
    cases fs with
    | nil => exact absurd r (by simp)
    | cons z fs =>
      simp only [List.map_cons, List.cons.injEq] at r
      rw [List.lookup_cons] at q ⊢
      rw [r.1]
      split at q
      · cases q
      · exact ih r.2 q
theorem x_fld {cs : List Nat} {f : Str} {n : Nat} {fs : List (Str × U)} (ha : Xp C pe a (.obj n fs)) (hc : n ∈ cs) (hf : fs.lookup f = some u) : Xp C pe (eFld cs a f) u := fun B Sg e h s => by
  obtain ⟨d, h1, e1, k1, r1⟩ := ha s
  obtain ⟨i, gs, rfl, _, q, r⟩ := r1.obj_inv
  obtain ⟨dv, q2, r2⟩ := look_at r hf
  exact ⟨dv, h1, by unfold eFld; rw [e1]; simp only [R.bind_ok, q, if_pos hc, q2], k1, r2⟩
theorem x_meth {cs : List Nat} {m n : Nat} {nm : Str} {fs : List (Str × U)} (ho : Xp C pe o (.obj n fs)) (hc : n ∈ cs) (hn : (fs.lookup nm).isNone = true) (ha : Xa C pe as us) (hm : Fu (C.meth n m) (.obj n fs :: us) u) : Xp C pe (eMeth cs o m nm as) u := fun B Sg e h s => by
  obtain ⟨d, h1, e1, k1, r1⟩ := ho s
  obtain ⟨i, gs, rfl, _, q, r⟩ := r1.obj_inv
  obtain ⟨ds, h2, e2, k2, r2⟩ := ha (s.kq k1)
  unfold eMeth; rw [e1]; simp only [R.bind_ok, q, if_pos (And.intro hc (look_none r.keys hn))]; rw [e2]; simp only [R.bind_ok]
  exact (hm (fun _ w => (s.kq (k1.trans k2)).lt w) (.cons (r1.kq k2) r2)).kq (k1.trans k2)
theorem f_make {n : Nat} (ha : Xa C pe as us) (hm : Ff (C.make n) us u) : Xf C pe (eMake n as) u := fun B Sg e h s => by
  obtain ⟨ds, h1, e1, k1, r1⟩ := ha s
  unfold eMake; rw [e1]; simp only [R.bind_ok]
  exact (hm (fun _ w => (s.kq k1).lt w) r1).kq k1
end

/-! ### names set -/
structure SetS (i : Nat) (pe : List Sl) (u : U) (pe1 : List Sl) : Prop where
  eq : pe1 = pe.set i (.s u)
  lt : i < pe.length
/-- one that was not owned -/
structure SetN (i : Nat) (pe : List Sl) (u : U) (pe1 : List Sl) : Prop where
  s : SetS i pe u pe1
  no : ∀ v, pe[i]? ≠ some (.o v)
structure SetO (i : Nat) (pe : List Sl) (u : U) (pe1 : List Sl) : Prop where
  eq : pe1 = pe.set i (.o u)
  lt : i < pe.length
structure SetX (i : Nat) (pe : List Sl) (pe1 : List Sl) : Prop where
  eq : pe1 = pe.set i .n
section
variable {pe pe1 : List Sl} {u v : U} {i : Nat} {o : Sl}
theorem ts0 : SetS 0 (o :: pe) u (.s u :: pe) := ⟨rfl, by simp⟩
theorem tsS (k : SetS i pe u pe1) : SetS (i + 1) (o :: pe) u (o :: pe1) := ⟨by rw [k.eq]; rfl, by have := k.lt; simpa using this⟩
theorem tn0 : SetN 0 (.n :: pe) u (.s u :: pe) := ⟨ts0, fun v q => by cases q⟩
theorem tn1 : SetN 0 (.s v :: pe) u (.s u :: pe) := ⟨ts0, fun v q => by cases q⟩
theorem tnS (k : SetN i pe u pe1) : SetN (i + 1) (o :: pe) u (o :: pe1) := ⟨tsS k.s, fun v q => k.no v (by simpa using q)⟩
theorem to0 : SetO 0 (o :: pe) u (.o u :: pe) := ⟨rfl, by simp⟩
theorem toS (k : SetO i pe u pe1) : SetO (i + 1) (o :: pe) u (o :: pe1) := ⟨by rw [k.eq]; rfl, by have := k.lt; simpa using this⟩
theorem tx0 : SetX 0 (o :: pe) (.n :: pe) := ⟨rfl⟩
theorem txS (k : SetX i pe pe1) : SetX (i + 1) (o :: pe) (o :: pe1) := ⟨by rw [k.eq]; rfl⟩
end
section
variable {B : AS} {Sg : Nat → List Nat} {e : Ev} {h h' : HP} {pe pe1 : List Sl} {u v : U} {i : Nat}
/-- fewer are owned -/
theorem Ow.set_no {s : Sl} (hs : ∀ v, s ≠ .o v) {a : Nat} (q : Ow Sg (pe.set i s) a) : Ow Sg pe a := by
  obtain ⟨j, w, q, m⟩ := q
  by_cases ej : i = j
  · subst ej
    rw [List.getElem?_set] at q
    simp only [if_true] at q
    split at q
    · exact absurd (Option.some.inj q) (hs w)
    · cases q
  · rw [List.getElem?_set_ne ej] at q
    exact ⟨j, w, q, m⟩
theorem Tr.less {pe2 : List Sl} (f : ∀ a, Ow Sg pe2 a → Ow Sg pe a) : Tr (Av B Sg pe) (Av B Sg pe2) h h := ⟨fun i o _ q => q, fun i q => .inl (q.elim .inl fun w => .inr (f i w)), Nat.le_refl _⟩
theorem Tr.lessO {pe2 : List Sl} (f : ∀ a, Ow Sg pe2 a → Ow Sg pe a) : Tr (Ow Sg pe) (Ow Sg pe2) h h := ⟨fun i o _ q => q, fun i q => .inl (f i q), Nat.le_refl _⟩
theorem Sta.set (s : Sta B Sg e h pe) {d : D} (r : Rd (Av B Sg pe) h d u) (k : SetS i pe u pe1) : Sta B Sg (e.set i (some d)) h pe1 := by
  have f : ∀ a, Ow Sg pe1 a → Ow Sg pe a := by rw [k.eq]; exact fun a => Ow.set_no fun v q => by cases q
  have t : Tr (Av B Sg pe) (Av B Sg pe1) h h := Tr.less f
  refine ⟨by rw [k.eq]; simp [s.len], fun j w q => ?_, fun j w q => ?_, fun a b w z n q1 q2 => ?_, s.bl, fun a q => s.nb a (f a q)⟩
  · by_cases ej : i = j
    · subst ej
      rw [k.eq, List.getElem?_set_self k.lt] at q
      cases q
      exact ⟨d, List.getElem?_set_self (by rw [s.len]; exact k.lt), r.tr t⟩
    · rw [k.eq, List.getElem?_set_ne ej] at q
      obtain ⟨d', e1, r1⟩ := s.sh j w q
      exact ⟨d', by rw [List.getElem?_set_ne ej]; exact e1, r1.tr t⟩
  · by_cases ej : i = j
    · subst ej
      rw [k.eq, List.getElem?_set_self k.lt] at q
      cases q
    · rw [k.eq, List.getElem?_set_ne ej] at q
      obtain ⟨d', e1, r1⟩ := s.ow j w q
      exact ⟨d', by rw [List.getElem?_set_ne ej]; exact e1, r1.tr (fun _ _ _ q => q) t⟩
  · have e1 : i ≠ a := fun e => by subst e; rw [k.eq, List.getElem?_set_self k.lt] at q1; cases q1
    have e2 : i ≠ b := fun e => by subst e; rw [k.eq, List.getElem?_set_self k.lt] at q2; cases q2
    rw [k.eq, List.getElem?_set_ne e1] at q1
    rw [k.eq, List.getElem?_set_ne e2] at q2
    exact s.dis a b w z n q1 q2
theorem Sta.wipe (s : Sta B Sg e h pe) (k : SetX i pe pe1) (x : Option D) : Sta B Sg (e.set i x) h pe1 := by
  have f : ∀ a, Ow Sg pe1 a → Ow Sg pe a := by rw [k.eq]; exact fun a => Ow.set_no fun v q => by cases q
  have t : Tr (Av B Sg pe) (Av B Sg pe1) h h := Tr.less f
  have ne : ∀ {j : Nat} {z : Sl}, pe1[j]? = some z → z ≠ .n → i ≠ j ∧ pe[j]? = some z := fun {j z} q n => by
    rw [k.eq, List.getElem?_set] at q
    split at q
    · rename_i e1
      split at q
      · exact absurd (Option.some.inj q).symm n
      · cases q
    · rename_i e1; exact ⟨e1, q⟩
  refine ⟨by rw [k.eq]; simp [s.len], fun j w q => ?_, fun j w q => ?_, fun a b w z n q1 q2 => s.dis a b w z n (ne q1 (by simp)).2 (ne q2 (by simp)).2, s.bl, fun a q => s.nb a (f a q)⟩
  · obtain ⟨n, q⟩ := ne q (by simp)
    obtain ⟨d', e1, r1⟩ := s.sh j w q
    exact ⟨d', by rw [List.getElem?_set_ne n]; exact e1, r1.tr t⟩
  · obtain ⟨n, q⟩ := ne q (by simp)
    obtain ⟨d', e1, r1⟩ := s.ow j w q
    exact ⟨d', by rw [List.getElem?_set_ne n]; exact e1, r1.tr (fun _ _ _ q => q) t⟩
/-- an owned thing changed, or a new one owned -/
theorem Sta.own2 (s : Sta B Sg e h pe) {p : Nat} {S : List Nat} {x : Option D} (hx : x = some (.ref p)) (k : SetO i pe u pe1) (old : ∀ a o, (∀ v, pe[i]? = some (.o v) → a ∉ Sg i) → h[a]? = some o → h'[a]? = some o) (ln : h.length ≤ h'.length)
    (new : ∀ a ∈ S, (∃ v, pe[i]? = some (.o v) ∧ a ∈ Sg i) ∨ h.length ≤ a) (c : Cn (fun a => (Av B Sg pe a ∧ ∀ v, pe[i]? = some (.o v) → a ∉ Sg i) ∨ a ∈ S) h' p S u) :
    Sta B (fun j => if j = i then S else Sg j) (e.set i x) h' pe1 ∧ Tr (Ow Sg pe) (Ow (fun j => if j = i then S else Sg j) pe1) h h' := by
  have pi : pe1[i]? = some (.o u) := by rw [k.eq, List.getElem?_set_self k.lt]
  have pn : ∀ j, i ≠ j → pe1[j]? = pe[j]? := fun j n => by rw [k.eq, List.getElem?_set_ne n]
  have sub : ∀ a, Ow (fun j => if j = i then S else Sg j) pe1 a → Ow Sg pe a ∨ h.length ≤ a := fun a q => by
    obtain ⟨j, w, q, m⟩ := q
    by_cases ej : i = j
    · subst ej
      simp only [if_true] at m
      rcases new a m with ⟨v, q2, m2⟩ | l
      · exact .inl ⟨i, v, q2, m2⟩
      · exact .inr l
    · rw [pn j ej] at q
      dsimp only at m
      rw [if_neg (fun e => ej e.symm)] at m
      exact .inl ⟨j, w, q, m⟩
  have t : Tr (Ow Sg pe) (Ow (fun j => if j = i then S else Sg j) pe1) h h' := ⟨fun a o n q => old a o (fun v q2 m => n ⟨i, v, q2, m⟩) q, sub, ln⟩
  have tv := t.av (B := B)
  refine ⟨⟨by rw [k.eq]; simp [s.len], fun j w q => ?_, fun j w q => ?_, fun a b w z n q1 q2 m hm hm2 => ?_, fun a q => Nat.lt_of_lt_of_le (s.bl a q) ln, fun a q b => ?_⟩, t⟩
  · by_cases ej : i = j
    · subst ej; rw [pi] at q; cases q
    · rw [pn j ej] at q
      obtain ⟨d', e1, r1⟩ := s.sh j w q
      exact ⟨d', by rw [List.getElem?_set_ne ej]; exact e1, r1.tr tv⟩
  · by_cases ej : i = j
    · subst ej
      rw [pi] at q; cases q
      refine ⟨p, by rw [List.getElem?_set_self (by rw [s.len]; exact k.lt), hx], ?_⟩
      simp only [if_true]
      refine c.tr (fun _ _ _ q => q) ⟨fun a o _ q => q, fun a q => ?_, Nat.le_refl _⟩
      rcases q with q | ⟨j, w, q, m⟩
      · exact .inl (.inl ⟨.inl q, fun v q2 m2 => s.nb a ⟨i, v, q2, m2⟩ q⟩)
      · by_cases ej : i = j
        · subst ej; simp only [if_true] at m; exact .inl (.inr m)
        · rw [pn j ej] at q
          dsimp only at m
          rw [if_neg (fun e => ej e.symm)] at m
          exact .inl (.inl ⟨.inr ⟨j, w, q, m⟩, fun v q2 m2 => s.dis i j v w ej q2 q a m2 m⟩)
    · rw [pn j ej] at q
      obtain ⟨d', e1, r1⟩ := s.ow j w q
      try dsimp only
      rw [if_neg (fun e => ej e.symm)]
      refine ⟨d', by rw [List.getElem?_set_ne ej]; exact e1, r1.tr (fun a m o q2 => old a o (fun v q3 m2 => s.dis i j v w ej q3 q a m2 m) q2) tv⟩
  · have key : ∀ (j : Nat) (w : U), i ≠ j → pe1[j]? = some (.o w) → ∀ m, m ∈ S → m ∉ Sg j := fun j w ej q m h1 h2 => by
      rw [pn j ej] at q
      rcases new m h1 with ⟨v, q2, m2⟩ | l
      · exact s.dis i j v w ej q2 q m m2 h2
      · have := s.olt ⟨j, w, q, h2⟩; omega
    try dsimp only at hm hm2
    by_cases ea : a = i
    · rw [if_pos ea] at hm
      have eb : i ≠ b := fun e => n (ea.trans e)
      rw [if_neg (fun e => eb e.symm)] at hm2
      exact key b z eb q2 m hm hm2
    · rw [if_neg ea] at hm
      by_cases eb : b = i
      · rw [if_pos eb] at hm2
        exact key a w (fun e => ea e.symm) q1 m hm2 hm
      · rw [if_neg eb] at hm2
        rw [pn a (fun e => ea e.symm)] at q1
        rw [pn b (fun e => eb e.symm)] at q2
        exact s.dis a b w z n q1 q2 m hm hm2
  · rcases sub a q with q | l
    · exact s.nb a q b
    · have := s.bl a b; omega
theorem Sta.own (s : Sta B Sg e h pe) {p : Nat} {S : List Nat} {x : Option D} (hx : x = some (.ref p)) (k : SetO i pe u pe1) (old : ∀ a o, (∀ v, pe[i]? = some (.o v) → a ∉ Sg i) → h[a]? = some o → h'[a]? = some o) (ln : h.length ≤ h'.length)
    (new : ∀ a ∈ S, (∃ v, pe[i]? = some (.o v) ∧ a ∈ Sg i) ∨ h.length ≤ a) (c : Cn (fun a => Av B Sg pe a ∨ a ∈ S) h' p S u) :
    Sta B (fun j => if j = i then S else Sg j) (e.set i x) h' pe1 ∧ Tr (Ow Sg pe) (Ow (fun j => if j = i then S else Sg j) pe1) h h' :=
  s.own2 hx k old ln new (c.tr (fun _ _ _ q => q) ⟨fun _ _ _ q => q, fun a q => .inl (q.imp (·.1) id), Nat.le_refl _⟩)
end
end Z
/-! Y2: what is walked, comprehensions, statements, loops, defs. -/
namespace Z
open PySem L2

/-! ### what is walked -/
structure ItOk (A : AS) (h : HP) (it : Itr) (ds : List D) (us : List U) : Prop where
  all : AllR (Rd A h) ds us
  it : ∀ h2 : HP, (∀ i o, ¬ A i → h[i]? = some o → h2[i]? = some o) → ∀ j, it j h2 = some ds[j]?
/-- as long as nothing is changed -/
structure ItOq (A : AS) (h : HP) (it : Itr) (ds : List D) (us : List U) : Prop where
  all : AllR (Rd A h) ds us
  it : ∀ h2 : HP, Kq h h2 → ∀ j, it j h2 = some ds[j]?
def Xi (C : Ctx) (pe : List Sl) (mi : MI) (us : List U) : Prop := ∀ ⦃B Sg e h⦄, Sta B Sg e h pe → ∃ it h' ds, mi C e h = .ok it h' ∧ Kq h h' ∧ ItOk (Av B Sg pe) h' it ds us
def Xj (C : Ctx) (pe : List Sl) (mi : MI) (us : List U) : Prop := ∀ ⦃B Sg e h⦄, Sta B Sg e h pe → ∃ it h' ds, mi C e h = .ok it h' ∧ Kq h h' ∧ ItOq (Av B Sg pe) h' it ds us
theorem Xi.j {C : Ctx} {pe : List Sl} {mi : MI} {us : List U} (q : Xi C pe mi us) : Xj C pe mi us := fun _ _ _ _ s => by
  obtain ⟨it, h', ds, e, k, o⟩ := q s
  exact ⟨it, h', ds, e, k, o.all, fun h2 k2 => o.it h2 fun i o _ w => k2 i o w⟩
theorem ItOk.tr {A A' : AS} {h h' : HP} {it : Itr} {ds : List D} {us : List U} (o : ItOk A h it ds us) (t : Tr A A' h h') : ItOk A' h' it ds us :=
  ⟨o.all.imp fun d u r => r.tr t, fun h2 k => o.it h2 fun i ob n q => k i ob (t.nA n (List.getElem?_eq_some_iff.mp q).1) (t.keep i ob n q)⟩
def enumU (us : List U) : List U := us.mapIdx fun j u => .tup [.int j, u]
def enumD (us : List D) : List D := us.mapIdx fun j u => .tup [.int j, u]
def zipU (us vs : List U) : List U := List.zipWith (fun u v => .tup [u, v]) us vs
def zipD (us vs : List D) : List D := List.zipWith (fun u v => .tup [u, v]) us vs
def rngU (lo : Int) (n : Nat) : List U := (List.range n).map fun j : Nat => .int (lo + j)
section
variable {C : Ctx} {pe pe0 pe1 : List Sl} {a b : ME} {us vs : List U} {u : U}
theorem i_t (ha : Xp C pe a (.tup us)) : Xi C pe (iA a) us := fun B Sg e h s => by
  obtain ⟨d, h1, e1, k1, r1⟩ := ha s
  obtain ⟨ds, rfl, r⟩ := r1.tup_inv
  exact ⟨itT ds, h1, ds, by unfold iA; rw [e1]; rfl, k1, r, fun h2 _ j => rfl⟩
theorem i_s {x : Str} (ha : Xp C pe a (.str x)) : Xi C pe (iA a) (x.cps.toList.map fun c => .str ⟨#[c]⟩) := fun B Sg e h s => by
  obtain ⟨d, h1, e1, k1, r1⟩ := ha s
  rw [Rd.str_iff] at r1; subst r1
  refine ⟨itS x, h1, x.cps.toList.map fun c => .str ⟨#[c]⟩, by unfold iA; rw [e1]; rfl, k1, AllR.map fun c _ => .str, fun h2 _ j => ?_⟩
  unfold itS
  rw [List.getElem?_map]; simp
theorem Rd.seq {A : AS} {h : HP} {d : D} (r : Rd A h d u) (s : Seq u us) : ∃ i ds, d = .ref i ∧ ¬ A i ∧ isL i h = some ds ∧ AllR (Rd A h) ds us := by
  rcases s with s | s <;> subst s
  · obtain ⟨i, ds, e, n, q, a⟩ := r.lst_inv; exact ⟨i, ds, e, n, isL_cases.mpr (.inl q), a⟩
  · obtain ⟨i, ds, e, n, q, a⟩ := r.fz_inv; exact ⟨i, ds, e, n, isL_cases.mpr (.inr q), a⟩
theorem isL_keep {h h2 : HP} {i : Nat} {ds : List D} (q : isL i h = some ds) (k : ∀ o, h[i]? = some o → h2[i]? = some o) : isL i h2 = some ds := by
  rcases isL_cases.mp q with q | q
  · exact isL_cases.mpr (.inl (k _ q))
  · exact isL_cases.mpr (.inr (k _ q))
theorem itL_q {h : HP} {i : Nat} {ds : List D} (q : isL i h = some ds) (j : Nat) : itL i j h = some ds[j]? := by
  unfold itL
  rcases isL_cases.mp q with q | q <;> rw [q]
theorem i_l (ha : Xp C pe a u) (sq : Seq u us) : Xi C pe (iA a) us := fun B Sg e h s => by
  obtain ⟨d, h1, e1, k1, r1⟩ := ha s
  obtain ⟨i, ds, rfl, n, q, r⟩ := r1.seq sq
  exact ⟨itL i, h1, ds, by unfold iA; rw [e1]; simp only [R.bind_ok, q], k1, r, fun h2 k j => itL_q (isL_keep q fun o w => k i o n w) j⟩
theorem j_l (ha : Xt C pe a u) (sq : Seq u us) : Xj C pe (iA a) us := fun B Sg e h s => by
  obtain ⟨d, h1, e1, k1, r1⟩ := ha s
  obtain ⟨i, ds, rfl, q, r⟩ := r1.seq sq
  exact ⟨itL i, h1, ds, by unfold iA; rw [e1]; simp only [R.bind_ok, q], k1, r, fun h2 k j => itL_q (isL_keep q fun o w => k i o w) j⟩
theorem Xp.int {k : Int} (ha : Xp C pe a (.int k)) {B Sg e h} (s : Sta B Sg e h pe) : ∃ h', a C e h = .ok (.int k) h' ∧ Kq h h' := by
  obtain ⟨d, h1, e1, k1, r1⟩ := ha s
  rw [Rd.int_iff] at r1; subst r1
  exact ⟨h1, e1, k1⟩
theorem itR_q (lo : Int) (n j : Nat) (h : HP) : itR lo n j h = some ((List.range n).map fun j : Nat => D.int (lo + j))[j]? := by
  unfold itR
  split
  · rename_i hj; rw [List.getElem?_map, List.getElem?_range hj]; rfl
  · rename_i hj; rw [List.getElem?_eq_none (by simp; omega)]
theorem i_r1 {n : Int} (ha : Xp C pe a (.int n)) (l : -(2 ^ 62) ≤ n) (r : n < 2 ^ 62) : Xi C pe (iR1 a) (rngU 0 n.toNat) := fun B Sg e h s => by
  obtain ⟨h1, e1, k1⟩ := ha.int s
  exact ⟨itR 0 n.toNat, h1, _, by unfold iR1; rw [e1]; simp only [R.bind_ok]; rw [if_pos ⟨l, r⟩], k1, AllR.map fun c _ => .int, fun h2 _ j => itR_q 0 _ j h2⟩
theorem i_r2 {m n : Int} (ha : Xp C pe a (.int m)) (hb : Xp C pe b (.int n)) (l : -(2 ^ 62) ≤ m ∧ m < 2 ^ 62) (r : -(2 ^ 62) ≤ n ∧ n < 2 ^ 62) : Xi C pe (iR2 a b) (rngU m (n - m).toNat) := fun B Sg e h s => by
  obtain ⟨h1, e1, k1⟩ := ha.int s
  obtain ⟨h2, e2, k2⟩ := hb.int (s.kq k1)
  exact ⟨itR m (n - m).toNat, h2, _, by unfold iR2; rw [e1]; simp only [R.bind_ok]; rw [e2]; simp only [R.bind_ok]; rw [if_pos ⟨l.1, l.2, r.1, r.2⟩], k1.trans k2, AllR.map fun c _ => .int, fun h2 _ j => itR_q m _ j h2⟩
/-- reversed(range(n)) -/
def rrgU (n : Nat) : List U := (List.range n).map fun j : Nat => .int ((n : Int) - 1 - j)
theorem i_rr {n : Int} (ha : Xp C pe a (.int n)) (l : -(2 ^ 62) ≤ n) (r : n < 2 ^ 62) : Xi C pe (iRr1 a) (rrgU n.toNat) := fun B Sg e h s => by
  obtain ⟨h1, e1, k1⟩ := ha.int s
  refine ⟨itRc (n.toNat - 1) (-1) n.toNat, h1, (List.range n.toNat).map fun j : Nat => .int ((n.toNat : Int) - 1 - j), by unfold iRr1; rw [e1]; simp only [R.bind_ok]; rw [if_pos ⟨l, r⟩], k1, AllR.map fun c _ => .int, fun h2 _ j => ?_⟩
  unfold itRc
  split
  · rename_i hj
    rw [List.getElem?_map, List.getElem?_range hj]
    simp only [Option.map_some]
    congr 3
    omega
  · rename_i hj; rw [List.getElem?_eq_none (by simp; omega)]
theorem enum_all {A : AS} {h : HP} {ds : List D} {us : List U} (a : AllR (Rd A h) ds us) : AllR (Rd A h) (enumD ds) (enumU us) :=
  ⟨by simp [enumD, enumU, a.len], fun j d u q1 q2 => by
    unfold enumD at q1; unfold enumU at q2
    rw [List.getElem?_mapIdx] at q1 q2
    cases e1 : ds[j]? with
    | none => rw [e1] at q1; cases q1
    | some d' =>
      obtain ⟨u', e2, r⟩ := a.getD e1
      rw [e1] at q1; rw [e2] at q2
      cases q1; cases q2
      exact .mk_tup (.cons .int (.one r))⟩
theorem itE_q {h : HP} {i : Nat} {ds : List D} (q : isL i h = some ds) (j : Nat) : itE i j h = some (enumD ds)[j]? := by
  unfold itE enumD
  rw [itL_q q, List.getElem?_mapIdx]; rfl
theorem i_en (ha : Xp C pe a u) (sq : Seq u us) : Xi C pe (iEn a) (enumU us) := fun B Sg e h s => by
  obtain ⟨d, h1, e1, k1, r1⟩ := ha s
  obtain ⟨i, ds, rfl, n, q, r⟩ := r1.seq sq
  exact ⟨itE i, h1, enumD ds, by unfold iEn; rw [e1]; simp only [R.bind_ok, q], k1, enum_all r, fun h2 k j => itE_q (isL_keep q fun o w => k i o n w) j⟩
theorem j_en (ha : Xt C pe a u) (sq : Seq u us) : Xj C pe (iEn a) (enumU us) := fun B Sg e h s => by
  obtain ⟨d, h1, e1, k1, r1⟩ := ha s
  obtain ⟨i, ds, rfl, q, r⟩ := r1.seq sq
  exact ⟨itE i, h1, enumD ds, by unfold iEn; rw [e1]; simp only [R.bind_ok, q], k1, enum_all r, fun h2 k j => itE_q (isL_keep q fun o w => k i o w) j⟩
theorem zip_all {A : AS} {h : HP} {ds es : List D} {us vs : List U} (a : AllR (Rd A h) ds us) (b : AllR (Rd A h) es vs) : AllR (Rd A h) (zipD ds es) (zipU us vs) :=
  ⟨by simp [zipD, zipU, a.len, b.len], fun j d u q1 q2 => by
    unfold zipD at q1; unfold zipU at q2
    rw [List.getElem?_zipWith] at q1 q2
    cases e1 : ds[j]? with
    | none => rw [e1] at q1; cases q1
    | some d' =>
      obtain ⟨u', e2, r⟩ := a.getD e1
      rw [e1] at q1; rw [e2] at q2
      cases e3 : es[j]? with
      | none => rw [e3] at q1; cases q1
      | some d2 =>
        obtain ⟨u2, e4, r2⟩ := b.getD e3
        rw [e3] at q1; rw [e4] at q2
        cases q1; cases q2
        exact .mk_tup (.cons r (.one r2))⟩
theorem itZ_q {h : HP} {i j : Nat} {ds es : List D} (q : isL i h = some ds) (q2 : isL j h = some es) (k : Nat) : itZ i j k h = some (zipD ds es)[k]? := by
  unfold itZ zipD
  rw [itL_q q, itL_q q2, List.getElem?_zipWith]
  cases ds[k]? <;> cases es[k]? <;> rfl
theorem i_zp {v : U} (ha : Xp C pe a u) (hb : Xp C pe b v) (sq : Seq u us) (sq2 : Seq v vs) : Xi C pe (iZp a b) (zipU us vs) := fun B Sg e h s => by
  obtain ⟨d, h1, e1, k1, r1⟩ := ha s
  obtain ⟨d2, h2, e2, k2, r2⟩ := hb (s.kq k1)
  obtain ⟨i, ds, rfl, n, q, r⟩ := (r1.kq k2).seq sq
  obtain ⟨j, es, rfl, n2, q2, r2⟩ := r2.seq sq2
  exact ⟨itZ i j, h2, zipD ds es, by unfold iZp; rw [e1]; simp only [R.bind_ok]; rw [e2]; simp only [R.bind_ok, q, q2], k1.trans k2, zip_all r r2, fun h3 k => itZ_q (isL_keep q fun o w => k i o n w) (isL_keep q2 fun o w => k j o n2 w)⟩
theorem j_zp {v : U} (ha : Xt C pe a u) (hb : Xt C pe b v) (sq : Seq u us) (sq2 : Seq v vs) : Xj C pe (iZp a b) (zipU us vs) := fun B Sg e h s => by
  obtain ⟨d, h1, e1, k1, r1⟩ := ha s
  obtain ⟨d2, h2, e2, k2, r2⟩ := hb (s.kq k1)
  obtain ⟨i, ds, rfl, q, r⟩ := (r1.kq k2).seq sq
  obtain ⟨j, es, rfl, q2, r2⟩ := r2.seq sq2
  exact ⟨itZ i j, h2, zipD ds es, by unfold iZp; rw [e1]; simp only [R.bind_ok]; rw [e2]; simp only [R.bind_ok, q, q2], k1.trans k2, zip_all r r2, fun h3 k => itZ_q (isL_keep q fun o w => k i o w) (isL_keep q2 fun o w => k j o w)⟩
theorem itV_q {h : HP} {i : Nat} {ds : List D} (q : isL i h = some ds) (j : Nat) : itV i ds.length j h = some ds.reverse[j]? := by
  unfold itV
  split
  · rename_i hj
    rw [itL_q q, List.getElem?_reverse hj, List.getElem?_eq_getElem (by omega)]
  · rename_i hj; rw [List.getElem?_eq_none (by simp; omega)]
theorem i_rv (ha : Xp C pe a u) (sq : Seq u us) : Xi C pe (iRv a) us.reverse := fun B Sg e h s => by
  obtain ⟨d, h1, e1, k1, r1⟩ := ha s
  obtain ⟨i, ds, rfl, n, q, r⟩ := r1.seq sq
  refine ⟨itV i ds.length, h1, ds.reverse, by unfold iRv; rw [e1]; simp only [R.bind_ok, q], k1, ⟨by simp [r.len], fun j d u q1 q2 => ?_⟩, fun h2 k j => itV_q (isL_keep q fun o w => k i o n w) j⟩
  have hj : j < ds.length := by have := (List.getElem?_eq_some_iff.mp q1).1; simpa using this
  rw [List.getElem?_reverse hj] at q1
  rw [List.getElem?_reverse (by rw [← r.len]; exact hj), ← r.len] at q2
  exact r.each _ _ _ q1 q2
end

theorem nin_ne {i j : Nat} {io : List Nat} (h : i ∉ io) (m : j ∈ io) : i ≠ j := fun e => h (by rw [e]; exact m)
/-! ### targets -/
/-- io: names that are never set anew -/
def Tp (io : List Nat) (g : Tg) (pe : List Sl) (u : U) (pe1 : List Sl) : Prop := ∀ ⦃B Sg e h d⦄, Sta B Sg e h pe → Rd (Av B Sg pe) h d u → ∃ e1, g e d = some e1 ∧ Sta B Sg e1 h pe1 ∧ (∀ a, Ow Sg pe1 a → Ow Sg pe a) ∧ ∀ i ∈ io, e1[i]? = e[i]?
/-- nothing owned is lost -/
def Tn (g : Tg) (pe : List Sl) (u : U) (pe1 : List Sl) : Prop := ∀ ⦃B Sg e h d⦄, Sta B Sg e h pe → Rd (Av B Sg pe) h d u → ∃ e1, g e d = some e1 ∧ Sta B Sg e1 h pe1 ∧ (∀ a, Ow Sg pe1 a ↔ Ow Sg pe a)
section
variable {pe pe1 pe2 pe3 pe4 pe5 : List Sl} {u v w x y : U} {i j k l m : Nat} {io : List Nat}
theorem SetN.ow (q : SetN i pe u pe1) {Sg : Nat → List Nat} {a : Nat} : Ow Sg pe1 a ↔ Ow Sg pe a := by
  rw [q.s.eq]
  constructor
  · exact Ow.set_no fun v q => by cases q
  · rintro ⟨j, w, q1, m⟩
    have ne : i ≠ j := fun e => q.no w (e ▸ q1)
    exact ⟨j, w, by rw [List.getElem?_set_ne ne]; exact q1, m⟩
theorem SetS.ow (q : SetS i pe u pe1) {Sg : Nat → List Nat} {a : Nat} : Ow Sg pe1 a → Ow Sg pe a := by
  rw [q.eq]
  exact Ow.set_no fun v q => by cases q
theorem tp_n (k : SetS i pe u pe1) (hi : i ∉ io) : Tp io (gN i) pe u pe1 := fun B Sg e h d s r => ⟨_, rfl, s.set r k, fun a => k.ow, fun j hj => by rw [List.getElem?_set_ne (nin_ne hi hj)]⟩
theorem tn_n (k : SetN i pe u pe1) : Tn (gN i) pe u pe1 := fun B Sg e h d s r => ⟨_, rfl, s.set r k.s, fun a => k.ow⟩
theorem tp_t2 (q1 : SetS i pe u pe1) (q2 : SetS j pe1 v pe2) (hi : i ∉ io) (hj : j ∉ io) : Tp io (gT [i, j]) pe (.tup [u, v]) pe2 := fun B Sg e h d s r => by
  obtain ⟨ds, rfl, a⟩ := r.tup_inv
  obtain ⟨d1, r1, rfl, h1, a⟩ := a.inv
  obtain ⟨d2, r2, rfl, h2, a⟩ := a.inv
  cases a.inv0
  have s1 := s.set h1 q1
  have s2 := s1.set (h2.tr (Tr.less fun a => q1.ow)) q2
  refine ⟨_, rfl, s2, fun a w => q1.ow (q2.ow w), fun n hn => ?_⟩
  show ((e.set i (some d1)).set j (some d2))[n]? = _
  rw [List.getElem?_set_ne (nin_ne hj hn), List.getElem?_set_ne (nin_ne hi hn)]
theorem tp_t3 (q1 : SetS i pe u pe1) (q2 : SetS j pe1 v pe2) (q3 : SetS k pe2 w pe3) (hi : i ∉ io) (hj : j ∉ io) (hk : k ∉ io) : Tp io (gT [i, j, k]) pe (.tup [u, v, w]) pe3 := fun B Sg e h d s r => by
  obtain ⟨ds, rfl, a⟩ := r.tup_inv
  obtain ⟨d1, r1, rfl, h1, a⟩ := a.inv
  obtain ⟨d2, r2, rfl, h2, a⟩ := a.inv
  obtain ⟨d3, r3, rfl, h3, a⟩ := a.inv
  cases a.inv0
  have s1 := s.set h1 q1
  have s2 := s1.set (h2.tr (Tr.less fun a => q1.ow)) q2
  have s3 := s2.set (h3.tr (Tr.less fun a w => q1.ow (q2.ow w))) q3
  refine ⟨_, rfl, s3, fun a w => q1.ow (q2.ow (q3.ow w)), fun n hn => ?_⟩
  show (((e.set i (some d1)).set j (some d2)).set k (some d3))[n]? = _
  rw [List.getElem?_set_ne (nin_ne hk hn), List.getElem?_set_ne (nin_ne hj hn), List.getElem?_set_ne (nin_ne hi hn)]
theorem tp_t4 (q1 : SetS i pe u pe1) (q2 : SetS j pe1 v pe2) (q3 : SetS k pe2 w pe3) (q4 : SetS l pe3 x pe4) (hi : i ∉ io) (hj : j ∉ io) (hk : k ∉ io) (hl : l ∉ io) : Tp io (gT [i, j, k, l]) pe (.tup [u, v, w, x]) pe4 := fun B Sg e h d s r => by
  obtain ⟨ds, rfl, a⟩ := r.tup_inv
  obtain ⟨d1, r1, rfl, h1, a⟩ := a.inv
  obtain ⟨d2, r2, rfl, h2, a⟩ := a.inv
  obtain ⟨d3, r3, rfl, h3, a⟩ := a.inv
  obtain ⟨d4, r4, rfl, h4, a⟩ := a.inv
  cases a.inv0
  have s1 := s.set h1 q1
  have s2 := s1.set (h2.tr (Tr.less fun a => q1.ow)) q2
  have s3 := s2.set (h3.tr (Tr.less fun a w => q1.ow (q2.ow w))) q3
  have s4 := s3.set (h4.tr (Tr.less fun a w => q1.ow (q2.ow (q3.ow w)))) q4
  refine ⟨_, rfl, s4, fun a w => q1.ow (q2.ow (q3.ow (q4.ow w))), fun n hn => ?_⟩
  show ((((e.set i (some d1)).set j (some d2)).set k (some d3)).set l (some d4))[n]? = _
  rw [List.getElem?_set_ne (nin_ne hl hn), List.getElem?_set_ne (nin_ne hk hn), List.getElem?_set_ne (nin_ne hj hn), List.getElem?_set_ne (nin_ne hi hn)]
theorem tn_t2 (q1 : SetN i pe u pe1) (q2 : SetN j pe1 v pe2) : Tn (gT [i, j]) pe (.tup [u, v]) pe2 := fun B Sg e h d s r => by
  obtain ⟨e1, g, s1, f, _⟩ := tp_t2 (io := []) q1.s q2.s (by simp) (by simp) s r
  exact ⟨e1, g, s1, fun a => q2.ow.trans q1.ow⟩
theorem tn_t3 (q1 : SetN i pe u pe1) (q2 : SetN j pe1 v pe2) (q3 : SetN k pe2 w pe3) : Tn (gT [i, j, k]) pe (.tup [u, v, w]) pe3 := fun B Sg e h d s r => by
  obtain ⟨e1, g, s1, f, _⟩ := tp_t3 (io := []) q1.s q2.s q3.s (by simp) (by simp) (by simp) s r
  exact ⟨e1, g, s1, fun a => q3.ow.trans (q2.ow.trans q1.ow)⟩
theorem tn_t4 (q1 : SetN i pe u pe1) (q2 : SetN j pe1 v pe2) (q3 : SetN k pe2 w pe3) (q4 : SetN l pe3 x pe4) : Tn (gT [i, j, k, l]) pe (.tup [u, v, w, x]) pe4 := fun B Sg e h d s r => by
  obtain ⟨e1, g, s1, f, _⟩ := tp_t4 (io := []) q1.s q2.s q3.s q4.s (by simp) (by simp) (by simp) (by simp) s r
  exact ⟨e1, g, s1, fun a => q4.ow.trans (q3.ow.trans (q2.ow.trans q1.ow))⟩
end

/-! ### comprehensions -/
/-- names wiped that are not owned -/
structure WipN (pe : List Sl) (vs : List Nat) (pe0 : List Sl) : Prop where
  sta : ∀ ⦃B Sg e h⦄, Sta B Sg e h pe → Sta B Sg (wipeE e vs) h pe0
  ow : ∀ {Sg a}, Ow Sg pe0 a ↔ Ow Sg pe a
structure SetXN (i : Nat) (pe : List Sl) (pe1 : List Sl) : Prop where
  x : SetX i pe pe1
  no : ∀ v, pe[i]? ≠ some (.o v)
section
variable {pe pe1 pe0 : List Sl} {u v : U} {i : Nat} {o : Sl} {is : List Nat}
theorem txn0 : SetXN 0 (.n :: pe) (.n :: pe) := ⟨tx0, fun v q => by cases q⟩
theorem txn1 : SetXN 0 (.s v :: pe) (.n :: pe) := ⟨tx0, fun v q => by cases q⟩
theorem txnS (k : SetXN i pe pe1) : SetXN (i + 1) (o :: pe) (o :: pe1) := ⟨txS k.x, fun v q => k.no v (by simpa using q)⟩
theorem wip0 : WipN pe [] pe := ⟨fun _ _ _ _ s => s, Iff.rfl⟩
theorem wipS (k : WipN pe is pe0) (q : SetXN i pe0 pe1) : WipN pe (i :: is) pe1 := ⟨fun _ _ _ _ s => (k.sta s).wipe q.x none, fun {Sg a} => by
  refine Iff.trans ?_ k.ow
  rw [q.x.eq]
  constructor
  · exact Ow.set_no fun v q => by cases q
  · rintro ⟨j, w, q1, m⟩
    have ne : i ≠ j := fun e => q.no w (e ▸ q1)
    exact ⟨j, w, by rw [List.getElem?_set_ne ne]; exact q1, m⟩⟩
end
section
variable {C : Ctx} {pe pe0 pe1 : List Sl} {a b : ME} {us vs : List U} {u : U} {g : Tg} {t : MT}
theorem cmp_go {α : Type} {xs : List α} {f : α → U} {out : α → Option U} (hs : ∀ x ∈ xs, ∃ pe1 bb, Tn g pe0 (f x) pe1 ∧ Xb C pe1 t bb ∧ if bb = true then ∃ v, out x = some v ∧ Xp C pe1 a v else out x = none) (hn : xs.length ≤ sizeLine)
    {B : AS} {Sg : Nat → List Nat} {e0 : Ev} {it : Itr} {ds : List D} :
    ∀ (m j : Nat) (acc : List D) (us : List U) (h : HP), j + m = xs.length → us.length ≤ j → Sta B Sg e0 h pe0 → ItOq (Av B Sg pe0) h it ds (xs.map f) → AllR (Rd (Av B Sg pe0) h) acc us → ∀ fuel, m < fuel → ∃ ys h', cmpN it g t a e0 C fuel j acc h = .ok ys h' ∧ Kq h h' ∧ AllR (Rd (Av B Sg pe0) h') ys (us ++ (xs.drop j).filterMap out)
  | 0, j, acc, us, h, hj, hu, s, o, ha, fuel, hf => by
    obtain ⟨f', rfl⟩ : ∃ f, fuel = f + 1 := ⟨fuel - 1, by omega⟩
    have hd : it j h = some none := by rw [o.it h Kq.refl, List.getElem?_eq_none (by have := o.all.len; rw [List.length_map] at this; omega)]
    refine ⟨acc, h, by simp only [cmpN, hd], Kq.refl, ?_⟩
    rw [List.drop_eq_nil_of_le (by omega)]
    simpa using ha
  | m + 1, j, acc, us, h, hj, hu, s, o, ha, fuel, hf => by
    obtain ⟨f', rfl⟩ : ∃ f, fuel = f + 1 := ⟨fuel - 1, by omega⟩
    have jl : j < xs.length := by omega
    have hx : xs[j]? = some xs[j] := List.getElem?_eq_getElem jl
    have hu' : (xs.map f)[j]? = some (f xs[j]) := by rw [List.getElem?_map, hx]; rfl
    obtain ⟨d, hd, rd⟩ := o.all.get hu'
    have ht : it j h = some (some d) := by rw [o.it h Kq.refl, hd]
    obtain ⟨pe1, bb, tn, xb, q⟩ := hs xs[j] (List.getElem_mem jl)
    obtain ⟨e1, ge, s1, ow⟩ := tn s rd
    obtain ⟨h1, te, k1⟩ := xb s1
    have dr : xs.drop j = xs[j] :: xs.drop (j + 1) := List.drop_eq_getElem_cons jl
    have next : ∀ (acc' : List D) (us' : List U) (h2 : HP), Kq h h2 → us'.length ≤ j + 1 → AllR (Rd (Av B Sg pe0) h2) acc' us' → ∃ ys h', cmpN it g t a e0 C f' (j + 1) acc' h2 = .ok ys h' ∧ Kq h h' ∧ AllR (Rd (Av B Sg pe0) h') ys (us' ++ (xs.drop (j + 1)).filterMap out) := fun acc' us' h2 k2 hu2 ha2 => by
      obtain ⟨ys, h3, e3, k3, r3⟩ := cmp_go hs hn m (j + 1) acc' us' h2 (by omega) hu2 (s.kq k2) ⟨o.all.imp fun d u r => r.kq k2, fun h3 k3 => o.it h3 (k2.trans k3)⟩ ha2 f' (by omega)
      exact ⟨ys, h3, e3, k2.trans k3, r3⟩
    cases bb with
    | false =>
      have hq : out xs[j] = none := q
      obtain ⟨ys, h', e3, k3, r3⟩ := next acc us h1 k1 (by omega) (ha.imp fun d u r => r.kq k1)
      refine ⟨ys, h', ?_, k3, by rw [dr, List.filterMap_cons_none hq]; exact r3⟩
      simp only [cmpN, ht, ge, te, R.bind_ok, Bool.false_eq_true, if_false]
      exact e3
    | true =>
      obtain ⟨v, ho, xp⟩ := q
      obtain ⟨dv, h2, ae, k2, rv⟩ := xp (s1.kq k1)
      have rv : Rd (Av B Sg pe0) h2 dv v := rv.tr ⟨fun i o _ q => q, fun i q => .inl (q.elim .inl fun w => .inr ((ow i).mpr w)), Nat.le_refl _⟩
      obtain ⟨ys, h', e3, k3, r3⟩ := next (acc ++ [dv]) (us ++ [v]) h2 (k1.trans k2) (by simp; omega) ((ha.imp fun d u r => r.kq (k1.trans k2)).app (.one rv))
      refine ⟨ys, h', ?_, k3, by rw [dr, List.filterMap_cons_some ho]; simpa using r3⟩
      have hl : acc.length < sizeLine := by rw [ha.len]; omega
      simp only [cmpN, ht, ge, te, R.bind_ok, if_true, ae, hl]
      exact e3
theorem f_lc {α : Type} {xs : List α} {f : α → U} {out : α → Option U} {ws : List Nat} {mi : MI} (hi : Xj C pe mi (xs.map f)) (hw : WipN pe ws pe0) (hn : xs.length ≤ sizeLine) (fu : xs.length < C.fuel)
    (hs : ∀ x ∈ xs, ∃ pe1 bb, Tn g pe0 (f x) pe1 ∧ Xb C pe1 t bb ∧ if bb = true then ∃ v, out x = some v ∧ Xp C pe1 a v else out x = none) : Xf C pe (eLc ws g mi t a) (.lst (xs.filterMap out)) := fun B Sg e h s => by
  obtain ⟨it, h1, ds, e1, k1, o⟩ := hi s
  have s1 := hw.sta (s.kq k1)
  have av : ∀ a, Av B Sg pe0 a ↔ Av B Sg pe a := fun a => or_congr Iff.rfl hw.ow
  have t1 : Tr (Av B Sg pe) (Av B Sg pe0) h1 h1 := ⟨fun i o _ q => q, fun i q => .inl ((av i).mp q), Nat.le_refl _⟩
  have t2 : ∀ h : HP, Tr (Av B Sg pe0) (Av B Sg pe) h h := fun h => ⟨fun i o _ q => q, fun i q => .inl ((av i).mpr q), Nat.le_refl _⟩
  obtain ⟨ys, h2, e2, k2, r2⟩ := cmp_go (C := C) (a := a) (t := t) hs hn xs.length 0 [] [] h1 (by omega) (Nat.le_refl _) s1 ⟨o.all.imp fun d u r => r.tr t1, o.it⟩ .nil C.fuel fu
  unfold eLc; rw [e1]; simp only [R.bind_ok]; rw [e2]; simp only [R.bind_ok]
  exact (Fsh.lst (by simpa using r2.imp fun d u r => r.tr (t2 _))).kq (k1.trans k2)
theorem b_y : Xb C pe tY true := fun B Sg e h s => ⟨h, rfl, Kq.refl⟩
/-- no test -/
theorem f_lcm {α : Type} {xs : List α} {f out : α → U} {ws : List Nat} {mi : MI} (hi : Xj C pe mi (xs.map f)) (hw : WipN pe ws pe0) (hn : xs.length ≤ sizeLine) (fu : xs.length < C.fuel)
    (hs : ∀ x ∈ xs, ∃ pe1, Tn g pe0 (f x) pe1 ∧ Xp C pe1 a (out x)) : Xf C pe (eLc ws g mi tY a) (.lst (xs.map out)) := by
  have := f_lc (C := C) (a := a) (t := tY) (out := fun x => some (out x)) hi hw hn fu fun x hx => by
    obtain ⟨pe1, tn, xp⟩ := hs x hx
    exact ⟨pe1, true, tn, b_y, _, rfl, xp⟩
  rwa [List.filterMap_eq_map'] at this
end

/-! ### statements -/
inductive PF where
  | nx (pe : List Sl) | rt (u : U) (pe : List Sl) | rf (u : U) (pe : List Sl) | bk (pe : List Sl) | ct (pe : List Sl) | ex (c : Nat) (us : List (Str × U)) (pe : List Sl)
def PF.pe : PF → List Sl
  | .nx pe => pe
  | .rt _ pe => pe
  | .rf _ pe => pe
  | .bk pe => pe
  | .ct pe => pe
  | .ex _ _ pe => pe
def PRes (r : R FL) (B : AS) (Sg : Nat → List Nat) (pe : List Sl) (h : HP) (Sg' : Nat → List Nat) (e' : Ev) (h' : HP) : PF → Prop
  | .nx _ => r = .ok (.nx e') h'
  | .bk _ => r = .ok (.bk e') h'
  | .ct _ => r = .ok (.ct e') h'
  | .rt u pe' => ∃ d, r = .ok (.rt d) h' ∧ Rd (Av B Sg' pe') h' d u
  | .rf u pe' => ∃ a S, r = .ok (.rt (.ref a)) h' ∧ Cn (fun x => Av B Sg' pe' x ∨ x ∈ S) h' a S u ∧ (∀ s ∈ S, Ow Sg pe s ∨ h.length ≤ s) ∧ ∀ s ∈ S, ¬ Av B Sg' pe' s
  | .ex c us pe' => ∃ fs, r = .ex c fs h' ∧ AllK (Rd (Av B Sg' pe') h') fs us
def Xr (io : List Nat) (pe : List Sl) (f : PF) (B : AS) (Sg : Nat → List Nat) (e : Ev) (h : HP) (r : R FL) : Prop := ∃ Sg' e' h', PRes r B Sg pe h Sg' e' h' f ∧ Sta B Sg' e' h' f.pe ∧ Tr (Ow Sg pe) (Ow Sg' f.pe) h h' ∧ ∀ i ∈ io, e'[i]? = e[i]?
def Xs (C : Ctx) (io : List Nat) (pe : List Sl) (s : MS) (f : PF) : Prop := ∀ ⦃B Sg e h⦄, Sta B Sg e h pe → Xr io pe f B Sg e h (s C e h)
section
variable {C : Ctx} {io : List Nat} {pe pe0 pe1 pe2 : List Sl} {a b c o : ME} {as : MA} {t : MT} {s w : MS} {u v x y z : U} {us vs : List U} {bb : Bool} {i j : Nat} {f f1 : PF} {g : Tg}
/-- behind another one -/
theorem PRes.later {r : R FL} {B : AS} {Sg Sg1 : Nat → List Nat} {h h1 : HP} {Sg' : Nat → List Nat} {e' : Ev} {h' : HP} (t : Tr (Ow Sg pe) (Ow Sg1 pe1) h h1) (q : PRes r B Sg1 pe1 h1 Sg' e' h' f) : PRes r B Sg pe h Sg' e' h' f := by
  cases f with
  | rf u pe2 =>
    obtain ⟨a, S, e1, c, n, m⟩ := q
    exact ⟨a, S, e1, c, fun s hs => (n s hs).elim (fun w => t.sub s w) fun l => .inr (Nat.le_trans t.len l), m⟩
  | _ => exact q
theorem Xr.later {B : AS} {Sg Sg1 : Nat → List Nat} {e e1 : Ev} {h h1 : HP} {r : R FL} (t : Tr (Ow Sg pe) (Ow Sg1 pe1) h h1) (k : ∀ i ∈ io, e1[i]? = e[i]?) (q : Xr io pe1 f B Sg1 e1 h1 r) : Xr io pe f B Sg e h r := by
  obtain ⟨Sg', e', h', p, st, t2, k2⟩ := q
  exact ⟨Sg', e', h', p.later t, st, t.trans t2, fun i hi => (k2 i hi).trans (k i hi)⟩
theorem Kq.tro {Sg : Nat → List Nat} {h h' : HP} (k : Kq h h') : Tr (Ow Sg pe) (Ow Sg pe) h h' := k.tr
/-- nothing but the heap has grown -/
theorem Xr.grow {B : AS} {Sg : Nat → List Nat} {e : Ev} {h h1 : HP} {r : R FL} (k : Kq h h1) (q : Xr io pe f B Sg e h1 r) : Xr io pe f B Sg e h r := q.later k.tro fun _ _ => rfl
theorem s_sk : Xs C io pe sSk (.nx pe) := fun B Sg e h s => ⟨Sg, e, h, rfl, s, Tr.refl, fun _ _ => rfl⟩
theorem s_bk : Xs C io pe sBk (.bk pe) := fun B Sg e h s => ⟨Sg, e, h, rfl, s, Tr.refl, fun _ _ => rfl⟩
theorem s_ct : Xs C io pe sCt (.ct pe) := fun B Sg e h s => ⟨Sg, e, h, rfl, s, Tr.refl, fun _ _ => rfl⟩
theorem s_rn : Xs C io pe sRN (.rt .non pe) := fun B Sg e h s => ⟨Sg, e, h, ⟨.non, rfl, .non⟩, s, Tr.refl, fun _ _ => rfl⟩
def SqK (C : Ctx) (io : List Nat) (f1 : PF) (w : MS) (f : PF) : Prop := match f1 with
  | .nx pe => Xs C io pe w f
  | f1 => f = f1
theorem s_sq (ha : Xs C io pe s f1) (hb : SqK C io f1 w f) : Xs C io pe (sSq s w) f := fun B Sg e h st => by
  obtain ⟨Sg1, e1, h1, p, s1, t1, k1⟩ := ha st
  unfold sSq
  cases f1 with
  | nx pe1 =>
    have p : _ = _ := p
    rw [p]; simp only [R.bind_ok]
    exact ((show Xs C io pe1 w f from hb) s1).later t1 k1
  | rt u pe1 =>
    have hb : f = _ := hb
    subst hb
    obtain ⟨d, e2, r⟩ := p
    exact ⟨Sg1, e1, h1, ⟨d, by rw [e2]; rfl, r⟩, s1, t1, k1⟩
  | rf u pe1 =>
    have hb : f = _ := hb
    subst hb
    obtain ⟨a, S, e2, r⟩ := p
    exact ⟨Sg1, e1, h1, ⟨a, S, by rw [e2]; rfl, r⟩, s1, t1, k1⟩
  | bk pe1 =>
    have hb : f = _ := hb
    subst hb
    have p : _ = _ := p
    exact ⟨Sg1, e1, h1, by show _ = _; rw [p]; rfl, s1, t1, k1⟩
  | ct pe1 =>
    have hb : f = _ := hb
    subst hb
    have p : _ = _ := p
    exact ⟨Sg1, e1, h1, by show _ = _; rw [p]; rfl, s1, t1, k1⟩
  | ex c us pe1 =>
    have hb : f = _ := hb
    subst hb
    obtain ⟨fs, e2, r⟩ := p
    exact ⟨Sg1, e1, h1, ⟨fs, by rw [e2]; rfl, r⟩, s1, t1, k1⟩
theorem k_n (k : Xs C io pe w f) : SqK C io (.nx pe) w f := k
theorem k_r : SqK C io (.rt u pe) w (.rt u pe) := rfl
theorem k_f : SqK C io (.rf u pe) w (.rf u pe) := rfl
theorem k_b : SqK C io (.bk pe) w (.bk pe) := rfl
theorem k_c : SqK C io (.ct pe) w (.ct pe) := rfl
theorem k_e {c : Nat} {es : List (Str × U)} : SqK C io (.ex c es pe) w (.ex c es pe) := rfl
theorem s_if (ha : Xb C pe t bb) (hb : Cd bb (Xs C io pe s f) (Xs C io pe w f)) : Xs C io pe (sIf t s w) f := fun B Sg e h st => by
  obtain ⟨h1, e1, k1⟩ := ha st
  unfold sIf; rw [e1]; simp only [R.bind_ok]
  cases bb with
  | true => simp only [if_true]; exact ((show Xs C io pe s f from hb) (st.kq k1)).grow k1
  | false => simp only [Bool.false_eq_true, if_false]; exact ((show Xs C io pe w f from hb) (st.kq k1)).grow k1
theorem s_ex (ha : Xp C pe a u) : Xs C io pe (sEx a) (.nx pe) := fun B Sg e h st => by
  obtain ⟨d, h1, e1, k1, r1⟩ := ha st
  exact ⟨Sg, e, h1, by show _ = _; unfold sEx; rw [e1]; rfl, st.kq k1, k1.tro, fun _ _ => rfl⟩
theorem s_as (ha : Xp C pe a u) (hg : Tp io g pe u pe1) : Xs C io pe (sAs g a) (.nx pe1) := fun B Sg e h st => by
  obtain ⟨d, h1, e1, k1, r1⟩ := ha st
  obtain ⟨e2, q, s2, f, k⟩ := hg (st.kq k1) r1
  exact ⟨Sg, e2, h1, by show _ = _; unfold sAs; rw [e1]; simp only [R.bind_ok, q], s2, k1.tro.trans (Tr.lessO f), k⟩
/-- an owned name -/
theorem s_aso (ha : Xf C pe a u) (hg : SetO i pe u pe1) (hi : i ∉ io) : Xs C io pe (sAs (gNo i) a) (.nx pe1) := fun B Sg e h st => by
  obtain ⟨p, h1, S, e1, k1, n, c⟩ := ha st
  obtain ⟨s1, t1⟩ := st.own (S := S) (x := some (.ref p)) rfl hg (h' := h1) (fun a o _ q => k1 a o q) k1.len (fun a m => .inr (n a m)) c
  exact ⟨_, _, h1, by show _ = _; unfold sAs; rw [e1]; rfl, s1, t1, fun j hj => by rw [List.getElem?_set_ne (nin_ne hi hj)]⟩
theorem s_pr {pe2 : List Sl} (ha : Xp C pe a u) (hb : Xp C pe b v) (q1 : SetS i pe u pe1) (q2 : SetS j pe1 v pe2) (hi : i ∉ io) (hj : j ∉ io) : Xs C io pe (sPr i j a b) (.nx pe2) := fun B Sg e h st => by
  obtain ⟨d, h1, e1, k1, r1⟩ := ha st
  obtain ⟨d2, h2, e2, k2, r2⟩ := hb (st.kq k1)
  have st2 := st.kq (k1.trans k2)
  have s1 := st2.set (r1.kq k2) q1
  have s2 := s1.set (r2.tr (Tr.less fun a => q1.ow)) q2
  exact ⟨Sg, _, h2, by show _ = _; unfold sPr; rw [e1]; simp only [R.bind_ok]; rw [e2]; rfl, s2, (k1.trans k2).tro.trans (Tr.lessO fun a w => q1.ow (q2.ow w)), fun n hn => by rw [List.getElem?_set_ne (nin_ne hj hn), List.getElem?_set_ne (nin_ne hi hn)]⟩
theorem s_au {op : D → D → HP → R D} (l : pe[i]? = some (.s x)) (ha : Xt C pe a y) (ho : O2 op x y z) (q1 : SetS i pe z pe1) (hi : i ∉ io) : Xs C io pe (sAu i op a) (.nx pe1) := fun B Sg e h st => by
  obtain ⟨d0, e0, r0⟩ := st.sh i x l
  obtain ⟨d, h1, e1, k1, r1⟩ := ha st
  have st1 := st.kq k1
  obtain ⟨d2, h2, e2, k2, r2⟩ := ho (fun _ w => st1.lt w) (.inl (r0.kq k1)) r1
  have s2 := (st1.kq k2).set r2 q1
  exact ⟨Sg, _, h2, by show _ = _; unfold sAu; rw [e0]; simp only; rw [e1]; simp only [R.bind_ok]; rw [e2]; rfl, s2, (k1.trans k2).tro.trans (Tr.lessO fun a w => q1.ow w), fun n hn => by rw [List.getElem?_set_ne (nin_ne hi hn)]⟩
theorem s_rt (ha : Xp C pe a u) : Xs C io pe (sRt a) (.rt u pe) := fun B Sg e h st => by
  obtain ⟨d, h1, e1, k1, r1⟩ := ha st
  exact ⟨Sg, e, h1, ⟨d, by unfold sRt; rw [e1]; rfl, r1⟩, st.kq k1, k1.tro, fun _ _ => rfl⟩
theorem s_rf (ha : Xf C pe a u) : Xs C io pe (sRt a) (.rf u pe) := fun B Sg e h st => by
  obtain ⟨p, h1, S, e1, k1, n, c⟩ := ha st
  exact ⟨Sg, e, h1, ⟨p, S, by unfold sRt; rw [e1]; rfl, c, fun s hs => .inr (n s hs), fun s hs q => by have := st.lt q; have := n s hs; omega⟩, st.kq k1, k1.tro, fun _ _ => rfl⟩
theorem s_ro (l : pe[i]? = some (.o u)) (q1 : SetX i pe pe1) : Xs C io pe (sRt (eV i)) (.rf u pe1) := fun B Sg e h st => by
  obtain ⟨p, e1, c⟩ := st.ow i u l
  have lt := (List.getElem?_eq_some_iff.mp l).1
  have f : ∀ a, Ow Sg pe1 a → Ow Sg pe a := by rw [q1.eq]; exact fun a => Ow.set_no fun v q => by cases q
  have st2 := st.wipe q1 (some (.ref p))
  have ee : e.set i (some (.ref p)) = e := by
    apply List.ext_getElem?
    intro j
    by_cases ej : i = j
    · subst ej; rw [List.getElem?_set_self (by rw [st.len]; exact lt), e1]
    · rw [List.getElem?_set_ne ej]
  rw [ee] at st2
  refine ⟨Sg, e, h, ⟨p, Sg i, by unfold sRt eV; rw [e1]; rfl, ?_, fun s hs => .inl ⟨i, u, l, hs⟩, fun s hs q => ?_⟩, st2, Tr.lessO f, fun _ _ => rfl⟩
  · refine c.tr (fun _ _ _ q => q) ⟨fun _ _ _ q => q, fun a q => ?_, Nat.le_refl _⟩
    rcases q with (q | q) | q
    · exact .inl (.inl q)
    · exact .inl (.inr (f a q))
    · exact .inl (.inr ⟨i, u, l, q⟩)
  · rcases q with q | ⟨j, w, q2, m⟩
    · exact st.nb s ⟨i, u, l, hs⟩ q
    · try rw [show PF.pe (.rf u pe1) = pe1 from rfl] at *
      by_cases ej : i = j
      · subst ej; rw [q1.eq, List.getElem?_set_self lt] at q2; cases q2
      · rw [q1.eq, List.getElem?_set_ne ej] at q2
        exact st.dis i j u w ej l q2 s hs m
/-- names given away -/
structure Frz (is : List Nat) (io : List Nat) (pe pe1 : List Sl) : Prop where
  sta : ∀ ⦃B Sg e h⦄, Sta B Sg e h pe → Sta B Sg e h pe1
  ow : ∀ {Sg a}, Ow Sg pe1 a → Ow Sg pe a
theorem frz0 : Frz [] io pe pe := ⟨fun _ _ _ _ s => s, fun q => q⟩
theorem frzS {is : List Nat} (l : pe[i]? = some (.o u)) (q1 : SetS i pe u pe1) (k : Frz is io pe1 pe2) : Frz (i :: is) io pe pe2 := ⟨fun B Sg e h st => k.sta (by
  obtain ⟨p, e1, c⟩ := st.ow i u l
  have lt := (List.getElem?_eq_some_iff.mp l).1
  have st2 := st.wipe (i := i) (pe1 := pe.set i .n) ⟨rfl⟩ (some (.ref p))
  have ow2 : ∀ a, Ow Sg (pe.set i .n) a → Ow Sg pe a := fun a => Ow.set_no fun v q => by cases q
  have r : Rd (Av B Sg (pe.set i .n)) h (.ref p) u := (c.tr (fun _ _ _ q => q) (Tr.less ow2)).rd fun s hs q => by
    rcases q with q | ⟨j, w, q2, m⟩
    · exact st.nb s ⟨i, u, l, hs⟩ q
    · by_cases ej : i = j
      · subst ej; rw [List.getElem?_set_self lt] at q2; cases q2
      · rw [List.getElem?_set_ne ej] at q2
        exact st.dis i j u w ej l q2 s hs m
  have st3 := st2.set (pe1 := pe1) r ⟨by rw [q1.eq, List.set_set], by simpa using lt⟩
  have ee : (e.set i (some (.ref p))).set i (some (.ref p)) = e := by
    rw [List.set_set]
    apply List.ext_getElem?
    intro j
    by_cases ej : i = j
    · subst ej; rw [List.getElem?_set_self (by rw [st.len]; exact lt), e1]
    · rw [List.getElem?_set_ne ej]
  rwa [ee] at st3), fun q => q1.ow (k.ow q)⟩
theorem s_fz {is : List Nat} (k : Frz is io pe pe1) (q : Xs C io pe1 s f) : Xs C io pe (sFz is s) f := fun B Sg e h st => (q (k.sta st)).later (Tr.lessO fun a w => k.ow w) fun _ _ => rfl
/-! owned things changed -/
/-- a list of one's own -/
theorem Sta.lst {B : AS} {Sg : Nat → List Nat} {e : Ev} {h : HP} (st : Sta B Sg e h pe) (l : pe[i]? = some (.o (.lst us))) : ∃ p ds, e[i]? = some (some (.ref p)) ∧ Sg i = [p] ∧ h[p]? = some (.lst ds) ∧ AllR (Rd (Av B Sg pe) h) ds us ∧ ¬ B p := by
  obtain ⟨p, e1, c1, ds, q, r⟩ := st.ow i _ l
  exact ⟨p, ds, e1, c1, q, r, st.nb p ⟨i, _, l, by rw [c1]; simp⟩⟩
theorem set_id {α : Type} {xs : List α} {n : Nat} {x : α} (q : xs[n]? = some x) : xs.set n x = xs := by
  apply List.ext_getElem?
  intro j
  by_cases ej : n = j
  · subst ej; rw [List.getElem?_set_self (List.getElem?_eq_some_iff.mp q).1, q]
  · rw [List.getElem?_set_ne ej]
theorem Sta.put {B : AS} {Sg : Nat → List Nat} {e : Ev} {h : HP} {p : Nat} {ob : O} {old : U} (st : Sta B Sg e h pe) (l : pe[i]? = some (.o old)) (e1 : e[i]? = some (some (.ref p))) (sg : Sg i = [p]) (hp : p < h.length) (q1 : SetO i pe u pe1) (c : Cn0 (Av B Sg pe) (h.set p ob) p u) (nob : ∀ k us, u ≠ .obj k us) :
    ∃ Sg', Sta B Sg' e (h.set p ob) pe1 ∧ Tr (Ow Sg pe) (Ow Sg' pe1) h (h.set p ob) := by
  have := st.own (S := [p]) (x := some (.ref p)) rfl q1 (h' := h.set p ob) (fun a o n q => by
    have : p ≠ a := fun e => n _ l (by rw [sg, e]; simp)
    rw [List.getElem?_set_ne this]; exact q) (by simp) (fun a m => .inl ⟨_, l, by rw [sg]; exact m⟩) (by
    have c2 : Cn0 (fun a => Av B Sg pe a ∨ a ∈ [p]) (h.set p ob) p u := c.tr (fun _ q => q) ⟨fun _ _ _ q => q, fun a q => q.elim .inl fun m => .inl (.inr ⟨i, _, l, by rw [sg]; exact m⟩), Nat.le_refl _⟩
    cases u with
    | obj k us => exact absurd rfl (nob k us)
    | _ => exact ⟨rfl, c2⟩)
  rw [set_id e1] at this
  exact ⟨_, this⟩
theorem Rd.put {A : AS} {h : HP} {p : Nat} {ob : O} {d : D} (r : Rd A h d u) (n : A p) : Rd A (h.set p ob) d u := r.tr ⟨fun a o m q => by
  have : p ≠ a := fun e => m (e ▸ n)
  rw [List.getElem?_set_ne this]; exact q, fun _ q => .inl q, by simp⟩
theorem s_app (l : pe[i]? = some (.o (.lst us))) (ha : Xp C pe a u) (sz : us.length < sizeLine) (q1 : SetO i pe (.lst (us ++ [u])) pe1) : Xs C io pe (sEx (eBk okL mApp (eV i) (aC a aN))) (.nx pe1) := fun B Sg e h st => by
  obtain ⟨p, ds0, e1, sg, _, _, _⟩ := st.lst l
  obtain ⟨d, h1, ea, k1, rd⟩ := ha st
  have st1 := st.kq k1
  obtain ⟨p', ds, e1', _, hp, r, nb⟩ := st1.lst l
  cases (Option.some.inj (Option.some.inj (e1'.symm.trans e1)))
  have pin : Av B Sg pe p := .inr ⟨i, _, l, by rw [sg]; simp⟩
  have pl := (List.getElem?_eq_some_iff.mp hp).1
  obtain ⟨Sg', s2, t2⟩ := st1.put (ob := .lst (ds ++ [d])) l e1 sg pl q1 ⟨ds ++ [d], List.getElem?_set_self pl, (r.app (.one rd)).imp fun d u w => w.put pin⟩ (by simp)
  refine ⟨Sg', e, _, ?_, s2, k1.tro.trans t2, fun _ _ => rfl⟩
  show _ = _
  obtain ⟨_, _, e1'', _, hp0, _⟩ := st.lst l
  cases (Option.some.inj (Option.some.inj (e1''.symm.trans e1)))
  have ok : okL (.ref p) h = true := by unfold okL; simp only [isL_cases.mpr (.inl hp0)]; rfl
  have ev : (eV i) C e h = .ok (.ref p) h := by unfold eV; rw [e1]
  have ar : (aC a aN) C e h = .ok [d] h1 := by unfold aC; rw [ea]; rfl
  have mp : mApp (.ref p) [d] h1 = .ok .non (h1.set p (.lst (ds ++ [d]))) := by unfold mApp; simp only [hp]; rw [if_pos (by rw [r.len]; exact sz)]
  unfold sEx eBk
  rw [ev]; simp only [R.bind_ok]; rw [if_pos ok, ar]; simp only [R.bind_ok]; rw [mp]; rfl
theorem s_ext (l : pe[i]? = some (.o (.lst us))) (ha : Xt C pe a (.lst vs)) (sz : us.length + vs.length ≤ sizeLine) (q1 : SetO i pe (.lst (us ++ vs)) pe1) : Xs C io pe (sEx (eBk okL mExt (eV i) (aC a aN))) (.nx pe1) := fun B Sg e h st => by
  obtain ⟨p, ds0, e1, sg, hp0, _, _⟩ := st.lst l
  obtain ⟨d, h1, ea, k1, rd⟩ := ha st
  have st1 := st.kq k1
  obtain ⟨p', ds, e1', _, hp, r, nb⟩ := st1.lst l
  cases (Option.some.inj (Option.some.inj (e1'.symm.trans e1)))
  have pin : Av B Sg pe p := .inr ⟨i, _, l, by rw [sg]; simp⟩
  have pl := (List.getElem?_eq_some_iff.mp hp).1
  obtain ⟨j, es, rfl, hj, r2⟩ := rd.lst
  obtain ⟨Sg', s2, t2⟩ := st1.put (ob := .lst (ds ++ es)) l e1 sg pl q1 ⟨ds ++ es, List.getElem?_set_self pl, (r.app r2).imp fun d u w => w.put pin⟩ (by simp)
  refine ⟨Sg', e, _, ?_, s2, k1.tro.trans t2, fun _ _ => rfl⟩
  show _ = _
  have ok : okL (.ref p) h = true := by unfold okL; simp only [isL_cases.mpr (.inl hp0)]; rfl
  have ev : (eV i) C e h = .ok (.ref p) h := by unfold eV; rw [e1]
  have ar : (aC a aN) C e h = .ok [.ref j] h1 := by unfold aC; rw [ea]; rfl
  have mp : mExt (.ref p) [.ref j] h1 = .ok .non (h1.set p (.lst (ds ++ es))) := by unfold mExt; simp only [hp, hj]; rw [if_pos (by rw [r.len, r2.len]; exact sz)]
  unfold sEx eBk
  rw [ev]; simp only [R.bind_ok]; rw [if_pos ok, ar]; simp only [R.bind_ok]; rw [mp]; rfl
theorem s_clr (l : pe[i]? = some (.o (.lst us))) (q1 : SetO i pe (.lst []) pe1) : Xs C io pe (sEx (eBk okL mClr (eV i) aN)) (.nx pe1) := fun B Sg e h st => by
  obtain ⟨p, ds, e1, sg, hp, r, _⟩ := st.lst l
  have pl := (List.getElem?_eq_some_iff.mp hp).1
  obtain ⟨Sg', s2, t2⟩ := st.put (ob := .lst []) l e1 sg pl q1 ⟨[], List.getElem?_set_self pl, .nil⟩ (by simp)
  refine ⟨Sg', e, _, ?_, s2, t2, fun _ _ => rfl⟩
  show _ = _
  have ok : okL (.ref p) h = true := by unfold okL; simp only [isL_cases.mpr (.inl hp)]; rfl
  have ev : (eV i) C e h = .ok (.ref p) h := by unfold eV; rw [e1]
  have mp : mClr (.ref p) [] h = .ok .non (h.set p (.lst [])) := by unfold mClr; simp only [hp]
  unfold sEx eBk
  rw [ev]; simp only [R.bind_ok]; rw [if_pos ok]
  show R.bind (R.bind (R.ok [] h) _) _ = _
  simp only [R.bind_ok]; rw [mp]; rfl
/-- x[k] = v, x a list -/
theorem s_stl {k : Int} {n : Nat} (l : pe[i]? = some (.o (.lst us))) (ha : Xp C pe a u) (hk : Xp C pe b (.int k)) (hn : ixN us.length k = some n) (q1 : SetO i pe (.lst (us.set n u)) pe1) : Xs C io pe (sSt stD (eV i) b a) (.nx pe1) := fun B Sg e h st => by
  obtain ⟨p, _, e1, sg, _, _, _⟩ := st.lst l
  obtain ⟨d, h1, ea, k1, rd⟩ := ha st
  obtain ⟨h2, eb, k2⟩ := hk.int (st.kq k1)
  have st2 := st.kq (k1.trans k2)
  obtain ⟨p', ds, e1', _, hp, r, nb⟩ := st2.lst l
  cases (Option.some.inj (Option.some.inj (e1'.symm.trans e1)))
  have pin : Av B Sg pe p := .inr ⟨i, _, l, by rw [sg]; simp⟩
  have pl := (List.getElem?_eq_some_iff.mp hp).1
  obtain ⟨Sg', s2, t2⟩ := st2.put (ob := .lst (ds.set n d)) l e1 sg pl q1 ⟨ds.set n d, List.getElem?_set_self pl, (r.set n (rd.kq k2)).imp fun d u w => w.put pin⟩ (by simp)
  refine ⟨Sg', e, _, ?_, s2, (k1.trans k2).tro.trans t2, fun _ _ => rfl⟩
  show _ = _
  have ev : (eV i) C e h1 = .ok (.ref p) h1 := by unfold eV; rw [e1]
  have mp : stD (.ref p) (.int k) d h2 = .ok () (h2.set p (.lst (ds.set n d))) := by unfold stD; simp only [hp, r.len, hn]
  unfold sSt
  rw [ea]; simp only [R.bind_ok]; rw [ev]; simp only [R.bind_ok]; rw [eb]; simp only [R.bind_ok]; rw [mp]; rfl
/-- keys -/
def keyU : U → Option Key
  | .int i => some (.inl i)
  | .str x => some (.inr x)
  | _ => none
theorem RT.key {A : AS} {h : HP} {d : D} {k : Key} (r : RT A h d u) (q : keyU u = some k) : keyD d = some k := by
  cases u with
  | int i => rw [r.int]; exact q
  | str i => rw [r.str]; exact q
  | _ => cases q
section
variable {κ : Type} [DecidableEq κ]
def valU (kvs : List (κ × U)) (k : κ) : Option U := (kvs.find? fun kv => decide (kv.1 = k)).map (·.2)
def putKU (kvs : List (κ × U)) (k : κ) (v : U) : List (κ × U) := if (kvs.any fun kv => decide (kv.1 = k)) = true then kvs.map (fun kv => if kv.1 = k then (kv.1, v) else kv) else kvs ++ [(k, v)]
theorem AllK.nilv {P : D → U → Prop} {us : List (κ × U)} (a : AllK P [] us) : us = [] := by have := a.keys; simpa using this.symm
theorem AllK.inv {P : D → U → Prop} {p : κ × D} {ds : List (κ × D)} {us : List (κ × U)} (a : AllK P (p :: ds) us) : ∃ v r, us = (p.1, v) :: r ∧ P p.2 v ∧ AllK P ds r := by
  cases us with
  | nil => exact absurd a.keys (by simp)
  | cons q r =>
    have := a.keys
    simp only [List.map_cons, List.cons.injEq] at this
    exact ⟨q.2, r, by rw [this.1], a.each 0 _ _ rfl rfl, this.2, fun j p q q1 q2 => a.each (j + 1) p q (by simpa using q1) (by simpa using q2)⟩
theorem AllK.cons {P : D → U → Prop} {k : κ} {d : D} {u : U} {ds : List (κ × D)} {us : List (κ × U)} (q : P d u) (a : AllK P ds us) : AllK P ((k, d) :: ds) ((k, u) :: us) := ⟨by simp [a.keys], fun j p r q1 q2 => by
  cases j with
  | zero => simp only [List.getElem?_cons_zero, Option.some.injEq] at q1 q2; subst q1 q2; exact q
  | succ j => exact a.each j p r (by simpa using q1) (by simpa using q2)⟩
theorem AllK.val {P : D → U → Prop} {k : κ} : ∀ {ds : List (κ × D)} {us : List (κ × U)}, AllK P ds us → (∀ u, valU us k = some u → ∃ d, valD ds k = some d ∧ P d u) ∧ (valU us k = none → valD ds k = none)
  | [], us, a => by rw [a.nilv]; exact ⟨fun u q => (by cases q), fun _ => rfl⟩
  | p :: ds, us, a => by
    obtain ⟨v, r, rfl, pv, a2⟩ := a.inv
    have ih := AllK.val (k := k) a2
    unfold valU valD at ih ⊢
    simp only [List.find?_cons]
    by_cases e : p.1 = k
    · simp only [e, decide_true]
      exact ⟨fun u q => (by cases q; exact ⟨_, rfl, pv⟩), fun q => (by cases q)⟩
    · simp only [e, decide_false]
      exact ih
theorem AllK.any {P : D → U → Prop} {k : κ} : ∀ {ds : List (κ × D)} {us : List (κ × U)}, AllK P ds us → (ds.any fun kv => decide (kv.1 = k)) = us.any fun kv => decide (kv.1 = k)
  | [], us, a => by rw [a.nilv]; rfl
  | p :: ds, us, a => by
    obtain ⟨v, r, rfl, pv, a2⟩ := a.inv
    simp only [List.any_cons, AllK.any (k := k) a2]
theorem AllK.len {P : D → U → Prop} {ds : List (κ × D)} {us : List (κ × U)} (a : AllK P ds us) : ds.length = us.length := by have := congrArg List.length a.keys; simpa using this
theorem AllK.mapv {P : D → U → Prop} {k : κ} {d : D} {u : U} (q : P d u) : ∀ {ds : List (κ × D)} {us : List (κ × U)}, AllK P ds us → AllK P (ds.map fun kv => if kv.1 = k then (kv.1, d) else kv) (us.map fun kv => if kv.1 = k then (kv.1, u) else kv)
  | [], us, a => by rw [a.nilv]; exact .nil
  | p :: ds, us, a => by
    obtain ⟨v, r, rfl, pv, a2⟩ := a.inv
    simp only [List.map_cons]
    split
    · exact .cons q (AllK.mapv q a2)
    · exact .cons (d := p.2) (k := p.1) pv (AllK.mapv q a2)
theorem AllK.snoc {P : D → U → Prop} {k : κ} {d : D} {u : U} (q : P d u) : ∀ {ds : List (κ × D)} {us : List (κ × U)}, AllK P ds us → AllK P (ds ++ [(k, d)]) (us ++ [(k, u)])
  | [], us, a => by rw [a.nilv]; exact .cons q .nil
  | p :: ds, us, a => by
    obtain ⟨v, r, rfl, pv, a2⟩ := a.inv
    exact .cons (k := p.1) (d := p.2) pv (AllK.snoc q a2)
theorem AllK.put {P : D → U → Prop} {k : κ} {d : D} {u : U} {ds : List (κ × D)} {us : List (κ × U)} (a : AllK P ds us) (q : P d u) : AllK P (putKD ds k d) (putKU us k u) := by
  unfold putKD putKU
  rw [a.any]
  split
  · exact a.mapv q
  · exact a.snoc q
end
/-- x[k] = v, x a dict -/
theorem s_std {k : Key} {kvs : List (Key × U)} (l : pe[i]? = some (.o (.dic kvs))) (ha : Xp C pe a u) (hk : Xt C pe b v) (hn : keyU v = some k) (sz : kvs.length < sizeLine) (q1 : SetO i pe (.dic (putKU kvs k u)) pe1) : Xs C io pe (sSt stD (eV i) b a) (.nx pe1) := fun B Sg e h st => by
  obtain ⟨p, e1, sg, _⟩ := st.ow i _ l
  obtain ⟨d, h1, ea, k1, rd⟩ := ha st
  obtain ⟨dk, h2, eb, k2, rk⟩ := hk (st.kq k1)
  have st2 := st.kq (k1.trans k2)
  obtain ⟨p', e1', _, ds, hp, r⟩ := st2.ow i _ l
  cases (Option.some.inj (Option.some.inj (e1'.symm.trans e1)))
  have pin : Av B Sg pe p := .inr ⟨i, _, l, by rw [sg]; simp⟩
  have pl := (List.getElem?_eq_some_iff.mp hp).1
  obtain ⟨Sg', s2, t2⟩ := st2.put (ob := .dic (putKD ds k d)) l e1 sg pl q1 ⟨_, List.getElem?_set_self pl, (r.put (rd.kq k2)).imp fun d u w => w.put pin⟩ (by simp)
  refine ⟨Sg', e, _, ?_, s2, (k1.trans k2).tro.trans t2, fun _ _ => rfl⟩
  show _ = _
  have ev : (eV i) C e h1 = .ok (.ref p) h1 := by unfold eV; rw [e1]
  have mp : stD (.ref p) dk d h2 = .ok () (h2.set p (.dic (putKD ds k d))) := by unfold stD; simp only [hp, rk.key hn]; rw [if_pos (by rw [r.len]; exact sz)]
  unfold sSt
  rw [ea]; simp only [R.bind_ok]; rw [ev]; simp only [R.bind_ok]; rw [eb]; simp only [R.bind_ok]; rw [mp]; rfl
end

/-! ### loops -/
section
variable {C : Ctx} {io : List Nat} {pe pe0 pe1 pe2 : List Sl} {g : Tg} {b : MS} {t : MT} {us : List U} {mi : MI}
/-- what a turn leads to -/
def Turn (next : List Sl → Prop) (fin : PF → Prop) : PF → Prop
  | .nx pe => next pe
  | .ct pe => next pe
  | .bk pe => fin (.nx pe)
  | f => fin f
theorem for_go_p (inv : Nat → List Sl → Prop) (fin : PF → Prop) (hs : ∀ j u pe, us[j]? = some u → inv j pe → ∃ pe1, Tp io g pe u pe1 ∧ ∃ f, Xs C io pe1 b f ∧ Turn (inv (j + 1)) fin f) (he : ∀ pe, inv us.length pe → fin (.nx pe)) :
    ∀ (m j : Nat) (pe : List Sl), j + m = us.length → inv j pe → ∃ f, fin f ∧ ∀ ⦃B Sg e h it ds fuel⦄, Sta B Sg e h pe → ItOk (Av B Sg pe) h it ds us → m < fuel → Xr io pe f B Sg e h (forN it g b fuel j C e h)
  | 0, j, pe, hj, p => by
    have : j = us.length := by omega
    subst this
    refine ⟨.nx pe, he pe p, fun B Sg e h it ds fuel st o hf => ⟨Sg, e, h, ?_, st, Tr.refl, fun _ _ => rfl⟩⟩
    obtain ⟨f', rfl⟩ : ∃ f, fuel = f + 1 := ⟨fuel - 1, by omega⟩
    show _ = _
    have hd : it us.length h = some none := by rw [o.it h fun _ _ _ q => q, List.getElem?_eq_none (by rw [o.all.len]; exact Nat.le_refl _)]
    simp only [forN, hd]
  | m + 1, j, pe, hj, p => by
    have jl : j < us.length := by omega
    have hu : us[j]? = some us[j] := List.getElem?_eq_getElem jl
    obtain ⟨pe1, tp, f, xs, tu⟩ := hs j us[j] pe hu p
    have go : ∀ ⦃B Sg e h it ds fuel⦄, Sta B Sg e h pe → ItOk (Av B Sg pe) h it ds us → m + 1 < fuel → ∃ f' d e1, fuel = f' + 1 ∧ it j h = some (some d) ∧ g e d = some e1 ∧ Sta B Sg e1 h pe1 ∧ (∀ a, Ow Sg pe1 a → Ow Sg pe a) ∧ ∀ i ∈ io, e1[i]? = e[i]? := fun B Sg e h it ds fuel st o hf => by
      obtain ⟨f', rfl⟩ : ∃ f, fuel = f + 1 := ⟨fuel - 1, by omega⟩
      obtain ⟨d, hd, rd⟩ := o.all.get hu
      obtain ⟨e1, ge, s1, ow, k⟩ := tp st rd
      exact ⟨f', d, e1, rfl, by rw [o.it h fun _ _ _ q => q, hd], ge, s1, ow, k⟩
    have on : ∀ pe2, inv (j + 1) pe2 → (f = .nx pe2 ∨ f = .ct pe2) → ∃ f, fin f ∧ ∀ ⦃B Sg e h it ds fuel⦄, Sta B Sg e h pe → ItOk (Av B Sg pe) h it ds us → m + 1 < fuel → Xr io pe f B Sg e h (forN it g b fuel j C e h) := fun pe2 i2 hf => by
      obtain ⟨f2, fn, q2⟩ := for_go_p inv fin hs he m (j + 1) pe2 (by omega) i2
      refine ⟨f2, fn, fun B Sg e h it ds fuel st o hfu => ?_⟩
      obtain ⟨f', d, e1, rfl, hit, ge, s1, ow, k⟩ := go st o hfu
      obtain ⟨Sg2, e2, h2, p2, s2, t2, k2⟩ := xs s1
      have tt : Tr (Ow Sg pe) (Ow Sg2 f.pe) h h2 := (Tr.lessO ow).trans t2
      rcases hf with hf | hf <;> subst hf
      · have p2 : b C e1 h = _ := p2
        have := (q2 s2 (o.tr tt.av) (fuel := f') (by omega)).later tt fun i hi => (k2 i hi).trans (k i hi)
        simp only [forN, hit, ge, p2, R.bind_ok]
        exact this
      · have p2 : b C e1 h = _ := p2
        have := (q2 s2 (o.tr tt.av) (fuel := f') (by omega)).later tt fun i hi => (k2 i hi).trans (k i hi)
        simp only [forN, hit, ge, p2, R.bind_ok]
        exact this
    cases f with
    | nx pe2 => exact on pe2 tu (.inl rfl)
    | ct pe2 => exact on pe2 tu (.inr rfl)
    | bk pe2 =>
      refine ⟨.nx pe2, tu, fun B Sg e h it ds fuel st o hfu => ?_⟩
      obtain ⟨f', d, e1, rfl, hit, ge, s1, ow, k⟩ := go st o hfu
      obtain ⟨Sg2, e2, h2, p2, s2, t2, k2⟩ := xs s1
      have p2 : b C e1 h = _ := p2
      exact ⟨Sg2, e2, h2, by show _ = _; simp only [forN, hit, ge, p2, R.bind_ok], s2, (Tr.lessO ow).trans t2, fun i hi => (k2 i hi).trans (k i hi)⟩
    | rt u pe2 =>
      refine ⟨.rt u pe2, tu, fun B Sg e h it ds fuel st o hfu => ?_⟩
      obtain ⟨f', d, e1, rfl, hit, ge, s1, ow, k⟩ := go st o hfu
      obtain ⟨Sg2, e2, h2, ⟨d2, p2, r2⟩, s2, t2, k2⟩ := xs s1
      exact ⟨Sg2, e2, h2, ⟨d2, by simp only [forN, hit, ge, p2, R.bind_ok], r2⟩, s2, (Tr.lessO ow).trans t2, fun i hi => (k2 i hi).trans (k i hi)⟩
    | rf u pe2 =>
      refine ⟨.rf u pe2, tu, fun B Sg e h it ds fuel st o hfu => ?_⟩
      obtain ⟨f', d, e1, rfl, hit, ge, s1, ow, k⟩ := go st o hfu
      obtain ⟨Sg2, e2, h2, ⟨a, S, p2, c, n, m⟩, s2, t2, k2⟩ := xs s1
      exact ⟨Sg2, e2, h2, ⟨a, S, by simp only [forN, hit, ge, p2, R.bind_ok], c, fun s hs => (n s hs).imp (ow s) id, m⟩, s2, (Tr.lessO ow).trans t2, fun i hi => (k2 i hi).trans (k i hi)⟩
    | ex c fs pe2 =>
      refine ⟨.ex c fs pe2, tu, fun B Sg e h it ds fuel st o hfu => ?_⟩
      obtain ⟨f', d, e1, rfl, hit, ge, s1, ow, k⟩ := go st o hfu
      obtain ⟨Sg2, e2, h2, ⟨d2, p2, r2⟩, s2, t2, k2⟩ := xs s1
      exact ⟨Sg2, e2, h2, ⟨d2, by simp only [forN, hit, ge, p2, R.bind_ex], r2⟩, s2, (Tr.lessO ow).trans t2, fun i hi => (k2 i hi).trans (k i hi)⟩
theorem s_fo (hi : Xi C pe mi us) (fu : us.length < C.fuel) (inv : Nat → List Sl → Prop) (fin : PF → Prop) (h0 : inv 0 pe) (hs : ∀ j u pe, us[j]? = some u → inv j pe → ∃ pe1, Tp io g pe u pe1 ∧ ∃ f, Xs C io pe1 b f ∧ Turn (inv (j + 1)) fin f) (he : ∀ pe, inv us.length pe → fin (.nx pe)) :
    ∃ f, fin f ∧ Xs C io pe (sFo g mi b) f := by
  obtain ⟨f, fn, q⟩ := for_go_p inv fin hs he us.length 0 pe (by omega) h0
  refine ⟨f, fn, fun B Sg e h st => ?_⟩
  obtain ⟨it, h1, ds, e1, k1, o⟩ := hi st
  unfold sFo; rw [e1]; simp only [R.bind_ok]
  exact (q (st.kq k1) o fu).grow k1
/-- a loop gone through -/
theorem s_for (hi : Xi C pe mi us) (fu : us.length < C.fuel) (inv : Nat → List Sl → Prop) (h0 : inv 0 pe) (hs : ∀ j u pe, us[j]? = some u → inv j pe → ∃ pe1, Tp io g pe u pe1 ∧ ∃ pe2, (Xs C io pe1 b (.nx pe2) ∨ Xs C io pe1 b (.ct pe2)) ∧ inv (j + 1) pe2) :
    ∃ pe2, Xs C io pe (sFo g mi b) (.nx pe2) ∧ inv us.length pe2 := by
  obtain ⟨f, ⟨pe2, rfl, q⟩, x⟩ := s_fo (C := C) (g := g) (b := b) (io := io) hi fu inv (fun f => ∃ pe2, f = .nx pe2 ∧ inv us.length pe2) h0 (fun j u pe hu p => by
    obtain ⟨pe1, tp, pe2, xs, i2⟩ := hs j u pe hu p
    rcases xs with xs | xs
    · exact ⟨pe1, tp, _, xs, i2⟩
    · exact ⟨pe1, tp, _, xs, i2⟩) (fun pe p => ⟨pe, rfl, p⟩)
  exact ⟨pe2, x, q⟩
theorem wh_go_p (inv : Nat → List Sl → Prop) (fin : PF → Prop) (hs : ∀ n pe, inv n pe → ∃ bb, Xb C pe t bb ∧ if bb = true then ∃ f, Xs C io pe b f ∧ Turn (fun pe2 => ∃ k, k < n ∧ inv k pe2) fin f else fin (.nx pe)) :
    ∀ (n : Nat) (pe : List Sl), inv n pe → ∃ f, fin f ∧ ∀ ⦃B Sg e h fuel⦄, Sta B Sg e h pe → n < fuel → Xr io pe f B Sg e h (whileN t b fuel C e h) := by
  intro n
  induction n using Nat.strongRecOn with
  | ind n ih =>
    intro pe p
    obtain ⟨bb, xb, q⟩ := hs n pe p
    cases bb with
    | false =>
      refine ⟨.nx pe, by simpa using q, fun {B Sg e h fuel} st hf => ?_⟩
      obtain ⟨f', rfl⟩ : ∃ f, fuel = f + 1 := ⟨fuel - 1, by omega⟩
      obtain ⟨h1, e1, k1⟩ := xb st
      exact ⟨Sg, e, h1, by show _ = _; simp only [whileN, e1, R.bind_ok, Bool.false_eq_true, if_false], st.kq k1, k1.tro, fun _ _ => rfl⟩
    | true =>
      simp only [if_true] at q
      obtain ⟨f, xs, tu⟩ := q
      have on : ∀ pe2, (∃ k, k < n ∧ inv k pe2) → (f = .nx pe2 ∨ f = .ct pe2) → ∃ f, fin f ∧ ∀ ⦃B Sg e h fuel⦄, Sta B Sg e h pe → n < fuel → Xr io pe f B Sg e h (whileN t b fuel C e h) := fun pe2 ⟨k, kn, i2⟩ hf => by
        obtain ⟨f2, fn, q2⟩ := ih k kn pe2 i2
        refine ⟨f2, fn, fun {B Sg e h fuel} st hfu => ?_⟩
        obtain ⟨f', rfl⟩ : ∃ f, fuel = f + 1 := ⟨fuel - 1, by omega⟩
        obtain ⟨h1, e1, k1⟩ := xb st
        obtain ⟨Sg2, e2, h2, p2, s2, t2, k2⟩ := xs (st.kq k1)
        rcases hf with hf | hf <;> subst hf
        · have p2 : b C e h1 = _ := p2
          have := ((q2 s2 (fuel := f') (by omega)).later t2 k2).grow k1
          simp only [whileN, e1, R.bind_ok, if_true, p2]
          exact this
        · have p2 : b C e h1 = _ := p2
          have := ((q2 s2 (fuel := f') (by omega)).later t2 k2).grow k1
          simp only [whileN, e1, R.bind_ok, if_true, p2]
          exact this
      cases f with
      | nx pe2 => exact on pe2 tu (.inl rfl)
      | ct pe2 => exact on pe2 tu (.inr rfl)
      | bk pe2 =>
        refine ⟨.nx pe2, tu, fun {B Sg e h fuel} st hfu => ?_⟩
        obtain ⟨f', rfl⟩ : ∃ f, fuel = f + 1 := ⟨fuel - 1, by omega⟩
        obtain ⟨h1, e1, k1⟩ := xb st
        obtain ⟨Sg2, e2, h2, p2, s2, t2, k2⟩ := xs (st.kq k1)
        have p2 : b C e h1 = _ := p2
        exact ⟨Sg2, e2, h2, by show _ = _; simp only [whileN, e1, R.bind_ok, if_true, p2], s2, k1.tro.trans t2, k2⟩
      | rt u pe2 =>
        refine ⟨.rt u pe2, tu, fun {B Sg e h fuel} st hfu => ?_⟩
        obtain ⟨f', rfl⟩ : ∃ f, fuel = f + 1 := ⟨fuel - 1, by omega⟩
        obtain ⟨h1, e1, k1⟩ := xb st
        obtain ⟨Sg2, e2, h2, ⟨d2, p2, r2⟩, s2, t2, k2⟩ := xs (st.kq k1)
        exact ⟨Sg2, e2, h2, ⟨d2, by simp only [whileN, e1, R.bind_ok, if_true, p2], r2⟩, s2, k1.tro.trans t2, k2⟩
      | rf u pe2 =>
        refine ⟨.rf u pe2, tu, fun {B Sg e h fuel} st hfu => ?_⟩
        obtain ⟨f', rfl⟩ : ∃ f, fuel = f + 1 := ⟨fuel - 1, by omega⟩
        obtain ⟨h1, e1, k1⟩ := xb st
        obtain ⟨Sg2, e2, h2, ⟨a, S, p2, c, n2, m⟩, s2, t2, k2⟩ := xs (st.kq k1)
        exact ⟨Sg2, e2, h2, ⟨a, S, by simp only [whileN, e1, R.bind_ok, if_true, p2], c, fun s hs => (n2 s hs).imp id (Nat.le_trans k1.len), m⟩, s2, k1.tro.trans t2, k2⟩
      | ex c fs pe2 =>
        refine ⟨.ex c fs pe2, tu, fun {B Sg e h fuel} st hfu => ?_⟩
        obtain ⟨f', rfl⟩ : ∃ f, fuel = f + 1 := ⟨fuel - 1, by omega⟩
        obtain ⟨h1, e1, k1⟩ := xb st
        obtain ⟨Sg2, e2, h2, ⟨d2, p2, r2⟩, s2, t2, k2⟩ := xs (st.kq k1)
        exact ⟨Sg2, e2, h2, ⟨d2, by simp only [whileN, e1, R.bind_ok, if_true, p2, R.bind_ex], r2⟩, s2, k1.tro.trans t2, k2⟩
theorem s_wh (inv : Nat → List Sl → Prop) (fin : PF → Prop) (hs : ∀ n pe, inv n pe → ∃ bb, Xb C pe t bb ∧ if bb = true then ∃ f, Xs C io pe b f ∧ Turn (fun pe2 => ∃ k, k < n ∧ inv k pe2) fin f else fin (.nx pe)) {n : Nat} (h0 : inv n pe) (fu : n < C.fuel) :
    ∃ f, fin f ∧ Xs C io pe (sWh t b) f := by
  obtain ⟨f, fn, q⟩ := wh_go_p inv fin hs n pe h0
  exact ⟨f, fn, fun B Sg e h st => q st fu⟩
end

/-! ### defs -/
section
variable {C : Ctx} {np nn : Nat} {m : MS} {vs : List U} {u : U} {pe pe' : List Sl}
theorem sta0 {A : AS} {h : HP} {ds : List D} (b : Bd A h) (r : AllR (Rd A h) ds vs) (k : Nat) : Sta A (fun _ => []) (ds.map some ++ List.replicate k none) h (vs.map Sl.s ++ List.replicate k Sl.n) := by
  have no : ∀ {i : Nat} {u : U}, (vs.map Sl.s ++ List.replicate k Sl.n)[i]? ≠ some (.o u) := fun {i u} q => by
    have := List.mem_of_getElem? q
    rcases List.mem_append.mp this with w | w
    · obtain ⟨z, _, e⟩ := List.mem_map.mp w; cases e
    · have := List.eq_of_mem_replicate w; cases this
  have sub : ∀ a, Av A (fun _ => []) (vs.map Sl.s ++ List.replicate k Sl.n) a → A a := fun a q => q.elim id fun ⟨i, u, q, _⟩ => absurd q no
  refine ⟨by simp [r.len], fun i u q => ?_, fun i u q => absurd q no, fun i j u v _ q => absurd q no, b, fun a ⟨i, u, q, _⟩ => absurd q no⟩
  by_cases hi : i < vs.length
  · rw [List.getElem?_append_left (by simpa using hi), List.getElem?_map] at q
    cases e1 : vs[i]? with
    | none => rw [e1] at q; cases q
    | some v =>
      rw [e1] at q
      cases q
      obtain ⟨d, e2, rd⟩ := r.get e1
      exact ⟨d, by rw [List.getElem?_append_left (by simp [r.len, hi]), List.getElem?_map, e2]; rfl, rd.tr ⟨fun _ _ _ q => q, fun a q => .inl (sub a q), Nat.le_refl _⟩⟩
  · rw [List.getElem?_append_right (by simpa using Nat.le_of_not_lt hi)] at q
    have := List.eq_of_mem_replicate (List.mem_of_getElem? q)
    cases this
theorem no_own {k : Nat} {a : Nat} : ¬ Ow (fun _ => []) (vs.map Sl.s ++ List.replicate k Sl.n) a := fun ⟨i, u, q, m⟩ => by cases m
theorem fu_rt (l : vs.length = np) (e : vs.map Sl.s ++ List.replicate (nn - vs.length) Sl.n = pe) (q : Xs C [] pe m (.rt u pe')) : Fu (runFn C ⟨np, nn, m⟩) vs u := fun A h ds b r => by
  subst e
  have st := sta0 b r (nn - vs.length)
  obtain ⟨Sg', e', h', ⟨d, e1, rd⟩, s1, t1, _⟩ := q st
  refine ⟨d, h', ?_, fun i o w => t1.keep i o no_own w, rd.tr ⟨fun _ _ _ q => q, fun a q => .inl (.inl q), Nat.le_refl _⟩⟩
  unfold runFn
  rw [if_pos (by rw [r.len]; exact l), r.len]; simp only; rw [e1]; rfl
theorem fu_nx (l : vs.length = np) (e : vs.map Sl.s ++ List.replicate (nn - vs.length) Sl.n = pe) (q : Xs C [] pe m (.nx pe')) : Fu (runFn C ⟨np, nn, m⟩) vs .non := fun A h ds b r => by
  subst e
  have st := sta0 b r (nn - vs.length)
  obtain ⟨Sg', e', h', e1, s1, t1, _⟩ := q st
  have e1 : _ = _ := e1
  refine ⟨.non, h', ?_, fun i o w => t1.keep i o no_own w, .non⟩
  unfold runFn
  rw [if_pos (by rw [r.len]; exact l), r.len]; simp only; rw [e1]; rfl
theorem ff_rf (l : vs.length = np) (e : vs.map Sl.s ++ List.replicate (nn - vs.length) Sl.n = pe) (q : Xs C [] pe m (.rf u pe')) : Ff (runFn C ⟨np, nn, m⟩) vs u := fun A h ds b r => by
  subst e
  have st := sta0 b r (nn - vs.length)
  obtain ⟨Sg', e', h', ⟨a, S, e1, c, n, m⟩, s1, t1, _⟩ := q st
  refine ⟨a, h', S, ?_, fun i o w => t1.keep i o no_own w, fun s hs => (n s hs).elim (fun w => absurd w no_own) id, c.tr (fun _ _ _ q => q) ⟨fun _ _ _ q => q, fun a q => .inl (q.imp .inl id), Nat.le_refl _⟩⟩
  unfold runFn
  rw [if_pos (by rw [r.len]; exact l), r.len]; simp only; rw [e1]; rfl
theorem fu_rf (l : vs.length = np) (e : vs.map Sl.s ++ List.replicate (nn - vs.length) Sl.n = pe) (q : Xs C [] pe m (.rf u pe')) : Fu (runFn C ⟨np, nn, m⟩) vs u := (ff_rf l e q).fu
/-- the law's def -/
theorem law_of {C : Ctx} {fn : Fn} {ns : List Int} (q : Fu (runFn C fn) [.fz (ns.map U.int)] (.bl true)) : ∃ h', runFn C fn [.ref 0] [.fz (ns.map D.int)] = .ok (.bl true) h' := by
  obtain ⟨d, h', e, _, r⟩ := q (A := fun _ => False) (h := [.fz (ns.map D.int)]) (ds := [.ref 0]) (fun a q => q.elim) (.one (.fz (fun q => q) rfl (by simp) fun j d u q1 q2 => by
    rw [List.getElem?_map] at q1 q2
    cases e : ns[j]? with
    | none => rw [e] at q1; cases q1
    | some z => rw [e] at q1 q2; cases q1; cases q2; exact .int))
  rw [Rd.bl_iff] at r; subst r
  exact ⟨h', e⟩
end
end Z
/-! Y3: what the operators, built-in functions and methods make of values. -/
namespace Z
open PySem L2

/-! ### data -/
mutual
def uPy : U → PyData
  | .non => .none
  | .bl b => .bool b
  | .int i => .int i
  | .str x => .str x
  | .tup us => .tuple (uPys us)
  | .lst us => .list (uPys us)
  | .fz us => .list (uPys us)
  | _ => .none
def uPys : List U → List PyData
  | [] => []
  | u :: us => uPy u :: uPys us
end
theorem uPys_map : ∀ us : List U, uPys us = us.map uPy
  | [] => by simp only [uPys, List.map_nil]
  | u :: us => by simp only [uPys, List.map_cons, uPys_map us]
/-- clean data: no truths, no dicts -/
inductive Cl : Nat → U → Prop
  | non {n : Nat} : Cl n .non
  | int {n : Nat} {i : Int} : Cl n (.int i)
  | str {n : Nat} {x : Str} : PyData.strOk x = true → Cl n (.str x)
  | tup {n : Nat} {us : List U} : (∀ u ∈ us, Cl n u) → Cl (n + 1) (.tup us)
  | lst {n : Nat} {us : List U} : (∀ u ∈ us, Cl n u) → Cl (n + 1) (.lst us)
theorem Cl.mono {n m : Nat} {u : U} (c : Cl n u) (l : n ≤ m) : Cl m u := by
  induction c generalizing m with
  | non => exact .non
  | int => exact .int
  | str h => exact .str h
  | tup _ ih => obtain ⟨k, rfl⟩ : ∃ k, m = k + 1 := ⟨m - 1, by omega⟩; exact .tup fun u hu => ih u hu (by omega)
  | lst _ ih => obtain ⟨k, rfl⟩ : ∃ k, m = k + 1 := ⟨m - 1, by omega⟩; exact .lst fun u hu => ih u hu (by omega)
theorem Cl.tup_inv {n : Nat} {us : List U} (c : Cl n (.tup us)) : ∃ m, n = m + 1 ∧ ∀ u ∈ us, Cl m u := by cases c with | tup h => exact ⟨_, rfl, h⟩
theorem Cl.lst_inv {n : Nat} {us : List U} (c : Cl n (.lst us)) : ∃ m, n = m + 1 ∧ ∀ u ∈ us, Cl m u := by cases c with | lst h => exact ⟨_, rfl, h⟩
theorem lay_all (us : List U) (f : ∀ u ∈ us, (uPy u).canLay0 = true) : PyData.canLayAll0 (us.map uPy) = true := by
  induction us with
  | nil => rfl
  | cons u us ih =>
    simp only [List.map_cons, PyData.canLayAll0, f u (List.mem_cons_self ..), Bool.true_and]
    exact ih fun v hv => f v (List.mem_cons_of_mem _ hv)
theorem dep_all (us : List U) {n : Nat} (f : ∀ u ∈ us, (uPy u).depth ≤ n) : PyData.depthAll (us.map uPy) ≤ n := by
  induction us with
  | nil => exact Nat.zero_le _
  | cons u us ih =>
    simp only [List.map_cons, PyData.depthAll]
    exact Nat.max_le.mpr ⟨f u (List.mem_cons_self ..), ih fun v hv => f v (List.mem_cons_of_mem _ hv)⟩
theorem Cl.lay {n : Nat} {u : U} (c : Cl n u) : (uPy u).canLay0 = true ∧ (uPy u).depth ≤ n := by
  induction c with
  | non => exact ⟨rfl, Nat.zero_le _⟩
  | int => exact ⟨rfl, Nat.zero_le _⟩
  | str h => exact ⟨by simp only [uPy, PyData.canLay0, h], Nat.zero_le _⟩
  | tup _ ih => exact ⟨by simp only [uPy, PyData.canLay0, uPys_map]; exact lay_all _ fun u hu => (ih u hu).1, by simp only [uPy, PyData.depth, uPys_map]; have := dep_all _ fun u hu => (ih u hu).2; omega⟩
  | lst _ ih => exact ⟨by simp only [uPy, PyData.canLay0, uPys_map]; exact lay_all _ fun u hu => (ih u hu).1, by simp only [uPy, PyData.depth, uPys_map]; have := dep_all _ fun u hu => (ih u hu).2; omega⟩
theorem Cl.shaped {n : Nat} {u : U} (c : Cl n u) (l : n ≤ 64) : SeqAt.shaped (uPy u) = true := by
  unfold SeqAt.shaped
  rw [c.lay.1, decide_eq_true (Nat.le_trans c.lay.2 l)]; rfl
theorem seqO_all {f : D → Option PyData} : ∀ {ds : List D} {us : List U}, AllR (fun d u => f d = some (uPy u)) ds us → seqO (ds.map f) = some (us.map uPy)
  | [], us, a => by have := a.len; cases us with | nil => rfl | cons u us => simp at this
  | d :: ds, us, a => by
    obtain ⟨u, r, rfl, q, a2⟩ := a.invD
    rw [List.map_cons, q]
    show (seqO (ds.map f)).map _ = _
    rw [seqO_all a2]; rfl
theorem Rd.py {A : AS} {h : HP} {d : D} {u : U} (r : Rd A h d u) : ∀ {n m : Nat}, Cl n u → n ≤ m → toPy m h d = some (uPy u) := by
  induction r with
  | non => intro n m c l; cases m <;> rfl
  | bl => intro n m c l; cases c
  | int => intro n m c l; cases m <;> rfl
  | str => intro n m c l; cases m <;> rfl
  | @tup ds us ln _ ih =>
    intro n m c l
    obtain ⟨k, rfl, c2⟩ := c.tup_inv
    obtain ⟨m, rfl⟩ : ∃ j, m = j + 1 := ⟨m - 1, by omega⟩
    simp only [toPy, uPy, uPys_map]
    rw [seqO_all (us := us) ⟨ln, fun j d u q1 q2 => ih j d u q1 q2 (c2 u (List.mem_of_getElem? q2)) (by omega)⟩]; rfl
  | @lst i ds us na q ln _ ih =>
    intro n m c l
    obtain ⟨k, rfl, c2⟩ := c.lst_inv
    obtain ⟨m, rfl⟩ : ∃ j, m = j + 1 := ⟨m - 1, by omega⟩
    simp only [toPy, uPy, uPys_map, isL_cases.mpr (.inl q)]
    rw [seqO_all (us := us) ⟨ln, fun j d u q1 q2 => ih j d u q1 q2 (c2 u (List.mem_of_getElem? q2)) (by omega)⟩]; rfl
  | fz => intro n m c l; cases c
  | dic => intro n m c l; cases c
  | dct => intro n m c l; cases c
  | obj => intro n m c l; cases c
theorem RT.py {A : AS} {h : HP} {d : D} {u : U} (r : RT A h d u) {n m : Nat} (c : Cl n u) (l : n ≤ m) : toPy m h d = some (uPy u) := by
  rcases r with r | ⟨a, S, e, q⟩
  · exact r.py c l
  · subst e
    cases c with
    | lst c =>
      obtain ⟨m, rfl⟩ : ∃ j, m = j + 1 := ⟨m - 1, by omega⟩
      obtain ⟨_, ds, q, r⟩ := q
      simp only [toPy, uPy, uPys_map, isL_cases.mpr (.inl q)]
      rw [seqO_all ⟨r.len, fun j d u q1 q2 => (r.each j d u q1 q2).py (c u (List.mem_of_getElem? q2)) (by omega)⟩]; rfl
    | _ => exact False.elim q.2
theorem eqv_all_iff : ∀ {us vs : List U}, (∀ u ∈ us, ∀ v, (∃ m, Cl m v) → (PyData.eqv (uPy u) (uPy v) = true ↔ u = v)) → (∀ v ∈ vs, ∃ m, Cl m v) → (PyData.eqvAll (us.map uPy) (vs.map uPy) = true ↔ us = vs)
  | [], [], _, _ => by simp [PyData.eqvAll]
  | [], v :: vs, _, _ => by simp [PyData.eqvAll]
  | u :: us, [], _, _ => by simp [PyData.eqvAll]
  | u :: us, v :: vs, f, g => by
    simp only [List.map_cons, PyData.eqvAll, Bool.and_eq_true, List.cons.injEq]
    rw [f u (List.mem_cons_self ..) v (g v (List.mem_cons_self ..)), eqv_all_iff (fun w hw => f w (List.mem_cons_of_mem _ hw)) fun w hw => g w (List.mem_cons_of_mem _ hw)]
theorem eqv_iff_eq {n : Nat} {u : U} (c : Cl n u) : ∀ v : U, (∃ m, Cl m v) → (PyData.eqv (uPy u) (uPy v) = true ↔ u = v) := by
  induction c with
  | non => intro v ⟨m, c⟩; cases c <;> simp [uPy, PyData.eqv]
  | int => intro v ⟨m, c⟩; cases c <;> simp [uPy, PyData.eqv]
  | str => intro v ⟨m, c⟩; cases c <;> simp [uPy, PyData.eqv]
  | tup _ ih =>
    intro v ⟨m, c⟩
    cases c with
    | tup c => simp only [uPy, PyData.eqv, uPys_map, U.tup.injEq]; exact eqv_all_iff ih fun v hv => ⟨_, c v hv⟩
    | _ => simp [uPy, PyData.eqv]
  | lst _ ih =>
    intro v ⟨m, c⟩
    cases c with
    | lst c => simp only [uPy, PyData.eqv, uPys_map, U.lst.injEq]; exact eqv_all_iff ih fun v hv => ⟨_, c v hv⟩
    | _ => simp [uPy, PyData.eqv]
theorem eqD_cl {A : AS} {h : HP} {dx dy : D} {x y : U} {n m : Nat} (rx : RT A h dx x) (ry : RT A h dy y) (cx : Cl n x) (cy : Cl m y) (ln : n ≤ 64) (lm : m ≤ 64) : ∃ b, eqD dx dy h = some b ∧ (b = true ↔ x = y) := by
  unfold eqD
  cases e : eqFlat dx dy with
  | some b =>
    refine ⟨b, rfl, ?_⟩
    cases cx with
    | non =>
      rw [rx.non] at e
      cases cy with
      | non => rw [ry.non] at e; cases e; simp
      | int => rw [ry.int] at e; cases e; simp
      | str => rw [ry.str] at e; cases e; simp
      | tup => obtain ⟨ds, e2, _⟩ := ry.tup; rw [e2] at e; cases e
      | lst => obtain ⟨i, ds, e2, _⟩ := ry.lst; rw [e2] at e; cases e
    | int =>
      rw [rx.int] at e
      cases cy with
      | non => rw [ry.non] at e; cases e; simp
      | int => rw [ry.int] at e; cases e; simp
      | str => rw [ry.str] at e; cases e; simp
      | tup => obtain ⟨ds, e2, _⟩ := ry.tup; rw [e2] at e; cases e
      | lst => obtain ⟨i, ds, e2, _⟩ := ry.lst; rw [e2] at e; cases e
    | str =>
      rw [rx.str] at e
      cases cy with
      | non => rw [ry.non] at e; cases e; simp
      | int => rw [ry.int] at e; cases e; simp
      | str => rw [ry.str] at e; cases e; simp
      | tup => obtain ⟨ds, e2, _⟩ := ry.tup; rw [e2] at e; cases e
      | lst => obtain ⟨i, ds, e2, _⟩ := ry.lst; rw [e2] at e; cases e
    | tup => obtain ⟨ds, e2, _⟩ := rx.tup; rw [e2] at e; cases e
    | lst => obtain ⟨i, ds, e2, _⟩ := rx.lst; rw [e2] at e; cases e
  | none =>
    refine ⟨PyData.eqv (uPy x) (uPy y), ?_, eqv_iff_eq cx y ⟨_, cy⟩⟩
    unfold deepEq
    simp only [rx.py cx (Nat.le_trans ln (by decide)) (m := deepN), ry.py cy (Nat.le_trans lm (by decide)) (m := deepN), cx.shaped ln, cy.shaped lm, and_self, if_true]

/-! ### operators -/
section
variable {x y u v : U} {us vs : List U} {p q r : Int} {z w : Str} {bb b2 : Bool}
theorem o_add : O2 opAdd (.int p) (.int q) (.int (p + q)) := fun A h dx dy b rx ry => by rw [rx.int, ry.int]; exact ⟨_, h, rfl, Kq.refl, .int⟩
theorem o_sub : O2 opSub (.int p) (.int q) (.int (p - q)) := fun A h dx dy b rx ry => by rw [rx.int, ry.int]; exact ⟨_, h, rfl, Kq.refl, .int⟩
theorem o_iadd : O2 opIAdd (.int p) (.int q) (.int (p + q)) := fun A h dx dy b rx ry => by rw [rx.int, ry.int]; exact ⟨_, h, rfl, Kq.refl, .int⟩
theorem o_mul (l : mulOk p q = true) : O2 opMul (.int p) (.int q) (.int (p * q)) := fun A h dx dy b rx ry => by rw [rx.int, ry.int]; exact ⟨_, h, by simp only [opMul, l, if_true], Kq.refl, .int⟩
theorem o_div (l : divOk q = true) (k : 0 < q) : O2 opDiv (.int p) (.int q) (.int (p / q)) := fun A h dx dy b rx ry => by rw [rx.int, ry.int]; exact ⟨_, h, by simp only [opDiv, l, if_true, Int.fdiv_eq_ediv_of_nonneg p (Int.le_of_lt k)], Kq.refl, .int⟩
theorem o_mod (k : 0 < q) : O2 opMod (.int p) (.int q) (.int (p % q)) := fun A h dx dy b rx ry => by
  rw [rx.int, ry.int]
  have : q ≠ 0 := by omega
  exact ⟨_, h, by simp only [opMod, ne_eq, this, not_false_eq_true, if_true, Int.fmod_eq_emod_of_nonneg p (Int.le_of_lt k)], Kq.refl, .int⟩
theorem o_pow (l : 0 ≤ q ∧ q ≤ 1000000 ∧ p.natAbs < 2 ^ 64) : O2 opPow (.int p) (.int q) (.int (p ^ q.toNat)) := fun A h dx dy b rx ry => by rw [rx.int, ry.int]; exact ⟨_, h, by simp only [opPow]; rw [if_pos l], Kq.refl, .int⟩
theorem o_neg : O1 opNeg (.int p) (.int (-p)) := fun A h dx b rx => by rw [rx.int]; exact ⟨_, h, rfl, Kq.refl, .int⟩
theorem o_lt : O2 opLt (.int p) (.int q) (.bl (decide (p < q))) := fun A h dx dy b rx ry => by rw [rx.int, ry.int]; exact ⟨_, h, rfl, Kq.refl, .bl⟩
theorem o_le : O2 opLe (.int p) (.int q) (.bl (decide (p ≤ q))) := fun A h dx dy b rx ry => by rw [rx.int, ry.int]; exact ⟨_, h, rfl, Kq.refl, .bl⟩
theorem o_gt : O2 opGt (.int p) (.int q) (.bl (decide (q < p))) := fun A h dx dy b rx ry => by rw [rx.int, ry.int]; exact ⟨_, h, rfl, Kq.refl, .bl⟩
theorem o_ge : O2 opGe (.int p) (.int q) (.bl (decide (q ≤ p))) := fun A h dx dy b rx ry => by rw [rx.int, ry.int]; exact ⟨_, h, rfl, Kq.refl, .bl⟩
theorem o_eq : O2 opEq (.int p) (.int q) (.bl (decide (p = q))) := fun A h dx dy b rx ry => by rw [rx.int, ry.int]; exact ⟨_, h, rfl, Kq.refl, .bl⟩
theorem o_ne : O2 opNe (.int p) (.int q) (.bl (!decide (p = q))) := fun A h dx dy b rx ry => by rw [rx.int, ry.int]; exact ⟨_, h, rfl, Kq.refl, .bl⟩
theorem o_eqs : O2 opEq (.str z) (.str w) (.bl (decide (z = w))) := fun A h dx dy b rx ry => by rw [rx.str, ry.str]; exact ⟨_, h, rfl, Kq.refl, .bl⟩
theorem o_nes : O2 opNe (.str z) (.str w) (.bl (!decide (z = w))) := fun A h dx dy b rx ry => by rw [rx.str, ry.str]; exact ⟨_, h, rfl, Kq.refl, .bl⟩
theorem o_eqb : O2 opEq (.bl bb) (.bl b2) (.bl (decide (bb = b2))) := fun A h dx dy b rx ry => by rw [rx.bl, ry.bl]; exact ⟨_, h, rfl, Kq.refl, .bl⟩
theorem o_neb : O2 opNe (.bl bb) (.bl b2) (.bl (!decide (bb = b2))) := fun A h dx dy b rx ry => by rw [rx.bl, ry.bl]; exact ⟨_, h, rfl, Kq.refl, .bl⟩
/-- clean data are equal or not -/
theorem o_eqt {n : Nat} (c : Cl n x) (l : n ≤ 64) : O2 opEq x x (.bl true) := fun A h dx dy b rx ry => by
  obtain ⟨k, e, i⟩ := eqD_cl rx ry c c l l
  have : k = true := i.mpr rfl
  subst this
  exact ⟨_, h, by unfold opEq; rw [e], Kq.refl, .bl⟩
theorem o_net {n : Nat} (c : Cl n x) (l : n ≤ 64) : O2 opNe x x (.bl false) := fun A h dx dy b rx ry => by
  obtain ⟨k, e, i⟩ := eqD_cl rx ry c c l l
  have : k = true := i.mpr rfl
  subst this
  exact ⟨_, h, by unfold opNe; rw [e]; rfl, Kq.refl, .bl⟩
def NotN : U → Bool
  | .non => false
  | _ => true
theorem RT.isNon {A : AS} {h : HP} {d : D} (r : RT A h d x) : isNon d = !NotN x := by
  cases x with
  | non => rw [r.non]; rfl
  | bl => rw [r.bl]; rfl
  | int => rw [r.int]; rfl
  | str => rw [r.str]; rfl
  | tup => obtain ⟨ds, e, _⟩ := r.tup; rw [e]; rfl
  | lst => obtain ⟨i, ds, e, _⟩ := r.lst; rw [e]; rfl
  | fz => obtain ⟨i, ds, e, _⟩ := r.fz; rw [e]; rfl
  | dic => obtain ⟨i, ds, e, _⟩ := r.dic; rw [e]; rfl
  | dct => obtain ⟨i, ds, e, _⟩ := r.dct; rw [e]; rfl
  | obj =>
    rcases r with r | ⟨a, S, e, _⟩
    · obtain ⟨i, ds, e, _⟩ := r.obj_inv; rw [e]; rfl
    · rw [e]; rfl
theorem o_isn : O2 opIsN .non .non (.bl true) := fun A h dx dy b rx ry => by rw [rx.non, ry.non]; exact ⟨_, h, rfl, Kq.refl, .bl⟩
theorem o_isx (n : NotN x = true) : O2 opIsN x .non (.bl false) := fun A h dx dy b rx ry => by rw [ry.non]; exact ⟨.bl false, h, by unfold opIsN; rw [rx.isNon, n]; rfl, Kq.refl, .bl⟩
theorem o_nsn : O2 opNotN .non .non (.bl false) := fun A h dx dy b rx ry => by rw [rx.non, ry.non]; exact ⟨_, h, rfl, Kq.refl, .bl⟩
theorem o_nsx (n : NotN x = true) : O2 opNotN x .non (.bl true) := fun A h dx dy b rx ry => by rw [ry.non]; exact ⟨.bl true, h, by unfold opNotN; rw [rx.isNon, n]; rfl, Kq.refl, .bl⟩
theorem o_adds (l : z.length + w.length ≤ sizeLine) : O2 opAdd (.str z) (.str w) (.str (z ++ w)) := fun A h dx dy b rx ry => by rw [rx.str, ry.str]; exact ⟨_, h, by simp only [opAdd, if_pos l], Kq.refl, .str⟩
theorem o_iadds (l : z.length + w.length ≤ sizeLine) : O2 opIAdd (.str z) (.str w) (.str (z ++ w)) := fun A h dx dy b rx ry => by rw [rx.str, ry.str]; exact ⟨_, h, by simp only [opIAdd, if_pos l], Kq.refl, .str⟩
theorem o_addt (l : us.length + vs.length ≤ sizeLine) : O2 opAdd (.tup us) (.tup vs) (.tup (us ++ vs)) := fun A h dx dy b rx ry => by
  obtain ⟨ds, rfl, a⟩ := rx.tup
  obtain ⟨es, rfl, c⟩ := ry.tup
  exact ⟨_, h, by simp only [opAdd]; rw [if_pos (by rw [a.len, c.len]; exact l)], Kq.refl, .mk_tup (a.app c)⟩
theorem of_addl (l : us.length + vs.length ≤ sizeLine) : O2f opAdd (.lst us) (.lst vs) (.lst (us ++ vs)) := fun A h dx dy b rx ry => by
  obtain ⟨i, ds, rfl, q, a⟩ := rx.lst
  obtain ⟨j, es, rfl, q2, c⟩ := ry.lst
  have : opAdd (.ref i) (.ref j) h = .ok (.ref h.length) (h ++ [.lst (ds ++ es)]) := by simp only [opAdd, q, q2]; rw [if_pos (by rw [a.len, c.len]; exact l)]
  rw [this]
  exact .lst (a.app c)
theorem AllR.rep {P : D → U → Prop} {ds : List D} {us : List U} (a : AllR P ds us) : ∀ n : Nat, AllR P (List.replicate n ds).flatten (List.replicate n us).flatten
  | 0 => .nil
  | n + 1 => by rw [List.replicate_succ, List.replicate_succ, List.flatten_cons, List.flatten_cons]; exact a.app (a.rep n)
theorem of_mull {k : Int} (l : -(2 ^ 63) ≤ k ∧ k < 2 ^ 63 ∧ us.length * k.toNat ≤ sizeLine) : O2f opMul (.lst us) (.int k) (.lst (List.replicate k.toNat us).flatten) := fun A h dx dy b rx ry => by
  obtain ⟨i, ds, rfl, q, a⟩ := rx.lst
  rw [ry.int]
  have : opMul (.ref i) (.int k) h = .ok (.ref h.length) (h ++ [.lst (List.replicate k.toNat ds).flatten]) := by simp only [opMul, q]; rw [if_pos (by rw [a.len]; exact l)]
  rw [this]
  exact .lst (a.rep _)
/-! subscripts -/
theorem AllR.at {P : D → U → Prop} {ds : List D} (a : AllR P ds us) {k : Int} (q : atI us k = some u) : ∃ d, atI ds k = some d ∧ P d u := by
  unfold atI at q ⊢
  rw [a.len]
  cases e : ixN us.length k with
  | none => rw [e] at q; cases q
  | some j => rw [e] at q; exact a.get q
theorem o_ixt {k : Int} (q : atI us k = some u) : O2 opIx (.tup us) (.int k) u := fun A h dx dy b rx ry => by
  obtain ⟨ds, rfl, a⟩ := rx.tup
  rw [ry.int]
  obtain ⟨d, e, r⟩ := a.at q
  exact ⟨d, h, by simp only [opIx, e], Kq.refl, r⟩
theorem o_ixq {k : Int} (s : Seq x us) (q : atI us k = some u) : O2 opIx x (.int k) u := fun A h dx dy b rx ry => by
  obtain ⟨i, ds, rfl, q1, a⟩ := rx.seq s
  rw [ry.int]
  obtain ⟨d, e, r⟩ := a.at q
  refine ⟨d, h, ?_, Kq.refl, r⟩
  rcases isL_cases.mp q1 with q1 | q1
  · simp only [opIx, q1, isL, e]
  · simp only [opIx, q1, isL, e]
theorem o_ixl {k : Int} (q : atI us k = some u) : O2 opIx (.lst us) (.int k) u := o_ixq (.inl rfl) q
theorem o_ixz {k : Int} (q : atI us k = some u) : O2 opIx (.fz us) (.int k) u := o_ixq (.inr rfl) q
theorem o_ixd {kvs : List (Key × U)} {k : Key} (n : keyU y = some k) (q : valU kvs k = some u) : O2 opIx (.dic kvs) y u := fun A h dx dy b rx ry => by
  obtain ⟨i, ds, rfl, q1, a⟩ := rx.dic
  obtain ⟨d, e, r⟩ := (AllK.val (k := k) a).1 u q
  exact ⟨d, h, by simp only [opIx, q1, ry.key n, e], Kq.refl, r⟩
theorem at_nat {α : Type} {xs : List α} {k : Nat} {a : α} (q : xs[k]? = some a) : atI xs (k : Int) = some a := by
  have := (List.getElem?_eq_some_iff.mp q).1
  unfold atI ixN
  rw [if_pos (by omega), if_pos (by omega)]
  simpa using q
theorem at_int {α : Type} {xs : List α} {k : Int} {a : α} (k0 : 0 ≤ k) (q : xs[k.toNat]? = some a) : atI xs k = some a := by
  have := at_nat q
  rwa [Int.toNat_of_nonneg k0] at this
theorem at_m1 {α : Type} {xs : List α} {a : α} (q : xs.getLast? = some a) : atI xs (-1) = some a := by
  have h0 : xs ≠ [] := fun e => by subst e; cases q
  have : 0 < xs.length := List.length_pos_iff.mpr h0
  unfold atI ixN
  rw [if_neg (by omega), if_pos (by omega)]
  rw [List.getLast?_eq_getElem?] at q
  simp only [Option.bind_some]
  rw [← q]; congr 1; omega
/-! in -/
theorem inFlat_u {A : AS} {h : HP} {dx : D} (rx : RT A h dx x) (cx : ∃ n, Cl n x) (fx : flatD dx = true) : ∀ {ds : List D} {us : List U}, AllR (Rd A h) ds us → (∀ u ∈ us, ∃ n, Cl n u) → ds.all flatD = true → ∃ b, inFlat dx ds = some b ∧ (b = true ↔ x ∈ us)
  | [], us, a, _, _ => by
    have := a.len
    cases us with
    | nil => exact ⟨false, rfl, by simp⟩
    | cons u us => simp at this
  | d :: ds, us, a, cu, fd => by
    obtain ⟨u, r, rfl, rd, a2⟩ := a.invD
    rw [List.all_cons, Bool.and_eq_true] at fd
    obtain ⟨b, e, i⟩ := inFlat_u rx cx fx a2 (fun v hv => cu v (List.mem_cons_of_mem _ hv)) fd.2
    obtain ⟨n, cx⟩ := cx
    obtain ⟨m, cu⟩ := cu u (List.mem_cons_self ..)
    have key : ∃ b, eqFlat d dx = some b ∧ (b = true ↔ u = x) := by
      cases cx with
      | non =>
        rw [rx.non]
        cases cu with
        | non => rw [Rd.non_iff.mp rd]; exact ⟨true, rfl, by simp⟩
        | int => rw [Rd.int_iff.mp rd]; exact ⟨false, rfl, by simp⟩
        | str => rw [Rd.str_iff.mp rd]; exact ⟨false, rfl, by simp⟩
        | tup => obtain ⟨_, e2, _⟩ := rd.tup_inv; rw [e2] at fd; cases fd.1
        | lst => obtain ⟨_, _, e2, _⟩ := rd.lst_inv; rw [e2] at fd; cases fd.1
      | int =>
        rw [rx.int]
        cases cu with
        | non => rw [Rd.non_iff.mp rd]; exact ⟨false, rfl, by simp⟩
        | int => rw [Rd.int_iff.mp rd]; exact ⟨_, rfl, by simp⟩
        | str => rw [Rd.str_iff.mp rd]; exact ⟨false, rfl, by simp⟩
        | tup => obtain ⟨_, e2, _⟩ := rd.tup_inv; rw [e2] at fd; cases fd.1
        | lst => obtain ⟨_, _, e2, _⟩ := rd.lst_inv; rw [e2] at fd; cases fd.1
      | str =>
        rw [rx.str]
        cases cu with
        | non => rw [Rd.non_iff.mp rd]; exact ⟨false, rfl, by simp⟩
        | int => rw [Rd.int_iff.mp rd]; exact ⟨false, rfl, by simp⟩
        | str => rw [Rd.str_iff.mp rd]; exact ⟨_, rfl, by simp⟩
        | tup => obtain ⟨_, e2, _⟩ := rd.tup_inv; rw [e2] at fd; cases fd.1
        | lst => obtain ⟨_, _, e2, _⟩ := rd.lst_inv; rw [e2] at fd; cases fd.1
      | tup => obtain ⟨_, e2, _⟩ := rx.tup; rw [e2] at fx; cases fx
      | lst => obtain ⟨_, _, e2, _⟩ := rx.lst; rw [e2] at fx; cases fx
    obtain ⟨k, e3, i3⟩ := key
    cases k with
    | true => exact ⟨true, by simp only [inFlat, e3], by rw [i3.mp rfl]; simp⟩
    | false =>
      refine ⟨b, by simp only [inFlat, e3, e], ?_⟩
      rw [i, List.mem_cons]
      exact ⟨.inr, fun h => h.elim (fun w => absurd (i3.mpr w.symm) (by simp)) id⟩
theorem inD_seq {A : AS} {h : HP} {dx dy : D} {n m : Nat} (rx : RT A h dx x) (ry : RT A h dy (.lst us)) (cx : Cl n x) (cy : Cl m (.lst us)) (ln : n ≤ 64) (lm : m ≤ 64) : ∃ b, inD dx dy h = some b ∧ (b = true ↔ x ∈ us) := by
  obtain ⟨i, ds, rfl, q, a⟩ := ry.lst
  obtain ⟨k, rfl, cu⟩ := cy.lst_inv
  have hs : isL i h = some ds := isL_cases.mpr (.inl q)
  have e0 : inD dx (.ref i) h = if flatD dx = true ∧ ds.all flatD = true then inFlat dx ds else inDeep dx ds h := by simp only [inD, q, hs]
  rw [e0]
  split
  · rename_i fl
    exact inFlat_u rx ⟨_, cx⟩ fl.1 a (fun u hu => ⟨_, cu u hu⟩) fl.2
  · refine ⟨(us.map uPy).any fun z => PyData.eqv z (uPy x), ?_, ?_⟩
    · unfold inDeep
      have hp : seqO (ds.map (toPy deepN h)) = some (us.map uPy) := seqO_all ⟨a.len, fun j d u q1 q2 => (a.each j d u q1 q2).py (cu u (List.mem_of_getElem? q2)) (m := deepN) (by unfold deepN; omega)⟩
      have hl := cy.shaped lm
      simp only [uPy, uPys_map] at hl
      simp only [rx.py cx (Nat.le_trans ln (by decide)) (m := deepN), hp, cx.shaped ln, hl, and_self, if_true]
    · rw [List.any_map, List.any_eq_true]
      constructor
      · rintro ⟨u, hu, e⟩
        rw [← (eqv_iff_eq (cu u hu) x ⟨_, cx⟩).mp e]; exact hu
      · intro hx
        exact ⟨x, hx, (eqv_iff_eq cx x ⟨_, cx⟩).mpr rfl⟩
theorem o_int {n m : Nat} (cx : Cl n x) (cy : Cl m (.lst us)) (ln : n ≤ 64) (lm : m ≤ 64) (k : x ∈ us) : O2 opIn x (.lst us) (.bl true) := fun A h dx dy b rx ry => by
  obtain ⟨z, e, i⟩ := inD_seq rx ry cx cy ln lm
  have : z = true := i.mpr k
  subst this
  exact ⟨_, h, by unfold opIn; rw [e], Kq.refl, .bl⟩
theorem o_inf {n m : Nat} (cx : Cl n x) (cy : Cl m (.lst us)) (ln : n ≤ 64) (lm : m ≤ 64) (k : x ∉ us) : O2 opIn x (.lst us) (.bl false) := fun A h dx dy b rx ry => by
  obtain ⟨z, e, i⟩ := inD_seq rx ry cx cy ln lm
  have : z = false := by cases z with | false => rfl | true => exact absurd (i.mp rfl) k
  subst this
  exact ⟨_, h, by unfold opIn; rw [e], Kq.refl, .bl⟩
theorem o_nit {n m : Nat} (cx : Cl n x) (cy : Cl m (.lst us)) (ln : n ≤ 64) (lm : m ≤ 64) (k : x ∈ us) : O2 opNin x (.lst us) (.bl false) := fun A h dx dy b rx ry => by
  obtain ⟨z, e, i⟩ := inD_seq rx ry cx cy ln lm
  have : z = true := i.mpr k
  subst this
  exact ⟨_, h, by unfold opNin; rw [e]; rfl, Kq.refl, .bl⟩
theorem o_nif {n m : Nat} (cx : Cl n x) (cy : Cl m (.lst us)) (ln : n ≤ 64) (lm : m ≤ 64) (k : x ∉ us) : O2 opNin x (.lst us) (.bl true) := fun A h dx dy b rx ry => by
  obtain ⟨z, e, i⟩ := inD_seq rx ry cx cy ln lm
  have : z = false := by cases z with | false => rfl | true => exact absurd (i.mp rfl) k
  subst this
  exact ⟨_, h, by unfold opNin; rw [e]; rfl, Kq.refl, .bl⟩
/-- whole numbers -/
theorem cl_ints {ns : List Int} : Cl 1 (.lst (ns.map U.int)) := .lst fun u hu => by obtain ⟨z, _, rfl⟩ := List.mem_map.mp hu; exact .int
theorem mem_ints {ns : List Int} {k : Int} : U.int k ∈ ns.map U.int ↔ k ∈ ns := by
  rw [List.mem_map]
  exact ⟨fun ⟨z, hz, e⟩ => by cases e; exact hz, fun h => ⟨k, h, rfl⟩⟩
theorem o_ini {ns : List Int} {k : Int} : O2 opIn (.int k) (.lst (ns.map U.int)) (.bl (decide (k ∈ ns))) := by
  by_cases h : k ∈ ns
  · rw [decide_eq_true h]; exact o_int .int cl_ints (by decide : 0 ≤ 64) (by decide) (mem_ints.mpr h)
  · rw [decide_eq_false h]; exact o_inf .int cl_ints (by decide : 0 ≤ 64) (by decide) fun q => h (mem_ints.mp q)
theorem o_nii {ns : List Int} {k : Int} : O2 opNin (.int k) (.lst (ns.map U.int)) (.bl (!decide (k ∈ ns))) := by
  by_cases h : k ∈ ns
  · rw [decide_eq_true h]; exact o_nit .int cl_ints (by decide : 0 ≤ 64) (by decide) (mem_ints.mpr h)
  · rw [decide_eq_false h]; exact o_nif .int cl_ints (by decide : 0 ≤ 64) (by decide) fun q => h (mem_ints.mp q)
/-- a key in a dict -/
theorem AllK.isSome {κ : Type} [DecidableEq κ] {P : D → U → Prop} {k : κ} {ds : List (κ × D)} {us : List (κ × U)} (a : AllK P ds us) : (valD ds k).isSome = (valU us k).isSome := by
  obtain ⟨h1, h2⟩ := AllK.val (k := k) a
  cases e : valU us k with
  | none => rw [h2 e]; rfl
  | some u => obtain ⟨d, e2, _⟩ := h1 u e; rw [e2]; rfl
theorem o_ind {kvs : List (Key × U)} {k : Key} (n : keyU x = some k) : O2 opIn x (.dic kvs) (.bl (valU kvs k).isSome) := fun A h dx dy b rx ry => by
  obtain ⟨i, ds, rfl, q1, a⟩ := ry.dic
  exact ⟨_, h, by simp only [opIn, inD, q1, rx.key n]; rw [a.isSome], Kq.refl, .bl⟩
theorem o_nid {kvs : List (Key × U)} {k : Key} (n : keyU x = some k) : O2 opNin x (.dic kvs) (.bl (!(valU kvs k).isSome)) := fun A h dx dy b rx ry => by
  obtain ⟨i, ds, rfl, q1, a⟩ := ry.dic
  exact ⟨_, h, by simp only [opNin, inD, q1, rx.key n]; rw [a.isSome], Kq.refl, .bl⟩
/-! slices -/
def cutU (xs : List U) (lo hi : Option Int) : List U := (xs.drop (HT.sIx xs.length 0 lo)).take (HT.sIx xs.length xs.length hi - HT.sIx xs.length 0 lo)
theorem AllR.cut {P : D → U → Prop} {ds : List D} (a : AllR P ds us) (lo hi : Option Int) : AllR P (cutD ds lo hi) (cutU us lo hi) := by
  unfold cutD cutU
  rw [a.len]
  exact (a.drop _).take _
theorem sf_q {lo hi : Option Int} (s : Seq x us) : S3f x lo hi (.lst (cutU us lo hi)) := fun A h d b rx => by
  obtain ⟨i, ds, rfl, q1, a⟩ := rx.seq s
  have : opSl (.ref i) lo hi h = .ok (.ref h.length) (h ++ [.lst (cutD ds lo hi)]) := by simp only [opSl, q1]
  rw [this]
  exact .lst (a.cut lo hi)
theorem sf_l {lo hi : Option Int} : S3f (.lst us) lo hi (.lst (cutU us lo hi)) := sf_q (.inl rfl)
theorem sf_z {lo hi : Option Int} : S3f (.fz us) lo hi (.lst (cutU us lo hi)) := sf_q (.inr rfl)
theorem s3_t {lo hi : Option Int} : S3 (.tup us) lo hi (.tup (cutU us lo hi)) := fun A h d b rx => by
  obtain ⟨ds, rfl, a⟩ := rx.tup
  exact ⟨_, h, rfl, Kq.refl, .mk_tup (a.cut lo hi)⟩
theorem s3_s {lo hi : Option Int} (l : z.length ≤ sizeLine) : S3 (.str z) lo hi (.str (cutS z lo hi)) := fun A h d b rx => by
  rw [rx.str]
  exact ⟨_, h, by simp only [opSl, if_pos l], Kq.refl, .str⟩
theorem cutU_map {α : Type} (f : α → U) (xs : List α) (lo hi : Option Int) : cutU (xs.map f) lo hi = ((xs.drop (HT.sIx xs.length 0 lo)).take (HT.sIx xs.length xs.length hi - HT.sIx xs.length 0 lo)).map f := by
  unfold cutU
  rw [List.length_map, List.map_take, List.map_drop]
/-! built-in functions -/
theorem b_lenq (s : Seq x us) : B1 bLen [x] (.int us.length) := fun A h ds b r0 => by
  obtain ⟨d, t, rfl, r, a⟩ := r0.inv
  cases a.inv0
  obtain ⟨i, ds, rfl, q1, a⟩ := r.seq s
  refine ⟨_, h, ?_, Kq.refl, .int⟩
  rw [← a.len]
  rcases isL_cases.mp q1 with q1 | q1 <;> simp only [bLen, q1, isL]
theorem b_lenl : B1 bLen [.lst us] (.int us.length) := b_lenq (.inl rfl)
theorem b_lenz : B1 bLen [.fz us] (.int us.length) := b_lenq (.inr rfl)
theorem AllR.inv1 {P : D → U → Prop} {ds : List D} (r0 : AllR P ds [u]) : ∃ d, ds = [d] ∧ P d u := by
  obtain ⟨d, t, rfl, r, a⟩ := r0.inv
  cases a.inv0
  exact ⟨d, rfl, r⟩
theorem AllR.inv2 {P : D → U → Prop} {ds : List D} (r0 : AllR P ds [u, v]) : ∃ d e, ds = [d, e] ∧ P d u ∧ P e v := by
  obtain ⟨d, t, rfl, r, a⟩ := r0.inv
  obtain ⟨e, rfl, r2⟩ := a.inv1
  exact ⟨d, e, rfl, r, r2⟩
theorem AllR.inv3 {w : U} {P : D → U → Prop} {ds : List D} (r0 : AllR P ds [u, v, w]) : ∃ d e f, ds = [d, e, f] ∧ P d u ∧ P e v ∧ P f w := by
  obtain ⟨d, t, rfl, r, a⟩ := r0.inv
  obtain ⟨e, f, rfl, r2, r3⟩ := a.inv2
  exact ⟨d, e, f, rfl, r, r2, r3⟩
theorem b_lent : B1 bLen [.tup us] (.int us.length) := fun A h ds b r0 => by
  obtain ⟨d, rfl, r⟩ := r0.inv1
  obtain ⟨ds, rfl, a⟩ := r.tup
  exact ⟨_, h, by rw [← a.len]; rfl, Kq.refl, .int⟩
theorem b_lens (l : z.length ≤ sizeLine) : B1 bLen [.str z] (.int z.length) := fun A h ds b r0 => by
  obtain ⟨d, rfl, r⟩ := r0.inv1
  rw [r.str]
  exact ⟨_, h, by simp only [bLen, if_pos l], Kq.refl, .int⟩
theorem b_lend {kvs : List (Key × U)} : B1 bLen [.dic kvs] (.int kvs.length) := fun A h ds b r0 => by
  obtain ⟨d, rfl, r⟩ := r0.inv1
  obtain ⟨i, ds, rfl, q, a⟩ := r.dic
  exact ⟨_, h, by simp only [bLen, q, a.len], Kq.refl, .int⟩
theorem b_abs : B1 bAbs [.int p] (.int (p.natAbs : Int)) := fun A h ds b r0 => by
  obtain ⟨d, rfl, r⟩ := r0.inv1
  rw [r.int]
  exact ⟨_, h, by simp only [bAbs]; congr 2; split <;> omega, Kq.refl, .int⟩
theorem b_max : B1 bMax [.int p, .int q] (.int (max p q)) := fun A h ds b r0 => by
  obtain ⟨d, e, rfl, r, r2⟩ := r0.inv2
  rw [r.int, r2.int]
  exact ⟨_, h, by simp only [bMax]; congr 2; split <;> omega, Kq.refl, .int⟩
theorem b_max3 : B1 bMax [.int p, .int q, .int r] (.int (max (max p q) r)) := fun A h ds b r0 => by
  obtain ⟨d, e, f, rfl, r, r2, r3⟩ := r0.inv3
  rw [r.int, r2.int, r3.int]
  exact ⟨_, h, by simp only [bMax]; congr 2; split <;> split <;> omega, Kq.refl, .int⟩
theorem b_min : B1 bMin [.int p, .int q] (.int (min p q)) := fun A h ds b r0 => by
  obtain ⟨d, e, rfl, r, r2⟩ := r0.inv2
  rw [r.int, r2.int]
  exact ⟨_, h, by simp only [bMin]; congr 2; split <;> omega, Kq.refl, .int⟩
theorem ints_all {A : AS} {h : HP} : ∀ {ds : List D} {ns : List Int}, AllR (Rd A h) ds (ns.map U.int) → ds = ns.map D.int
  | ds, [], a => by cases a.inv0; rfl
  | ds, n :: ns, a => by
    obtain ⟨d, t, rfl, r, a⟩ := a.inv
    rw [Rd.int_iff.mp r, ints_all a]; rfl
theorem intsD_map : ∀ ns : List Int, intsD (ns.map D.int) = some ns
  | [] => rfl
  | n :: ns => by
    have := intsD_map ns
    unfold intsD at this ⊢
    rw [List.map_cons, List.map_cons]
    show (seqO _).map _ = _
    rw [this]; rfl
theorem RT.ints {A : AS} {h : HP} {d : D} {ns : List Int} (r : RT A h d (.lst (ns.map U.int))) : ∃ i, d = .ref i ∧ h[i]? = some (.lst (ns.map D.int)) := by
  obtain ⟨i, ds, e, q, a⟩ := r.lst
  rw [ints_all a] at q
  exact ⟨i, e, q⟩
theorem b_sum {ns : List Int} : B1 bSum [.lst (ns.map U.int)] (.int ns.sum) := fun A h ds b r0 => by
  obtain ⟨d, rfl, r⟩ := r0.inv1
  obtain ⟨i, rfl, q⟩ := r.ints
  exact ⟨_, h, by simp only [bSum, isL, q, intsD_map], Kq.refl, .int⟩
theorem b_maxl {ns : List Int} {m : Int} (e : maxL ns = some m) : B1 bMax [.lst (ns.map U.int)] (.int m) := fun A h ds b r0 => by
  obtain ⟨d, rfl, r⟩ := r0.inv1
  obtain ⟨i, rfl, q⟩ := r.ints
  exact ⟨_, h, by simp only [bMax, isL, q, intsD_map, e], Kq.refl, .int⟩
theorem b_minl {ns : List Int} {m : Int} (e : minL ns = some m) : B1 bMin [.lst (ns.map U.int)] (.int m) := fun A h ds b r0 => by
  obtain ⟨d, rfl, r⟩ := r0.inv1
  obtain ⟨i, rfl, q⟩ := r.ints
  exact ⟨_, h, by simp only [bMin, isL, q, intsD_map, e], Kq.refl, .int⟩
theorem b_inti : B1 bInt [.int p] (.int p) := fun A h ds b r0 => by
  obtain ⟨d, rfl, r⟩ := r0.inv1
  rw [r.int]; exact ⟨_, h, rfl, Kq.refl, .int⟩
theorem b_intb : B1 bInt [.bl bb] (.int (if bb then 1 else 0)) := fun A h ds b r0 => by
  obtain ⟨d, rfl, r⟩ := r0.inv1
  rw [r.bl]; exact ⟨_, h, rfl, Kq.refl, .int⟩
theorem b_stri (l : p.natAbs.log2 < 1920) : B1 bStr [.int p] (.str (toString p)) := fun A h ds b r0 => by
  obtain ⟨d, rfl, r⟩ := r0.inv1
  rw [r.int]; exact ⟨_, h, by simp only [bStr, if_pos l], Kq.refl, .str⟩
theorem b_strs : B1 bStr [.str z] (.str z) := fun A h ds b r0 => by
  obtain ⟨d, rfl, r⟩ := r0.inv1
  rw [r.str]; exact ⟨_, h, rfl, Kq.refl, .str⟩
theorem b_dvm (k : 0 < q) (l : divOk q = true) : B1 bDvm [.int p, .int q] (.tup [.int (p / q), .int (p % q)]) := fun A h ds b r0 => by
  obtain ⟨d, e, rfl, r, r2⟩ := r0.inv2
  rw [r.int, r2.int]
  exact ⟨_, h, by simp only [bDvm]; rw [if_pos ⟨k, l⟩], Kq.refl, .mk_tup (.cons .int (.one .int))⟩
theorem bf_lstq (s : Seq x us) : B1f bLst [x] (.lst us) := fun A h ds b r0 => by
  obtain ⟨d, rfl, r⟩ := r0.inv1
  obtain ⟨i, ds, rfl, q1, a⟩ := r.seq s
  have : bLst [.ref i] h = .ok (.ref h.length) (h ++ [.lst ds]) := by simp only [bLst, q1]
  rw [this]
  exact .lst a
theorem bf_lstl : B1f bLst [.lst us] (.lst us) := bf_lstq (.inl rfl)
theorem bf_lstt : B1f bLst [.tup us] (.lst us) := fun A h ds b r0 => by
  obtain ⟨d, rfl, r⟩ := r0.inv1
  obtain ⟨ds, rfl, a⟩ := r.tup
  exact .lst a
theorem b_tupl : B1 bTup [.lst us] (.tup us) := fun A h ds b r0 => by
  obtain ⟨d, rfl, r⟩ := r0.inv1
  obtain ⟨i, ds, rfl, q1, a⟩ := r.seq (.inl rfl)
  exact ⟨_, h, by simp only [bTup, q1], Kq.refl, .mk_tup a⟩
theorem bf_sr2 {ns : List Int} : B1f bSr2 [.lst (ns.map U.int)] (.lst ((srtI ns).map U.int)) := fun A h ds b r0 => by
  obtain ⟨d, rfl, r⟩ := r0.inv1
  obtain ⟨i, rfl, q⟩ := r.ints
  have : bSr2 [.ref i] h = .ok (.ref h.length) (h ++ [.lst ((srtI ns).map D.int)]) := by simp only [bSr2, q, bSrt, isL, intsD_map]
  rw [this]
  exact .lst (AllR.map fun x _ => .int)
/-- sorted(a dict of whole numbers) -/
theorem AllK.keysI {P : D → U → Prop} {ds : List (Key × D)} {us : List (Key × U)} (a : AllK P ds us) : (ds.map fun kv => intK kv.1) = us.map fun kv => intK kv.1 := by
  have := congrArg (List.map intK) a.keys
  simpa [List.map_map, Function.comp_def] using this
theorem bf_sr2d {kvs : List (Key × U)} {ks : List Int} (e : seqO (kvs.map fun kv => intK kv.1) = some ks) (l : ks.length < 64) : B1f bSr2 [.dic kvs] (.lst ((srtI ks).map U.int)) := fun A h ds b r0 => by
  obtain ⟨d, rfl, r⟩ := r0.inv1
  obtain ⟨i, ds, rfl, q, a⟩ := r.dic
  have : bSr2 [.ref i] h = .ok (.ref h.length) (h ++ [.lst ((srtI ks).map D.int)]) := by simp only [bSr2, q]; rw [a.keysI, e]; simp only [if_pos l]
  rw [this]
  exact .lst (AllR.map fun x _ => .int)
theorem of_srs {ns : List Int} (l : ns.length + 1 < scanBound ∧ (uniq ns).length < 64) : O1f bSrS (.lst (ns.map U.int)) (.lst ((srtI (uniq ns)).map U.int)) := fun A h d b r => by
  obtain ⟨i, rfl, q⟩ := r.ints
  have : bSrS (.ref i) h = .ok (.ref h.length) (h ++ [.lst ((srtI (uniq ns)).map D.int)]) := by simp only [bSrS, isL, q, intsD_map]; rw [if_pos l]
  rw [this]
  exact .lst (AllR.map fun x _ => .int)
/-- dict(..) of a list of pairs -/
def pairU : U → Option (Key × U)
  | .tup [x, y] => (keyU x).map fun k => (k, y)
  | _ => none
/-! methods -/
theorem ok_l : OkU okL (.lst us) := fun A h d r => by
  obtain ⟨i, ds, rfl, q, _⟩ := r.lst
  simp only [okL, isL, q]; rfl
theorem ok_s : OkU okS (.str z) := fun A h d r => by rw [r.str]; rfl
theorem strs_all {A : AS} {h : HP} : ∀ {ds : List D} {zs : List Str}, AllR (Rd A h) ds (zs.map U.str) → ds = zs.map D.str
  | ds, [], a => by cases a.inv0; rfl
  | ds, n :: ns, a => by
    obtain ⟨d, t, rfl, r, a⟩ := a.inv
    rw [Rd.str_iff.mp r, strs_all a]; rfl
theorem strsD_map : ∀ zs : List Str, strsD (zs.map D.str) = some zs
  | [] => rfl
  | n :: ns => by
    have := strsD_map ns
    unfold strsD at this ⊢
    rw [List.map_cons, List.map_cons]
    show (seqO _).map _ = _
    rw [this]; rfl
theorem m_join {zs : List Str} (l : (zs.map (·.length)).sum + zs.length * z.length ≤ 16777216) : M1 mJoin (.str z) [.lst (zs.map U.str)] (.str (Txt.join z zs)) := fun A h d ds b rx r0 => by
  obtain ⟨d2, rfl, r⟩ := r0.inv1
  obtain ⟨i, ds, rfl, q, a⟩ := r.lst
  rw [strs_all a] at q
  rw [rx.str]
  exact ⟨_, h, by simp only [mJoin, isL, q, strsD_map]; rw [if_pos l], Kq.refl, .str⟩
theorem mf_split (l : (w.length == 0) = false ∧ z.length + 2 ≤ sizeLine) : M1f mSplit (.str z) [.str w] (.lst ((Txt.split z w).map U.str)) := fun A h d ds b rx r0 => by
  obtain ⟨d2, rfl, r⟩ := r0.inv1
  rw [rx.str, r.str]
  have : mSplit (.str z) [.str w] h = .ok (.ref h.length) (h ++ [.lst ((Txt.split z w).map D.str)]) := by simp only [mSplit]; rw [if_pos l]
  rw [this]
  exact .lst (AllR.map fun x _ => .str)
theorem m_find : M1 mFind (.str z) [.str w] (.int (Txt.find z w)) := fun A h d ds b rx r0 => by
  obtain ⟨d2, rfl, r⟩ := r0.inv1
  rw [rx.str, r.str]
  exact ⟨_, h, rfl, Kq.refl, .int⟩
theorem m_cnt {ns : List Int} : M1 mCnt (.lst (ns.map U.int)) [.int p] (.int (ns.count p : Nat)) := fun A h d ds b rx r0 => by
  obtain ⟨d2, rfl, r⟩ := r0.inv1
  obtain ⟨i, rfl, q⟩ := rx.ints
  rw [r.int]
  exact ⟨_, h, by simp only [mCnt, isL, q, intsD_map], Kq.refl, .int⟩
theorem idxD_str {ns : List Str} : ∀ {ds : List Str} {j : Nat} (_ : z ∈ ds), idxD (.str z) (ds.map D.str) j = some (j + ds.findIdx fun x => decide (x = z))
  | [], j, h => by cases h
  | y :: ds, j, h => by
    rw [List.map_cons, List.findIdx_cons]
    by_cases e : y = z
    · subst e
      have : eqFlat (.str y) (.str y) = some true := by simp [eqFlat]
      simp only [idxD, this]
      simp
    · have q : eqFlat (.str y) (.str z) = some false := by simp [eqFlat, e]
      have hm : z ∈ ds := by
        rcases List.mem_cons.mp h with h | h
        · exact absurd h.symm e
        · exact h
      simp only [idxD, q]
      rw [idxD_str (ns := ns) hm]
      simp only [e, decide_false, cond_false]
      congr 1; omega
theorem m_idxs {zs : List Str} (k : z ∈ zs) : M1 mIdx (.lst (zs.map U.str)) [.str z] (.int ((zs.findIdx fun x => decide (x = z) : Nat) : Int)) := fun A h d ds b rx r0 => by
  obtain ⟨d2, rfl, r⟩ := r0.inv1
  obtain ⟨i, ds, rfl, q, a⟩ := rx.lst
  rw [strs_all a] at q
  rw [r.str]
  have fl : flatD (.str z) = true ∧ (zs.map D.str).all flatD = true := ⟨rfl, by rw [List.all_map, List.all_eq_true]; exact fun _ _ => rfl⟩
  exact ⟨_, h, by simp only [mIdx, isL, q]; rw [if_pos fl, idxD_str (ns := zs) k]; simp, Kq.refl, .int⟩
end
section
variable {C : Ctx} {pe : List Sl} {a b o : ME} {as : MA} {u x : U} {us : List U}
/-- {}, {..} -/
theorem f_dik : Xf C pe eDiK (.dic []) := fun B Sg e h s => .dic .nil
theorem f_dit : Xf C pe eDiT (.dct []) := fun B Sg e h s => .dct .nil
/-- o.get(a) -/
theorem x_get1 {kvs : List (Key × U)} {k : Key} (ho : Xt C pe o (.dic kvs)) (ha : Xu C pe as [x]) (n : keyU x = some k) : Xp C pe (eGet1 o as) ((valU kvs k).getD .non) := fun B Sg e h s => by
  obtain ⟨d, h1, e1, k1, r1⟩ := ho s
  obtain ⟨i, ds, rfl, q, a⟩ := r1.dic
  obtain ⟨es, h2, e2, k2, r2⟩ := ha (s.kq k1)
  obtain ⟨d2, rfl, r3⟩ := r2.inv1
  obtain ⟨i', ds', e', q', a'⟩ := (r1.kq k2).dic
  cases e'
  obtain ⟨v1, v2⟩ := AllK.val (k := k) a'
  cases e3 : valU kvs k with
  | none =>
    refine ⟨.non, h2, ?_, k1.trans k2, .non⟩
    unfold eGet1; rw [e1]; simp only [R.bind_ok, dicAt, q]; rw [e2]; simp only [R.bind_ok, q', r3.key n, v2 e3]; rfl
  | some u =>
    obtain ⟨d3, e4, r4⟩ := v1 u e3
    refine ⟨d3, h2, ?_, k1.trans k2, r4⟩
    unfold eGet1; rw [e1]; simp only [R.bind_ok, dicAt, q]; rw [e2]; simp only [R.bind_ok, q', r3.key n, e4]; rfl
end
end Z
/-! Y4: names forgotten, things lent, loops by their states. -/
namespace Z
open PySem L2

/-! ### names forgotten -/
inductive Fgt : List Sl → List Sl → Prop
  | nil : Fgt [] []
  | keep {o : Sl} {pe pe' : List Sl} : Fgt pe pe' → Fgt (o :: pe) (o :: pe')
  | give {u : U} {pe pe' : List Sl} : Fgt pe pe' → Fgt (.o u :: pe) (.s u :: pe')
  | drop {o : Sl} {pe pe' : List Sl} : Fgt pe pe' → Fgt (o :: pe) (.n :: pe')
theorem Fgt.refl : ∀ pe : List Sl, Fgt pe pe
  | [] => .nil
  | o :: pe => .keep (Fgt.refl pe)
theorem Fgt.at {pe pe' : List Sl} (f : Fgt pe pe') : pe.length = pe'.length ∧ (∀ (i : Nat) (u : U), pe'[i]? = some (.o u) → pe[i]? = some (.o u)) ∧ ∀ (i : Nat) (u : U), pe'[i]? = some (.s u) → pe[i]? = some (.s u) ∨ pe[i]? = some (.o u) := by
  induction f with
  | nil => exact ⟨rfl, fun i s q => by simp at q, fun i s q => by simp at q⟩
  | keep _ ih =>
    refine ⟨by simp [ih.1], fun i u q => ?_, fun i u q => ?_⟩
    · cases i with
      | zero => exact q
      | succ i => exact ih.2.1 i u (by simpa using q)
    · cases i with
      | zero => exact .inl q
      | succ i => exact ih.2.2 i u (by simpa using q)
  | give _ ih =>
    refine ⟨by simp [ih.1], fun i u q => ?_, fun i u q => ?_⟩
    · cases i with
      | zero => cases q
      | succ i => exact ih.2.1 i u (by simpa using q)
    · cases i with
      | zero => cases q; exact .inr rfl
      | succ i => exact ih.2.2 i u (by simpa using q)
  | drop _ ih =>
    refine ⟨by simp [ih.1], fun i u q => ?_, fun i u q => ?_⟩
    · cases i with
      | zero => cases q
      | succ i => exact ih.2.1 i u (by simpa using q)
    · cases i with
      | zero => cases q
      | succ i => exact ih.2.2 i u (by simpa using q)
section
variable {B : AS} {Sg : Nat → List Nat} {e : Ev} {h : HP} {pe pe' : List Sl}
theorem Fgt.ow (f : Fgt pe pe') {a : Nat} (q : Ow Sg pe' a) : Ow Sg pe a := by
  obtain ⟨i, u, q, m⟩ := q
  exact ⟨i, u, f.at.2.1 i _ q, m⟩
theorem Fgt.sta (f : Fgt pe pe') (s : Sta B Sg e h pe) : Sta B Sg e h pe' := by
  have t : Tr (Av B Sg pe) (Av B Sg pe') h h := Tr.less fun a => f.ow
  refine ⟨s.len.trans f.at.1, fun i u q => ?_, fun i u q => ?_, fun i j u v n q1 q2 => s.dis i j u v n (f.at.2.1 i _ q1) (f.at.2.1 j _ q2), s.bl, fun a q => s.nb a (f.ow q)⟩
  · rcases f.at.2.2 i u q with q1 | q1
    · obtain ⟨d, e1, r⟩ := s.sh i u q1; exact ⟨d, e1, r.tr t⟩
    · obtain ⟨p, e1, c⟩ := s.ow i u q1
      refine ⟨.ref p, e1, (c.tr (fun _ _ _ q => q) t).rd fun a ha w => ?_⟩
      rcases w with w | ⟨j, v, w, m⟩
      · exact s.nb a ⟨i, u, q1, ha⟩ w
      · by_cases ej : i = j
        · subst ej; rw [q] at w; cases w
        · exact s.dis i j u v ej q1 (f.at.2.1 j _ w) a ha m
  · obtain ⟨a, e1, c⟩ := s.ow i u (f.at.2.1 i _ q); exact ⟨a, e1, c.tr (fun _ _ _ q => q) t⟩
end
def PF.fg (pe' : List Sl) : PF → PF
  | .nx _ => .nx pe'
  | .rt u _ => .rt u pe'
  | .rf u _ => .rf u pe'
  | .bk _ => .bk pe'
  | .ct _ => .ct pe'
  | .ex c us _ => .ex c us pe'
section
variable {C : Ctx} {io : List Nat} {pe pe0 pe1 pe2 : List Sl} {s : MS} {f : PF}
theorem s_fgt (q : Xs C io pe s f) (g : Fgt f.pe pe1) : Xs C io pe s (f.fg pe1) := fun B Sg e h st => by
  obtain ⟨Sg', e', h', p, s1, t1, k1⟩ := q st
  have t : ∀ h : HP, Tr (Av B Sg' f.pe) (Av B Sg' pe1) h h := fun h => Tr.less fun a => g.ow
  cases f with
  | nx pe2 => exact ⟨Sg', e', h', p, g.sta s1, t1.trans (Tr.lessO fun a => g.ow), k1⟩
  | bk pe2 => exact ⟨Sg', e', h', p, g.sta s1, t1.trans (Tr.lessO fun a => g.ow), k1⟩
  | ct pe2 => exact ⟨Sg', e', h', p, g.sta s1, t1.trans (Tr.lessO fun a => g.ow), k1⟩
  | rt u pe2 =>
    obtain ⟨d, e1, r⟩ := p
    exact ⟨Sg', e', h', ⟨d, e1, r.tr (t h')⟩, g.sta s1, t1.trans (Tr.lessO fun a => g.ow), k1⟩
  | rf u pe2 =>
    obtain ⟨a, S, e1, c, n, m⟩ := p
    exact ⟨Sg', e', h', ⟨a, S, e1, c.tr (fun _ _ _ q => q) ⟨fun _ _ _ q => q, fun i q => .inl (q.imp (fun w => w.imp id g.ow) id), Nat.le_refl _⟩, n, fun s hs q => m s hs (q.imp id g.ow)⟩, g.sta s1, t1.trans (Tr.lessO fun a => g.ow), k1⟩
  | ex c us pe2 =>
    obtain ⟨d, e1, r⟩ := p
    exact ⟨Sg', e', h', ⟨d, e1, r.imp fun d u r => r.tr (t h')⟩, g.sta s1, t1.trans (Tr.lessO fun a => g.ow), k1⟩
theorem s_fg (q : Xs C io pe s (.nx pe1)) (g : Fgt pe1 pe2) : Xs C io pe s (.nx pe2) := s_fgt q g
/-- less is known ahead -/
theorem s_fg0 (g : Fgt pe pe1) (q : Xs C io pe1 s f) : Xs C io pe s f := fun B Sg e h st => (q (g.sta st)).later (Tr.lessO fun a => g.ow) fun _ _ => rfl
end

/-! ### things lent to a def that tells flat things -/
def Flat : U → Bool
  | .non => true
  | .bl _ => true
  | .int _ => true
  | .str _ => true
  | _ => false
theorem Rd.flat {A A' : AS} {h : HP} {d : D} {u : U} (r : Rd A h d u) (f : Flat u = true) : Rd A' h d u := by
  cases r <;> first | exact .non | exact .bl | exact .int | exact .str | cases f
/-- one thing: told, or owned (false) -/
def Xw1 (C : Ctx) (pe : List Sl) (a : ME) (u : U) (fl : Bool) : Prop := ∀ ⦃B Sg e h⦄, Sta B Sg e h pe → ∃ d h', a C e h = .ok d h' ∧ Kq h h' ∧ Rd B h' d u ∧ (fl = true → Rd (Av B Sg pe) h' d u)
def Xw (C : Ctx) (pe : List Sl) (as : MA) (us : List U) (fl : Bool) : Prop := ∀ ⦃B Sg e h⦄, Sta B Sg e h pe → ∃ ds h', as C e h = .ok ds h' ∧ Kq h h' ∧ AllR (Rd B h') ds us ∧ (fl = true → AllR (Rd (Av B Sg pe) h') ds us)
section
variable {C : Ctx} {io : List Nat} {pe pe0 pe1 pe2 : List Sl} {a b o : ME} {as : MA} {u v : U} {us vs : List U} {f1 f2 : Bool} {i : Nat}
theorem av_b {B : AS} {Sg : Nat → List Nat} {h : HP} : Tr (Av B Sg pe) B h h := ⟨fun _ _ _ q => q, fun a q => .inl (.inl q), Nat.le_refl _⟩
theorem w_p (ha : Xp C pe a u) : Xw1 C pe a u true := fun B Sg e h s => by
  obtain ⟨d, h1, e1, k1, r1⟩ := ha s
  exact ⟨d, h1, e1, k1, r1.tr av_b, fun _ => r1⟩
theorem w_o (l : pe[i]? = some (.o u)) : Xw1 C pe (eV i) u false := fun B Sg e h s => by
  obtain ⟨p, e1, c⟩ := s.ow i u l
  exact ⟨.ref p, h, by unfold eV; rw [e1], Kq.refl, (c.tr (fun _ _ _ q => q) av_b).rd fun t ht q => s.nb t ⟨i, u, l, ht⟩ q, fun q => by cases q⟩
theorem w_n : Xw C pe aN [] true := fun B Sg e h s => ⟨[], h, rfl, Kq.refl, .nil, fun _ => .nil⟩
theorem w_c (ha : Xw1 C pe a u f1) (hb : Xw C pe as us f2) : Xw C pe (aC a as) (u :: us) (f1 && f2) := fun B Sg e h s => by
  obtain ⟨d, h1, e1, k1, r1, g1⟩ := ha s
  obtain ⟨ds, h2, e2, k2, r2, g2⟩ := hb (s.kq k1)
  refine ⟨d :: ds, h2, by unfold aC; rw [e1]; simp only [R.bind_ok]; rw [e2]; rfl, k1.trans k2, .cons (r1.kq k2) r2, fun q => ?_⟩
  rw [Bool.and_eq_true] at q
  exact .cons ((g1 q.1).kq k2) (g2 q.2)
/-- what the def may tell -/
def Lent (fl : Bool) (u : U) : Prop := fl = true ∨ Flat u = true
theorem lent_of {fl : Bool} (h : fl = true) : Lent fl u := .inl h
theorem lent_i {fl : Bool} {k : Int} : Lent fl (.int k) := .inr rfl
theorem lent_b {fl : Bool} {k : Bool} : Lent fl (.bl k) := .inr rfl
theorem lent_s {fl : Bool} {k : Str} : Lent fl (.str k) := .inr rfl
theorem lent_n {fl : Bool} : Lent fl .non := .inr rfl
theorem w_call {f : Nat} (ha : Xw C pe as us f1) (hf : Fu (C.call f) us u) (hl : Lent f1 u) : Xp C pe (eCall f as []) u := fun B Sg e h s => by
  obtain ⟨ds, h1, e1, k1, r1, g1⟩ := ha s
  have s1 := s.kq k1
  unfold eCall; rw [e1]; simp only [R.bind_ok, List.append_nil]
  rcases hl with hl | hl
  · exact (hf (fun _ w => s1.lt w) (g1 hl)).kq k1
  · obtain ⟨d, h2, e2, k2, r2⟩ := hf s1.bl r1
    exact ⟨d, h2, e2, k1.trans k2, r2.flat hl⟩
theorem w_calld {f : Nat} {ns : List Int} (ha : Xw C pe as us f1) (hf : Fu (C.call f) (us ++ ns.map U.int) u) (hl : Lent f1 u) : Xp C pe (eCall f as (ns.map D.int)) u := fun B Sg e h s => by
  obtain ⟨ds, h1, e1, k1, r1, g1⟩ := ha s
  have s1 := s.kq k1
  unfold eCall; rw [e1]; simp only [R.bind_ok]
  rcases hl with hl | hl
  · exact (hf (fun _ w => s1.lt w) ((g1 hl).app (AllR.map fun x _ => .int))).kq k1
  · obtain ⟨d, h2, e2, k2, r2⟩ := hf s1.bl (r1.app (AllR.map fun x _ => .int))
    exact ⟨d, h2, e2, k1.trans k2, r2.flat hl⟩
end

/-! ### loops by their states -/
section
variable {C : Ctx} {io : List Nat} {pe pe0 pe1 pe2 : List Sl} {g : Tg} {b : MS} {t : MT} {us : List U} {mi : MI}
/-- a body gone through to the state S -/
def Bod (C : Ctx) (io : List Nat) (pe : List Sl) (b : MS) (S : List Sl) : Prop := ∃ pe2, (Xs C io pe b (.nx pe2) ∨ Xs C io pe b (.ct pe2)) ∧ Fgt pe2 S
theorem bod_nx (q : Xs C io pe b (.nx pe2)) (f : Fgt pe2 pe1) : Bod C io pe b pe1 := ⟨pe2, .inl q, f⟩
theorem s_fors {α : Type} {xs : List α} {f : α → U} (S : Nat → List Sl) (hi : Xi C pe mi (xs.map f)) (fu : xs.length < C.fuel) (h0 : Fgt pe (S 0)) (hs : ∀ j x, xs[j]? = some x → ∃ pe1, Tp io g (S j) (f x) pe1 ∧ Bod C io pe1 b (S (j + 1))) : Xs C io pe (sFo g mi b) (.nx (S xs.length)) := by
  have key : ∃ pe2, Xs C io pe (sFo g mi b) (.nx pe2) ∧ Fgt pe2 (S xs.length) := by
    have := s_for (C := C) (g := g) (b := b) (io := io) hi (by simpa using fu) (fun j pe => Fgt pe (S j)) h0 fun j u pe hu p => by
      rw [List.getElem?_map] at hu
      cases e : xs[j]? with
      | none => rw [e] at hu; cases hu
      | some x =>
        rw [e] at hu; cases hu
        obtain ⟨pe1, tp, pe2, xs, fg⟩ := hs j x e
        refine ⟨pe1, fun B Sg e h d st r => ?_, pe2, xs, fg⟩
        obtain ⟨e1, g1, s1, o1, k1⟩ := tp (p.sta st) (r.tr (Tr.less fun a => p.ow))
        exact ⟨e1, g1, s1, fun a w => p.ow (o1 a w), k1⟩
    simpa using this
  obtain ⟨pe2, x, fg⟩ := key
  exact s_fg x fg
/-- while: states by a thing that grows less -/
theorem s_whs {σ : Type} (S : σ → List Sl) (m : σ → Nat) (good : σ → Prop) (fin : σ → Prop) (hs : ∀ a, good a → (Xb C (S a) t false ∧ fin a) ∨ (Xb C (S a) t true ∧ ∃ a', good a' ∧ m a' < m a ∧ Bod C io (S a) b (S a'))) {a : σ} (ga : good a) (fu : m a < C.fuel) (h0 : Fgt pe (S a)) :
    ∃ a', fin a' ∧ good a' ∧ Xs C io pe (sWh t b) (.nx (S a')) := by
  obtain ⟨f, ⟨a', fa, g', e⟩, x⟩ := s_wh (C := C) (t := t) (b := b) (io := io) (fun n pe => ∃ a, good a ∧ m a = n ∧ Fgt pe (S a)) (fun f => ∃ a', fin a' ∧ good a' ∧ ∃ pe', f = .nx pe' ∧ Fgt pe' (S a')) (fun n pe ⟨a, ga, en, fg⟩ => by
    have lift : ∀ {bb}, Xb C (S a) t bb → Xb C pe t bb := fun {bb} xb B Sg e h st => xb (fg.sta st)
    rcases hs a ga with ⟨xb, f⟩ | ⟨xb, a', g', lt, pe2, xs, fg2⟩
    · exact ⟨false, lift xb, a, f, ga, pe, rfl, fg⟩
    · refine ⟨true, lift xb, ?_⟩
      rcases xs with xs | xs
      · exact ⟨_, s_fg0 fg xs, m a', by omega, a', g', rfl, fg2⟩
      · exact ⟨_, s_fg0 fg xs, m a', by omega, a', g', rfl, fg2⟩) ⟨a, ga, rfl, h0⟩ fu
  obtain ⟨pe', rfl, fg⟩ := e
  exact ⟨a', fa, g', s_fg x fg⟩
end
theorem frzN {io : List Nat} {i : Nat} {is : List Nat} {pe pe1 : List Sl} (k : Frz is io pe pe1) : Frz (i :: is) io pe pe1 := ⟨k.sta, k.ow⟩
theorem sz_le {n : Nat} (h : n ≤ 1000000) : n ≤ sizeLine := Nat.le_trans h (by decide)
theorem sz_lt {n : Nat} (h : n ≤ 1000000) : n < sizeLine := Nat.lt_of_le_of_lt h (by decide)
end Z
/-! Y5: objects of one's own; defs that change what they are handed. -/
namespace Z
open PySem L2

/-- an expression that changes what is owned -/
def Xz (C : Ctx) (pe : List Sl) (a : ME) (u : U) (pe1 : List Sl) : Prop := ∀ ⦃B Sg e h⦄, Sta B Sg e h pe → ∃ d h' Sg', a C e h = .ok d h' ∧ Sta B Sg' e h' pe1 ∧ Rd (Av B Sg' pe1) h' d u ∧ Tr (Ow Sg pe) (Ow Sg' pe1) h h'
theorem Xp.z {C : Ctx} {pe : List Sl} {a : ME} {u : U} (q : Xp C pe a u) : Xz C pe a u pe := fun B Sg e h s => by
  obtain ⟨d, h1, e1, k1, r1⟩ := q s
  exact ⟨d, h1, Sg, e1, s.kq k1, r1, k1.tro⟩
/-! ### fields -/
inductive PutF (f : Str) (v : U) : List (Str × U) → List (Str × U) → Prop
  | nil : PutF f v [] [(f, v)]
  | hit {x : U} {fs : List (Str × U)} : PutF f v ((f, x) :: fs) ((f, v) :: fs)
  | miss {g : Str} {x : U} {fs fs2 : List (Str × U)} : g ≠ f → PutF f v fs fs2 → PutF f v ((g, x) :: fs) ((g, x) :: fs2)
/-- the place of a field: there, or behind all -/
inductive PosF (f : Str) : List Str → Nat → Bool → Prop
  | nil : PosF f [] 0 false
  | hit {fs : List Str} : PosF f (f :: fs) 0 true
  | miss {g : Str} {fs : List Str} {n : Nat} {b : Bool} : g ≠ f → PosF f fs n b → PosF f (g :: fs) (n + 1) b
theorem PutF.pos {f : Str} {v : U} {fs fs2 : List (Str × U)} (p : PutF f v fs fs2) : ∃ n b, PosF f (fs.map (·.1)) n b ∧ fs2 = if b = true then fs.set n (f, v) else fs ++ [(f, v)] := by
  induction p with
  | nil => exact ⟨0, false, .nil, rfl⟩
  | hit => exact ⟨0, true, .hit, rfl⟩
  | miss h _ ih =>
    obtain ⟨n, b, q, e⟩ := ih
    refine ⟨n + 1, b, .miss h q, ?_⟩
    rw [e]
    cases b <;> simp
theorem PosF.put {f : Str} {d : D} : ∀ {ds : List (Str × D)} {n : Nat} {b : Bool}, PosF f (ds.map (·.1)) n b → putD f d ds = if b = true then ds.set n (f, d) else ds ++ [(f, d)]
  | [], n, b, p => by cases p; rfl
  | (g, x) :: ds, n, b, p => by
    rw [List.map_cons] at p
    cases p with
    | hit => simp [putD]
    | miss h q =>
      have := PosF.put (d := d) q
      simp only [putD, if_neg h, this]
      cases b <;> simp
theorem PosF.lt {f : Str} : ∀ {fs : List Str} {n : Nat}, PosF f fs n true → fs[n]? = some f
  | _, _, .hit => rfl
  | _, _, .miss _ q => by simpa using q.lt
theorem PosF.look {α : Type} {f : Str} : ∀ {ds : List (Str × α)} {n : Nat} {b : Bool}, PosF f (ds.map (·.1)) n b → ds.lookup f = if b = true then (ds[n]?).map (·.2) else none
  | [], n, b, p => by cases p; rfl
  | (g, x) :: ds, n, b, p => by
    rw [List.map_cons] at p
    cases p with
    | hit => simp [List.lookup_cons]
    | miss h q =>
      have := PosF.look q
      rw [List.lookup_cons, show (f == g) = false by simp [Ne.symm h]]
      simpa using this
theorem PosF.ex (f : Str) : ∀ fs : List Str, ∃ n b, PosF f fs n b
  | [] => ⟨0, false, .nil⟩
  | g :: fs => by
    by_cases e : g = f
    · subst e; exact ⟨0, true, .hit⟩
    · obtain ⟨n, b, q⟩ := PosF.ex f fs; exact ⟨n + 1, b, .miss e q⟩
section
variable {A A' : AS} {h h' : HP} {d : D}
theorem Cn0.cn {a : Nat} {u : U} (c : Cn0 A h a u) : Cn A h a [a] u := by
  cases u with
  | obj => exact False.elim c
  | _ => exact ⟨rfl, c⟩
/-- a field's value -/
theorem CnO.fld {a c : Nat} {S : List Nat} {us : List (Str × U)} {ds : List (Str × D)} {Ss : List (List Nat)} {f : Str} {u : U} (q : CnO A h a S c us ds Ss) (l : us.lookup f = some u) :
    ∃ n d s, PosF f (us.map (·.1)) n true ∧ us[n]? = some (f, u) ∧ ds[n]? = some (f, d) ∧ Ss[n]? = some s ∧ ds.lookup f = some d ∧ if ownF f = true then ∃ b, d = .ref b ∧ s = [b] ∧ Cn0 A h b u else s = [] ∧ Rd A h d u := by
  obtain ⟨n, b, p⟩ := PosF.ex f (us.map (·.1))
  have l2 := p.look
  rw [l] at l2
  cases b with
  | false => cases l2
  | true =>
    simp only [if_true] at l2
    have hn := p.lt
    rw [List.getElem?_map] at hn
    cases e1 : us[n]? with
    | none => rw [e1] at hn; cases hn
    | some x =>
      rw [e1] at hn l2
      cases l2
      cases hn
      have p2 := p
      rw [← q.keys] at p2
      have hd := p2.lt
      rw [List.getElem?_map] at hd
      cases e2 : ds[n]? with
      | none => rw [e2] at hd; cases hd
      | some y =>
        rw [e2] at hd
        have e3 : y.1 = x.1 := Option.some.inj hd
        have hs : n < Ss.length := by rw [q.len]; exact (List.getElem?_eq_some_iff.mp e1).1
        have l3 := p2.look
        rw [e2] at l3
        refine ⟨n, y.2, Ss[n], p, e1, ?_, List.getElem?_eq_getElem hs, by simpa using l3, q.each n y x _ e2 e1 (List.getElem?_eq_getElem hs)⟩
        rw [e2]
        show some y = some (x.1, y.2)
        rw [← e3]
end
section
variable {C : Ctx} {io : List Nat} {pe pe0 pe1 pe2 : List Sl} {a b c o : ME} {as : MA} {u v x y z : U} {us vs : List U} {i j n : Nat} {cs : List Nat} {f : Str} {fs fs2 : List (Str × U)}
theorem t_fld (ho : Xt C pe o (.obj n fs)) (hc : n ∈ cs) (hf : fs.lookup f = some u) : Xt C pe (eFld cs o f) u := fun B Sg e h s => by
  obtain ⟨d, h1, e1, k1, r1⟩ := ho s
  rcases r1 with r1 | ⟨p, S, rfl, ds, Ss, q⟩
  · obtain ⟨i, gs, rfl, _, q, r⟩ := r1.obj_inv
    obtain ⟨dv, q2, r2⟩ := look_at r hf
    exact ⟨dv, h1, by unfold eFld; rw [e1]; simp only [R.bind_ok, q, if_pos hc, q2], k1, .inl r2⟩
  · obtain ⟨m, d, s, _, _, _, _, l, w⟩ := q.fld hf
    refine ⟨d, h1, by unfold eFld; rw [e1]; simp only [R.bind_ok, q.at_, if_pos hc, l], k1, ?_⟩
    split at w
    · obtain ⟨b, rfl, _, c0⟩ := w; exact .inr ⟨b, [b], rfl, c0.cn⟩
    · exact .inl w.2
theorem x_fldo (ho : Xt C pe o (.obj n fs)) (hc : n ∈ cs) (hf : fs.lookup f = some u) (no : ownF f = false) : Xp C pe (eFld cs o f) u := fun B Sg e h s => by
  obtain ⟨d, h1, e1, k1, r1⟩ := ho s
  rcases r1 with r1 | ⟨p, S, rfl, ds, Ss, q⟩
  · obtain ⟨i, gs, rfl, _, q, r⟩ := r1.obj_inv
    obtain ⟨dv, q2, r2⟩ := look_at r hf
    exact ⟨dv, h1, by unfold eFld; rw [e1]; simp only [R.bind_ok, q, if_pos hc, q2], k1, r2⟩
  · obtain ⟨m, d, s, _, _, _, _, l, w⟩ := q.fld hf
    rw [no] at w
    exact ⟨d, h1, by unfold eFld; rw [e1]; simp only [R.bind_ok, q.at_, if_pos hc, l], k1, w.2⟩
/-- an object of one's own -/
theorem Sta.obj {B : AS} {Sg : Nat → List Nat} {e : Ev} {h : HP} (st : Sta B Sg e h pe) (l : pe[i]? = some (.o (.obj n fs))) : ∃ p ds Ss, e[i]? = some (some (.ref p)) ∧ CnO (Av B Sg pe) h p (Sg i) n fs ds Ss := by
  obtain ⟨p, e1, ds, Ss, q⟩ := st.ow i _ l
  exact ⟨p, ds, Ss, e1, q⟩
/-- what an object is made anew of -/
theorem Sta.putO {B : AS} {Sg : Nat → List Nat} {e : Ev} {h h' : HP} {p : Nat} {S : List Nat} {ds : List (Str × D)} {Ss : List (List Nat)} (st : Sta B Sg e h pe) (l : pe[i]? = some (.o x)) (e1 : e[i]? = some (some (.ref p))) (q1 : SetO i pe (.obj n fs2) pe1) (old : ∀ a o, a ∉ Sg i → h[a]? = some o → h'[a]? = some o) (ln : h.length ≤ h'.length) (new : ∀ a ∈ S, a ∈ Sg i ∨ h.length ≤ a) (c : CnO (fun a => Av B Sg pe a ∨ a ∈ S) h' p S n fs2 ds Ss) :
    ∃ Sg', Sta B Sg' e h' pe1 ∧ Tr (Ow Sg pe) (Ow Sg' pe1) h h' ∧ ∀ a, Ow Sg' pe1 a → a ∈ S ∨ Ow Sg pe a := by
  have := st.own (S := S) (x := some (.ref p)) rfl q1 (h' := h') (fun a o n q => old a o (n _ l) q) ln (fun a m => (new a m).imp (fun w => ⟨_, l, w⟩) id) ⟨ds, Ss, c⟩
  rw [set_id e1] at this
  refine ⟨_, this.1, this.2, fun a ⟨j, w, q, m⟩ => ?_⟩
  by_cases ej : j = i
  · subst ej; simp only [if_true] at m; exact .inl m
  · rw [q1.eq, List.getElem?_set_ne (fun e => ej e.symm)] at q
    simp only [if_neg ej] at m
    exact .inr ⟨j, w, q, m⟩
/-- o.f = a, a field that is not the object's alone -/
theorem s_flz (ha : Xz C pe a u pe0) (l : pe0[i]? = some (.o (.obj n fs))) (hc : n ∈ cs) (no : ownF f = false) (sz : fs.length < 1000) (pf : PutF f u fs fs2) (q1 : SetO i pe0 (.obj n fs2) pe1) : Xs C io pe (sFl cs (eV i) f a) (.nx pe1) := fun B Sg e h st => by
  obtain ⟨d, h1, Sg0, ea, st1, rd, t1⟩ := ha st
  obtain ⟨p, ds, Ss, e1, q⟩ := st1.obj l
  obtain ⟨m, b, pos, e2⟩ := pf.pos
  have pos2 := pos
  rw [← q.keys] at pos2
  have pl := (List.getElem?_eq_some_iff.mp q.at_).1
  have pS : p ∈ Sg0 i := by rw [q.sum]; simp
  have pin : Av B Sg0 pe0 p := .inr ⟨i, _, l, pS⟩
  have ks : ds.length = fs.length := by have := congrArg List.length q.keys; simpa using this
  have tr0 : Tr (Av B Sg0 pe0) (fun a => Av B Sg0 pe0 a ∨ a ∈ Sg0 i) h1 (h1.set p (.ins n (putD f d ds))) := ⟨fun a o m q2 => by
    have : p ≠ a := fun e => m (e ▸ pin)
    rw [List.getElem?_set_ne this]; exact q2, fun a q2 => q2.elim .inl fun w => .inl (.inr ⟨i, _, l, w⟩), by simp⟩
  have fldOk : ∀ (j : Nat) (r : Str × D) (w : Str × U) (s : List Nat), ds[j]? = some r → fs[j]? = some w → Ss[j]? = some s → if ownF w.1 = true then ∃ b, r.2 = .ref b ∧ s = [b] ∧ Cn0 (fun a => Av B Sg0 pe0 a ∨ a ∈ Sg0 i) (h1.set p (.ins n (putD f d ds))) b w.2 else s = [] ∧ Rd (fun a => Av B Sg0 pe0 a ∨ a ∈ Sg0 i) (h1.set p (.ins n (putD f d ds))) r.2 w.2 := fun j r w s q2 q3 q4 => by
    have := q.each j r w s q2 q3 q4
    split at this
    · rename_i hw
      rw [if_pos hw]
      obtain ⟨b, e3, e4, c0⟩ := this
      refine ⟨b, e3, e4, c0.tr (fun o q5 => ?_) tr0⟩
      have : p ≠ b := fun e => by
        have nd := q.nd
        rw [q.sum, List.nodup_cons] at nd
        exact nd.1 (e ▸ List.mem_flatten.mpr ⟨s, List.mem_of_getElem? q4, by rw [e4]; simp⟩)
      rw [List.getElem?_set_ne this]; exact q5
    · rename_i hw
      rw [if_neg hw]
      exact ⟨this.1, this.2.tr tr0⟩
  have hnew := h1.length
  obtain ⟨Sg', s2, t2, _⟩ := st1.putO (h' := h1.set p (.ins n (putD f d ds))) (S := Sg0 i) (ds := putD f d ds) (Ss := if b = true then Ss else Ss ++ [[]]) l e1 q1 (fun a o na q2 => by
    have : p ≠ a := fun e => na (e ▸ pS)
    rw [List.getElem?_set_ne this]; exact q2) (by simp) (fun a m => .inl m) (by
    refine ⟨?_, q.nd, List.getElem?_set_self pl, ?_, ?_, fun j r w s q2 q3 q4 => ?_⟩
    · rw [q.sum]; cases b <;> simp
    · rw [pos2.put, e2]
      cases b with
      | true => simp only [if_true, List.map_set]; rw [q.keys]
      | false => simp [q.keys]
    · rw [e2]; cases b <;> simp [q.len]
    · rw [pos2.put] at q2
      rw [e2] at q3
      cases b with
      | true =>
        simp only [if_true] at q2 q3 q4
        by_cases ej : m = j
        · subst ej
          have m1 : m < fs.length := by have := (List.getElem?_eq_some_iff.mp q3).1; simpa using this
          rw [List.getElem?_set_self (by omega)] at q2
          rw [List.getElem?_set_self m1] at q3
          cases q2; cases q3
          simp only [no, Bool.false_eq_true, if_false]
          have hx := pos.lt
          rw [List.getElem?_map, List.getElem?_eq_getElem m1] at hx
          have := q.each m _ _ s (List.getElem?_eq_getElem (by omega)) (List.getElem?_eq_getElem m1) q4
          rw [show (fs[m]).1 = f from Option.some.inj hx, no] at this
          exact ⟨this.1, rd.tr tr0⟩
        · rw [List.getElem?_set_ne ej] at q2 q3
          exact fldOk j r w s q2 q3 q4
      | false =>
        simp only [Bool.false_eq_true, if_false] at q2 q3 q4
        by_cases ej : j < fs.length
        · rw [List.getElem?_append_left (by omega)] at q2 q3
          rw [List.getElem?_append_left (by rw [q.len]; omega)] at q4
          exact fldOk j r w s q2 q3 q4
        · have e0 : j - fs.length = 0 := by
            have := (List.getElem?_eq_some_iff.mp q3).1
            simp at this; omega
          rw [List.getElem?_append_right (by omega)] at q2 q3
          rw [List.getElem?_append_right (by rw [q.len]; omega)] at q4
          rw [ks, e0] at q2
          rw [e0] at q3
          rw [q.len, e0] at q4
          cases q2; cases q3; cases q4
          rw [if_neg (by rw [no]; simp)]
          exact ⟨rfl, rd.tr tr0⟩)
  refine ⟨Sg', e, _, ?_, s2, t1.trans t2, fun _ _ => rfl⟩
  show _ = _
  have ev : (eV i) C e h1 = .ok (.ref p) h1 := by unfold eV; rw [e1]
  unfold sFl
  rw [ea]; simp only [R.bind_ok]; rw [ev]; simp only [R.bind_ok, q.at_]; rw [if_pos ⟨hc, by omega⟩]
theorem s_fl (l : pe[i]? = some (.o (.obj n fs))) (ha : Xp C pe a u) (hc : n ∈ cs) (no : ownF f = false) (sz : fs.length < 1000) (pf : PutF f u fs fs2) (q1 : SetO i pe (.obj n fs2) pe1) : Xs C io pe (sFl cs (eV i) f a) (.nx pe1) := s_flz ha.z l hc no sz pf q1
/-- o.f = a, a field that the object alone has: a new thing -/
theorem s_flo (l : pe[i]? = some (.o (.obj n fs))) (ha : Xf C pe a u) (hu : ∀ k g, u ≠ .obj k g) (hc : n ∈ cs) (no : ownF f = true) (sz : fs.length < 1000) (pf : PutF f u fs fs2) (q1 : SetO i pe (.obj n fs2) pe1) : Xs C io pe (sFl cs (eV i) f a) (.nx pe1) := fun B Sg e h st => by
  obtain ⟨p2, h1, S2, ea, k1, n2, c2⟩ := ha st
  obtain ⟨p, ds, Ss, e1, q⟩ := st.obj l
  have at1 := k1 _ _ q.at_
  obtain ⟨m, b, pos, e2⟩ := pf.pos
  have pos2 := pos
  rw [← q.keys] at pos2
  have hS2 : S2 = [p2] ∧ Cn0 (fun x => Av B Sg pe x ∨ x ∈ S2) h1 p2 u := by
    cases u with
    | obj k g => exact absurd rfl (hu k g)
    | _ => exact c2
  obtain ⟨hS2, c2⟩ := hS2
  subst hS2
  have p2n : h.length ≤ p2 := n2 p2 (by simp)
  have pl := (List.getElem?_eq_some_iff.mp at1).1
  have pS : p ∈ Sg i := by rw [q.sum]; simp
  have pin : Av B Sg pe p := .inr ⟨i, _, l, pS⟩
  have ks : ds.length = fs.length := by have := congrArg List.length q.keys; simpa using this
  have pp2 : p ≠ p2 := fun e => by have := q.lt p pS; omega
  have tr0 : Tr (Av B Sg pe) (fun a => Av B Sg pe a ∨ a ∈ [p2]) h (h1.set p (.ins n (putD f (.ref p2) ds))) := ⟨fun a o m q2 => by
    have : p ≠ a := fun e => m (e ▸ pin)
    rw [List.getElem?_set_ne this]; exact k1 a o q2, fun a q2 => q2.elim .inl fun w => .inr (by rw [List.mem_singleton] at w; omega), by have := k1.len; simpa using this⟩
  -- the list of the places
  have newS : ∃ Ss' : List (List Nat), (∀ a ∈ p :: Ss'.flatten, a ∈ Sg i ∨ h.length ≤ a) ∧ (p :: Ss'.flatten).Nodup ∧ Ss'.length = fs2.length ∧ (∀ (j : Nat) (s : List Nat), Ss'[j]? = some s → (j = (if b = true then m else fs.length) ∧ s = [p2]) ∨ (j ≠ (if b = true then m else fs.length) ∧ Ss[j]? = some s)) := by
    have flS : ∀ a ∈ Ss.flatten, a ∈ Sg i ∧ a ≠ p2 := fun a ha => by
      have : a ∈ Sg i := by rw [q.sum]; exact List.mem_cons_of_mem _ ha
      exact ⟨this, fun e => by have := q.lt a this; omega⟩
    have nd := q.nd
    rw [q.sum, List.nodup_cons] at nd
    cases b with
    | false =>
      refine ⟨Ss ++ [[p2]], fun a ha => ?_, ?_, by rw [e2]; simp [q.len], fun j s hs => ?_⟩
      · simp only [List.flatten_append, List.mem_cons, List.mem_append, List.flatten_cons, List.flatten_nil, List.not_mem_nil, or_false] at ha
        rcases ha with ha | ha | ha
        · exact .inl (ha ▸ pS)
        · exact .inl (flS a ha).1
        · right; omega
      · rw [List.flatten_append, List.nodup_cons, List.mem_append, List.nodup_append]
        refine ⟨fun w => w.elim nd.1 fun w => by simp at w; exact pp2 w, nd.2, by simp, fun x hx y hy e => ?_⟩
        simp at hy
        exact (flS x hx).2 (e.trans hy)
      · simp only [Bool.false_eq_true, if_false]
        by_cases ej : j < Ss.length
        · rw [List.getElem?_append_left ej] at hs
          exact .inr ⟨by rw [← q.len]; omega, hs⟩
        · have e0 : j - Ss.length = 0 := by
            have := (List.getElem?_eq_some_iff.mp hs).1
            simp at this; omega
          rw [List.getElem?_append_right (by omega), e0] at hs
          cases hs
          exact .inl ⟨by rw [← q.len]; omega, rfl⟩
    | true =>
      have m1 : m < fs.length := by have := (List.getElem?_eq_some_iff.mp pos.lt).1; simpa using this
      have m2 : m < Ss.length := by rw [q.len]; exact m1
      have split : Ss = Ss.take m ++ Ss[m] :: Ss.drop (m + 1) := by rw [← List.drop_eq_getElem_cons m2, List.take_append_drop]
      have sset : Ss.set m [p2] = Ss.take m ++ [p2] :: Ss.drop (m + 1) := by rw [List.set_eq_take_append_cons_drop, if_pos m2]
      have sub1 : ∀ a, a ∈ (Ss.take m).flatten → a ∈ Ss.flatten := fun a ha => by rw [split, List.flatten_append]; exact List.mem_append_left _ ha
      have sub2 : ∀ a, a ∈ (Ss.drop (m + 1)).flatten → a ∈ Ss.flatten := fun a ha => by rw [split, List.flatten_append, List.flatten_cons]; exact List.mem_append_right _ (List.mem_append_right _ ha)
      have nd3 : ((Ss.take m).flatten ++ (Ss[m] ++ (Ss.drop (m + 1)).flatten)).Nodup := by have := nd.2; rw [split, List.flatten_append, List.flatten_cons] at this; exact this
      rw [List.nodup_append] at nd3
      have nd4 := nd3.2.1
      rw [List.nodup_append] at nd4
      refine ⟨Ss.set m [p2], fun a ha => ?_, ?_, by rw [e2]; simp [q.len], fun j s hs => ?_⟩
      · rw [sset, List.flatten_append, List.flatten_cons] at ha
        simp only [List.mem_cons, List.mem_append, List.not_mem_nil, or_false] at ha
        rcases ha with ha | ha | ha | ha
        · exact .inl (ha ▸ pS)
        · exact .inl (flS a (sub1 a ha)).1
        · right; omega
        · exact .inl (flS a (sub2 a ha)).1
      · rw [sset, List.flatten_append, List.flatten_cons, List.nodup_cons, List.nodup_append, List.nodup_append]
        refine ⟨fun w => ?_, nd3.1, ⟨by simp, nd4.2.1, fun x hx y hy e => ?_⟩, fun x hx y hy e => ?_⟩
        · simp only [List.mem_append, List.mem_singleton] at w
          rcases w with w | w | w
          · exact nd.1 (sub1 _ w)
          · exact pp2 w
          · exact nd.1 (sub2 _ w)
        · simp at hx
          exact (flS y (sub2 _ hy)).2 (e.symm.trans hx)
        · rw [List.mem_append, List.mem_singleton] at hy
          rcases hy with hy | hy
          · exact (flS x (sub1 _ hx)).2 (e.trans hy)
          · exact nd3.2.2 x hx y (List.mem_append_right _ hy) e
      · simp only [if_true]
        by_cases ej : m = j
        · subst ej
          rw [List.getElem?_set_self m2] at hs
          cases hs; exact .inl ⟨rfl, rfl⟩
        · rw [List.getElem?_set_ne ej] at hs
          exact .inr ⟨fun e => ej e.symm, hs⟩
  obtain ⟨Ss', nw, nd', ln', ch⟩ := newS
  have tr1 : Tr (Av B Sg pe) (fun a => Av B Sg pe a ∨ a ∈ p :: Ss'.flatten) h (h1.set p (.ins n (putD f (.ref p2) ds))) := ⟨tr0.keep, fun a q2 => q2.elim .inl fun w => (nw a w).imp (fun z => .inr ⟨i, _, l, z⟩) id, tr0.len⟩
  have tr2 : Tr (fun x => Av B Sg pe x ∨ x ∈ [p2]) (fun a => Av B Sg pe a ∨ a ∈ p :: Ss'.flatten) h1 (h1.set p (.ins n (putD f (.ref p2) ds))) := ⟨fun a o m q2 => by
    have : p ≠ a := fun e => m (.inl (e ▸ pin))
    rw [List.getElem?_set_ne this]; exact q2, fun a q2 => by
      rcases q2 with q2 | q2
      · exact .inl (.inl q2)
      · rcases List.mem_cons.mp q2 with e | e
        · exact .inl (.inl (e ▸ pin))
        · obtain ⟨s, hs, ha⟩ := List.mem_flatten.mp e
          obtain ⟨j, hj⟩ := List.mem_iff_getElem?.mp hs
          rcases ch j s hj with ⟨_, e3⟩ | ⟨_, e3⟩
          · rw [e3] at ha; exact .inl (.inr ha)
          · exact .inl (.inl (.inr ⟨i, _, l, by rw [q.sum]; exact List.mem_cons_of_mem _ (List.mem_flatten.mpr ⟨s, List.mem_of_getElem? e3, ha⟩)⟩)), by simp⟩
  obtain ⟨Sg', s2, t2, _⟩ := st.putO (h' := h1.set p (.ins n (putD f (.ref p2) ds))) (S := p :: Ss'.flatten) (ds := putD f (.ref p2) ds) (Ss := Ss') l e1 q1 (fun a o na q2 => by
    have : p ≠ a := fun e => na (e ▸ pS)
    rw [List.getElem?_set_ne this]; exact k1 a o q2) tr0.len nw (by
    refine ⟨rfl, nd', List.getElem?_set_self pl, ?_, ln', fun j r w s q2 q3 q4 => ?_⟩
    · rw [pos2.put, e2]
      cases b with
      | true => simp only [if_true, List.map_set]; rw [q.keys]
      | false => simp [q.keys]
    · rw [pos2.put] at q2
      rw [e2] at q3
      rcases ch j s q4 with ⟨ej, e3⟩ | ⟨ej, e3⟩
      · have e4 : r = (f, .ref p2) ∧ w = (f, u) := by
          cases b with
          | true =>
            simp only [if_true] at q2 q3 ej
            subst ej
            have m1 : j < fs.length := by have := (List.getElem?_eq_some_iff.mp q3).1; simpa using this
            rw [List.getElem?_set_self (by omega)] at q2
            rw [List.getElem?_set_self m1] at q3
            cases q2; cases q3; exact ⟨rfl, rfl⟩
          | false =>
            simp only [Bool.false_eq_true, if_false] at q2 q3 ej
            subst ej
            rw [List.getElem?_append_right (by omega), ks, Nat.sub_self] at q2
            rw [List.getElem?_append_right (Nat.le_refl _), Nat.sub_self] at q3
            cases q2; cases q3; exact ⟨rfl, rfl⟩
        obtain ⟨rfl, rfl⟩ := e4
        simp only [no, if_true]
        exact ⟨p2, rfl, e3, c2.tr (fun o q5 => by rw [List.getElem?_set_ne pp2]; exact q5) tr2⟩
      · have q23 : ds[j]? = some r ∧ fs[j]? = some w := by
          cases b with
          | true =>
            simp only [if_true] at q2 q3 ej
            rw [List.getElem?_set_ne (fun e => ej e.symm)] at q2 q3
            exact ⟨q2, q3⟩
          | false =>
            simp only [Bool.false_eq_true, if_false] at q2 q3 ej
            have : j < fs.length := by
              have := (List.getElem?_eq_some_iff.mp e3).1
              rw [q.len] at this; exact this
            rw [List.getElem?_append_left (by omega)] at q2 q3
            exact ⟨q2, q3⟩
        have := q.each j r w s q23.1 q23.2 e3
        split at this
        · rename_i hw
          rw [if_pos hw]
          obtain ⟨bb, e5, e6, c0⟩ := this
          refine ⟨bb, e5, e6, c0.tr (fun o q5 => ?_) tr1⟩
          have : p ≠ bb := fun e => by
            have nd := q.nd
            rw [q.sum, List.nodup_cons] at nd
            exact nd.1 (e ▸ List.mem_flatten.mpr ⟨s, List.mem_of_getElem? e3, by rw [e6]; simp⟩)
          rw [List.getElem?_set_ne this]; exact k1 _ _ q5
        · rename_i hw
          rw [if_neg hw]
          exact ⟨this.1, this.2.tr tr1⟩)
  refine ⟨Sg', e, _, ?_, s2, t2, fun _ _ => rfl⟩
  show _ = _
  have ev : (eV i) C e h1 = .ok (.ref p) h1 := by unfold eV; rw [e1]
  unfold sFl
  rw [ea]; simp only [R.bind_ok]; rw [ev]; simp only [R.bind_ok, at1]; rw [if_pos ⟨hc, by omega⟩]
/-- a field's thing changed -/
theorem Sta.fld {B : AS} {Sg : Nat → List Nat} {e : Ev} {h : HP} (st : Sta B Sg e h pe) (l : pe[i]? = some (.o (.obj n fs))) (hf : fs.lookup f = some x) (no : ownF f = true) :
    ∃ p ds b, e[i]? = some (some (.ref p)) ∧ h[p]? = some (.ins n ds) ∧ ds.lookup f = some (.ref b) ∧ Av B Sg pe b ∧ b ≠ p ∧ Cn0 (Av B Sg pe) h b x ∧
      b < h.length ∧ (∃ v, pe[i]? = some (.o v) ∧ b ∈ Sg i) ∧ ∀ {h' : HP} {u : U} {fs2 : List (Str × U)} {pe1 : List Sl}, (∀ a o, a ≠ b → h[a]? = some o → h'[a]? = some o) → h.length ≤ h'.length → Cn0 (Av B Sg pe) h' b u → PutF f u fs fs2 → SetO i pe (.obj n fs2) pe1 → ∃ Sg', Sta B Sg' e h' pe1 ∧ Tr (Ow Sg pe) (Ow Sg' pe1) h h' ∧ ∀ a, Ow Sg' pe1 a → Ow Sg pe a := by
  obtain ⟨p, ds, Ss, e1, q⟩ := st.obj l
  obtain ⟨m, d, s, pos, u1, d1, s1, lk, w⟩ := q.fld hf
  rw [if_pos no] at w
  obtain ⟨b, rfl, rfl, c0⟩ := w
  have bS : b ∈ Ss.flatten := List.mem_flatten.mpr ⟨_, List.mem_of_getElem? s1, by simp⟩
  have bS2 : b ∈ Sg i := by rw [q.sum]; exact List.mem_cons_of_mem _ bS
  have bp : b ≠ p := fun e => by
    have nd := q.nd
    rw [q.sum, List.nodup_cons] at nd
    exact nd.1 (e ▸ bS)
  have bin : Av B Sg pe b := .inr ⟨i, _, l, bS2⟩
  refine ⟨p, ds, b, e1, q.at_, lk, bin, bp, c0, c0.lt, ⟨_, l, bS2⟩, fun {h' u fs2 pe1} hk hl c pf q1 => ?_⟩
  obtain ⟨m2, bb, pos2, e2⟩ := pf.pos
  have same : m2 = m ∧ bb = true := by
    have h1 := pos2.look
    rw [hf] at h1
    cases bb with
    | false => cases h1
    | true =>
      refine ⟨?_, rfl⟩
      have uniq : ∀ {gs : List Str} {n1 n2 : Nat}, PosF f gs n1 true → PosF f gs n2 true → n1 = n2 := fun {gs} => by
        induction gs with
        | nil => intro n1 n2 a; cases a
        | cons g gs ih =>
          intro n1 n2 a b
          cases a with
          | hit => cases b with
            | hit => rfl
            | miss h _ => exact absurd rfl h
          | miss h a => cases b with
            | hit => exact absurd rfl h
            | miss _ b => rw [ih a b]
      exact uniq pos2 pos
  obtain ⟨rfl, rfl⟩ := same
  simp only [if_true] at e2
  have bl := c0.lt
  have tr0 : Tr (Av B Sg pe) (fun a => Av B Sg pe a ∨ a ∈ Sg i) h h' := ⟨fun a o m q2 => hk a o (fun e => m (e ▸ bin)) q2, fun a q2 => q2.elim .inl fun w => .inl (.inr ⟨i, _, l, w⟩), hl⟩
  suffices ∃ Sg', Sta B Sg' e h' pe1 ∧ Tr (Ow Sg pe) (Ow Sg' pe1) h h' ∧ ∀ a, Ow Sg' pe1 a → a ∈ Sg i ∨ Ow Sg pe a by
    obtain ⟨Sg', x1, x2, x3⟩ := this
    exact ⟨Sg', x1, x2, fun a w => (x3 a w).elim (fun m => ⟨i, _, l, m⟩) id⟩
  refine st.putO (h' := h') (S := Sg i) (ds := ds) (Ss := Ss) l e1 q1 (fun a o na q2 => hk a o (fun e => na (e ▸ bS2)) q2) hl (fun a m => .inl m) ⟨q.sum, q.nd, hk _ _ (fun e => bp e.symm) q.at_, ?_, by rw [e2]; simp [q.len], fun j r w s q2 q3 q4 => ?_⟩
  · rw [e2, q.keys, List.map_set]
    apply List.ext_getElem?
    intro j
    by_cases ej : m2 = j
    · subst ej
      rw [List.getElem?_set_self (by have := (List.getElem?_eq_some_iff.mp u1).1; simpa using this), List.getElem?_map, u1]; rfl
    · rw [List.getElem?_set_ne ej]
  · rw [e2] at q3
    by_cases ej : m2 = j
    · subst ej
      rw [List.getElem?_set_self (List.getElem?_eq_some_iff.mp u1).1] at q3
      rw [d1] at q2
      rw [s1] at q4
      cases q2; cases q3; cases q4
      simp only [no, if_true]
      exact ⟨b, rfl, rfl, c.tr (fun _ q => q) ⟨fun _ _ _ q => q, fun a q => q.elim .inl fun w => .inl (.inr ⟨i, _, l, w⟩), Nat.le_refl _⟩⟩
    · rw [List.getElem?_set_ne ej] at q3
      have := q.each j r w s q2 q3 q4
      split at this
      · rename_i hw
        rw [if_pos hw]
        obtain ⟨bb, e5, e6, c1⟩ := this
        refine ⟨bb, e5, e6, c1.tr (fun o q5 => ?_) tr0⟩
        have : b ≠ bb := fun e => by
          subst e
          have nd := q.nd
          rw [q.sum, List.nodup_cons] at nd
          have key : ∀ (Ls : List (List Nat)) (x y : Nat), x ≠ y → Ls[x]? = some [b] → Ls[y]? = some [b] → Ls.flatten.Nodup → False := fun Ls => by
            induction Ls with
            | nil => intro x y _ hx; simp at hx
            | cons L Ls ih =>
              intro x y ne hx hy nd
              rw [List.flatten_cons, List.nodup_append] at nd
              cases x with
              | zero =>
                cases y with
                | zero => exact ne rfl
                | succ y =>
                  simp at hx hy
                  exact nd.2.2 b (by rw [hx]; simp) b (List.mem_flatten.mpr ⟨_, List.mem_of_getElem? hy, by simp⟩) rfl
              | succ x =>
                cases y with
                | zero =>
                  simp at hx hy
                  exact nd.2.2 b (by rw [hy]; simp) b (List.mem_flatten.mpr ⟨_, List.mem_of_getElem? hx, by simp⟩) rfl
                | succ y => exact ih x y (by omega) (by simpa using hx) (by simpa using hy) nd.2.1
          exact key Ss m2 j ej s1 (by rw [q4, e6]) nd.2
        exact hk _ _ (fun e => this e.symm) q5
      · rename_i hw
        rw [if_neg hw]
        exact ⟨this.1, this.2.tr tr0⟩
theorem fld_ev {B : AS} {Sg : Nat → List Nat} {e : Ev} {h : HP} {p : Nat} {ds : List (Str × D)} {d : D} (e1 : e[i]? = some (some (.ref p))) (at_ : h[p]? = some (.ins n ds)) (lk : ds.lookup f = some d) (hc : n ∈ cs) : eFld cs (eV i) f C e h = .ok d h := by
  unfold eFld eV; rw [e1]; simp only [R.bind_ok, at_, if_pos hc, lk]
/-- o.f.append(a) -/
theorem s_fapp (l : pe[i]? = some (.o (.obj n fs))) (hc : n ∈ cs) (hf : fs.lookup f = some (.lst us)) (no : ownF f = true) (ha : Xp C pe a u) (sz : us.length < sizeLine) (pf : PutF f (.lst (us ++ [u])) fs fs2) (q1 : SetO i pe (.obj n fs2) pe1) : Xs C io pe (sEx (eBk okL mApp (eFld cs (eV i) f) (aC a aN))) (.nx pe1) := fun B Sg e h st => by
  obtain ⟨p, ds, b, e1, at_, lk, _, _, ⟨xs, hb, _⟩, _, _, _⟩ := st.fld l hf no
  obtain ⟨d, h1, ea, k1, rd⟩ := ha st
  obtain ⟨p', ds', b', e1', at', lk', bin, bp, ⟨xs', hb', r⟩, _, _, go⟩ := (st.kq k1).fld l hf no
  cases (Option.some.inj (Option.some.inj (e1'.symm.trans e1)))
  have := (k1 _ _ at_).symm.trans at'; cases this
  have := lk.symm.trans lk'; cases this
  have := (k1 _ _ hb).symm.trans hb'; cases this
  have bl := (List.getElem?_eq_some_iff.mp hb').1
  obtain ⟨Sg', s2, t2, _⟩ := go (h' := _) (u := .lst (us ++ [u])) (fun a o n q => by rw [List.getElem?_set_ne (fun e => n e.symm)]; exact q) (by simp) ⟨_, List.getElem?_set_self bl, (r.app (.one rd)).imp fun d u w => w.put bin⟩ pf q1
  refine ⟨Sg', e, _, ?_, s2, k1.tro.trans t2, fun _ _ => rfl⟩
  show _ = _
  have ok : okL (.ref b) h = true := by unfold okL; simp only [isL_cases.mpr (.inl hb)]; rfl
  have ar : (aC a aN) C e h = .ok [d] h1 := by unfold aC; rw [ea]; rfl
  have mp : mApp (.ref b) [d] h1 = .ok .non (h1.set b (.lst (xs ++ [d]))) := by unfold mApp; simp only [hb']; rw [if_pos (by rw [r.len]; exact sz)]
  unfold sEx eBk
  rw [fld_ev (B := B) (Sg := Sg) e1 at_ lk hc]; simp only [R.bind_ok]; rw [if_pos ok, ar]; simp only [R.bind_ok]; rw [mp]; rfl
/-- o.f[k] = a, a dict -/
theorem s_fstd {k : Key} {kvs : List (Key × U)} (l : pe[i]? = some (.o (.obj n fs))) (hc : n ∈ cs) (hf : fs.lookup f = some (.dic kvs)) (no : ownF f = true) (ha : Xp C pe a u) (hk : Xt C pe b v) (hn : keyU v = some k) (sz : kvs.length < sizeLine) (pf : PutF f (.dic (putKU kvs k u)) fs fs2) (q1 : SetO i pe (.obj n fs2) pe1) : Xs C io pe (sSt stD (eFld cs (eV i) f) b a) (.nx pe1) := fun B Sg e h st => by
  obtain ⟨d, h1, ea, k1, rd⟩ := ha st
  obtain ⟨p, ds, c, e1, at_, lk, _, _, _, _, _, _⟩ := (st.kq k1).fld l hf no
  obtain ⟨dk, h2, eb, k2, rk⟩ := hk (st.kq k1)
  obtain ⟨p', ds', c', e1', at', lk', bin, bp, ⟨xs, hb, r⟩, _, _, go⟩ := ((st.kq k1).kq k2).fld l hf no
  cases (Option.some.inj (Option.some.inj (e1'.symm.trans e1)))
  have := (k2 _ _ at_).symm.trans at'; cases this
  have := lk.symm.trans lk'; cases this
  have bl := (List.getElem?_eq_some_iff.mp hb).1
  obtain ⟨Sg', s2, t2, _⟩ := go (h' := _) (u := .dic (putKU kvs k u)) (fun a o n q => by rw [List.getElem?_set_ne (fun e => n e.symm)]; exact q) (by simp) ⟨_, List.getElem?_set_self bl, (r.put (rd.kq k2)).imp fun d u w => w.put bin⟩ pf q1
  refine ⟨Sg', e, _, ?_, s2, (k1.trans k2).tro.trans t2, fun _ _ => rfl⟩
  show _ = _
  have mp : stD (.ref c) dk d h2 = .ok () (h2.set c (.dic (putKD xs k d))) := by unfold stD; simp only [hb, rk.key hn]; rw [if_pos (by rw [r.len]; exact sz)]
  unfold sSt
  rw [ea]; simp only [R.bind_ok]; rw [fld_ev (B := B) (Sg := Sg) e1 at_ lk hc]; simp only [R.bind_ok]; rw [eb]; simp only [R.bind_ok]; rw [mp]; rfl
/-- o.f[k] = a, a list -/
theorem s_fstl {k : Int} {m : Nat} (l : pe[i]? = some (.o (.obj n fs))) (hc : n ∈ cs) (hf : fs.lookup f = some (.lst us)) (no : ownF f = true) (ha : Xp C pe a u) (hk : Xp C pe b (.int k)) (hn : ixN us.length k = some m) (pf : PutF f (.lst (us.set m u)) fs fs2) (q1 : SetO i pe (.obj n fs2) pe1) : Xs C io pe (sSt stD (eFld cs (eV i) f) b a) (.nx pe1) := fun B Sg e h st => by
  obtain ⟨d, h1, ea, k1, rd⟩ := ha st
  obtain ⟨p, ds, c, e1, at_, lk, _, _, _, _, _, _⟩ := (st.kq k1).fld l hf no
  obtain ⟨h2, eb, k2⟩ := hk.int (st.kq k1)
  obtain ⟨p', ds', c', e1', at', lk', bin, bp, ⟨xs, hb, r⟩, _, _, go⟩ := ((st.kq k1).kq k2).fld l hf no
  cases (Option.some.inj (Option.some.inj (e1'.symm.trans e1)))
  have := (k2 _ _ at_).symm.trans at'; cases this
  have := lk.symm.trans lk'; cases this
  have bl := (List.getElem?_eq_some_iff.mp hb).1
  obtain ⟨Sg', s2, t2, _⟩ := go (h' := _) (u := .lst (us.set m u)) (fun a o n q => by rw [List.getElem?_set_ne (fun e => n e.symm)]; exact q) (by simp) ⟨_, List.getElem?_set_self bl, (r.set m (rd.kq k2)).imp fun d u w => w.put bin⟩ pf q1
  refine ⟨Sg', e, _, ?_, s2, (k1.trans k2).tro.trans t2, fun _ _ => rfl⟩
  show _ = _
  have mp : stD (.ref c) (.int k) d h2 = .ok () (h2.set c (.lst (xs.set m d))) := by unfold stD; simp only [hb, r.len, hn]
  unfold sSt
  rw [ea]; simp only [R.bind_ok]; rw [fld_ev (B := B) (Sg := Sg) e1 at_ lk hc]; simp only [R.bind_ok]; rw [eb]; simp only [R.bind_ok]; rw [mp]; rfl
end

/-! ### defs that change what they are handed -/
def FnO (G : Gn) (args : List Sl) (u : U) (outs : List Sl) : Prop := ∀ ⦃B Sg h ds⦄, Sta B Sg (ds.map some) h args → ∃ d h' Sg', G ds h = .ok d h' ∧ Sta B Sg' (ds.map some) h' outs ∧ Rd (Av B Sg' outs) h' d u ∧ Tr (Ow Sg args) (Ow Sg' outs) h h'
/-- what is handed back: owned things as they are then, others as they were -/
structure Outs (io : List Nat) (args pe' outs : List Sl) : Prop where
  len : outs.length = args.length
  sh : ∀ (i : Nat) (u : U), outs[i]? = some (.s u) → args[i]? = some (.s u)
  ow : ∀ (i : Nat) (u : U), outs[i]? = some (.o u) → i ∈ io ∧ pe'[i]? = some (.o u)
section
variable {C : Ctx} {io : List Nat} {np nn : Nat} {m : MS} {args outs pe pe' : List Sl} {u : U}
theorem Sta.more {B : AS} {Sg : Nat → List Nat} {e : Ev} {h : HP} {pe : List Sl} (st : Sta B Sg e h pe) (k : Nat) : Sta B Sg (e ++ List.replicate k none) h (pe ++ List.replicate k Sl.n) ∧ ∀ a, Ow Sg (pe ++ List.replicate k Sl.n) a ↔ Ow Sg pe a := by
  have at_ : ∀ {i : Nat} {s : Sl}, (pe ++ List.replicate k Sl.n)[i]? = some s → s ≠ .n → pe[i]? = some s := fun {i s} q n => by
    by_cases hi : i < pe.length
    · rwa [List.getElem?_append_left hi] at q
    · rw [List.getElem?_append_right (Nat.le_of_not_lt hi)] at q
      exact absurd (List.eq_of_mem_replicate (List.mem_of_getElem? q)) n
  have ow : ∀ a, Ow Sg (pe ++ List.replicate k Sl.n) a ↔ Ow Sg pe a := fun a => ⟨fun ⟨i, u, q, m⟩ => ⟨i, u, at_ q (by simp), m⟩, fun ⟨i, u, q, m⟩ => ⟨i, u, by rw [List.getElem?_append_left (List.getElem?_eq_some_iff.mp q).1]; exact q, m⟩⟩
  have t : Tr (Av B Sg pe) (Av B Sg (pe ++ List.replicate k Sl.n)) h h := Tr.less fun a => (ow a).mp
  refine ⟨⟨by simp [st.len], fun i u q => ?_, fun i u q => ?_, fun i j u v n q1 q2 => st.dis i j u v n (at_ q1 (by simp)) (at_ q2 (by simp)), st.bl, fun a q => st.nb a ((ow a).mp q)⟩, ow⟩
  · obtain ⟨d, e1, r⟩ := st.sh i u (at_ q (by simp))
    exact ⟨d, by rw [List.getElem?_append_left (List.getElem?_eq_some_iff.mp e1).1]; exact e1, r.tr t⟩
  · obtain ⟨d, e1, r⟩ := st.ow i u (at_ q (by simp))
    exact ⟨d, by rw [List.getElem?_append_left (List.getElem?_eq_some_iff.mp e1).1]; exact e1, r.tr (fun _ _ _ q => q) t⟩
theorem Outs.sta (o : Outs io args pe' outs) {B : AS} {Sg Sg' : Nat → List Nat} {e' : Ev} {ds : List D} {k : Nat} {h h' : HP} (st : Sta B Sg (ds.map some) h args) (s1 : Sta B Sg' e' h' pe') (t : Tr (Ow Sg args) (Ow Sg' pe') h h') (io_ : ∀ i ∈ io, e'[i]? = (ds.map some ++ List.replicate k none)[i]?) :
    Sta B Sg' (ds.map some) h' outs ∧ (∀ a, Ow Sg' outs a → Ow Sg' pe' a) := by
  have ow : ∀ a, Ow Sg' outs a → Ow Sg' pe' a := fun a ⟨i, u, q, m⟩ => ⟨i, u, (o.ow i u q).2, m⟩
  have tl : Tr (Av B Sg' pe') (Av B Sg' outs) h' h' := Tr.less ow
  refine ⟨⟨st.len.trans o.len.symm, fun i u q => ?_, fun i u q => ?_, fun i j u v n q1 q2 => s1.dis i j u v n (o.ow i u q1).2 (o.ow j v q2).2, fun a q => Nat.lt_of_lt_of_le (st.bl a q) t.len, fun a q => s1.nb a (ow a q)⟩, ow⟩
  · obtain ⟨d, e1, r⟩ := st.sh i u (o.sh i u q)
    exact ⟨d, e1, (r.tr t.av).tr tl⟩
  · obtain ⟨hi, q2⟩ := o.ow i u q
    obtain ⟨p, e1, c⟩ := s1.ow i u q2
    refine ⟨p, ?_, c.tr (fun _ _ _ q => q) tl⟩
    rw [io_ i hi] at e1
    have : i < (ds.map some).length := by rw [st.len, ← o.len]; exact (List.getElem?_eq_some_iff.mp q).1
    rwa [List.getElem?_append_left this] at e1
theorem fo_rt (l : args.length = np) (e : args ++ List.replicate (nn - args.length) Sl.n = pe) (q : Xs C io pe m (.rt u pe')) (o : Outs io args pe' outs) : FnO (runFn C ⟨np, nn, m⟩) args u outs := fun B Sg h ds st => by
  subst e
  obtain ⟨st2, ow2⟩ := st.more (nn - args.length)
  obtain ⟨Sg', e', h', ⟨d, e1, rd⟩, s1, t1, k1⟩ := q st2
  have dl : ds.length = args.length := by have := st.len; simpa using this
  have t2 : Tr (Ow Sg args) (Ow Sg' pe') h h' := ⟨fun i o n q => t1.keep i o (fun w => n ((ow2 i).mp w)) q, fun i q => (t1.sub i q).imp (ow2 i).mp id, t1.len⟩
  obtain ⟨s3, ow3⟩ := o.sta (k := nn - args.length) st s1 t2 k1
  refine ⟨d, h', Sg', ?_, s3, rd.tr (Tr.less ow3), t2.trans (Tr.lessO ow3)⟩
  unfold runFn
  rw [if_pos (by rw [dl]; exact l), dl]; simp only; rw [e1]; rfl
theorem fo_nx (l : args.length = np) (e : args ++ List.replicate (nn - args.length) Sl.n = pe) (q : Xs C io pe m (.nx pe')) (o : Outs io args pe' outs) : FnO (runFn C ⟨np, nn, m⟩) args .non outs := fun B Sg h ds st => by
  subst e
  obtain ⟨st2, ow2⟩ := st.more (nn - args.length)
  obtain ⟨Sg', e', h', e1, s1, t1, k1⟩ := q st2
  have e1 : _ = _ := e1
  have dl : ds.length = args.length := by have := st.len; simpa using this
  have t2 : Tr (Ow Sg args) (Ow Sg' pe') h h' := ⟨fun i o n q => t1.keep i o (fun w => n ((ow2 i).mp w)) q, fun i q => (t1.sub i q).imp (ow2 i).mp id, t1.len⟩
  obtain ⟨s3, ow3⟩ := o.sta (k := nn - args.length) st s1 t2 k1
  refine ⟨.non, h', Sg', ?_, s3, .non, t2.trans (Tr.lessO ow3)⟩
  unfold runFn
  rw [if_pos (by rw [dl]; exact l), dl]; simp only; rw [e1]; rfl
theorem fo_rf (l : args.length = np) (e : args ++ List.replicate (nn - args.length) Sl.n = pe) (q : Xs C io pe m (.rf u pe')) (o : Outs io args pe' outs) : FnO (runFn C ⟨np, nn, m⟩) args u outs := fun B Sg h ds st => by
  subst e
  obtain ⟨st2, ow2⟩ := st.more (nn - args.length)
  obtain ⟨Sg', e', h', ⟨a, S, e1, c, n, md⟩, s1, t1, k1⟩ := q st2
  have dl : ds.length = args.length := by have := st.len; simpa using this
  have t2 : Tr (Ow Sg args) (Ow Sg' pe') h h' := ⟨fun i o n q => t1.keep i o (fun w => n ((ow2 i).mp w)) q, fun i q => (t1.sub i q).imp (ow2 i).mp id, t1.len⟩
  obtain ⟨s3, ow3⟩ := o.sta (k := nn - args.length) st s1 t2 k1
  have rd : Rd (Av B Sg' pe') h' (.ref a) u := c.less.rd md
  refine ⟨.ref a, h', Sg', ?_, s3, rd.tr (Tr.less ow3), t2.trans (Tr.lessO ow3)⟩
  unfold runFn
  rw [if_pos (by rw [dl]; exact l), dl]; simp only; rw [e1]; rfl
/-- outs of one owned thing ahead -/
theorem outs0 {x y : U} {us : List U} (q : pe'[0]? = some (.o y)) : Outs [0] (.o x :: us.map Sl.s) pe' (.o y :: us.map Sl.s) := ⟨by simp, fun i u w => by
  cases i with
  | zero => cases w
  | succ i => simpa using w, fun i u w => by
  cases i with
  | zero => simp at w; subst w; exact ⟨by simp, q⟩
  | succ i =>
    simp only [List.getElem?_cons_succ, List.getElem?_map] at w
    cases e : us[i]? with
    | none => rw [e] at w; cases w
    | some z => rw [e] at w; cases w⟩
/-- an object made -/
theorem ff_make {n c : Nat} {vs : List U} {fs : List (Str × U)} (T : Tbl) (q : FnO ((ctx T n).meth c 0) (.o (.obj c []) :: vs.map Sl.s) .non (.o (.obj c fs) :: vs.map Sl.s)) : Ff ((ctx T (n + 1)).make c) vs (.obj c fs) := fun A h ds b r => by
  have st : Sta A (fun j => if j = 0 then [h.length] else []) ((D.ref h.length :: ds).map some) (h ++ [.ins c []]) (.o (.obj c []) :: vs.map Sl.s) := by
    have ow : ∀ a, Ow (fun j => if j = 0 then [h.length] else []) (.o (.obj c []) :: vs.map Sl.s) a → a = h.length := fun a ⟨i, u, q, m⟩ => by
      cases i with
      | zero => simpa using m
      | succ i => simp at m
    have tr : Tr A (Av A (fun j => if j = 0 then [h.length] else []) (.o (.obj c []) :: vs.map Sl.s)) h (h ++ [.ins c []]) := ⟨fun i o _ q => Kq.app i o q, fun a q => q.elim .inl fun w => .inr (by rw [ow a w]; exact Nat.le_refl _), by simp⟩
    refine ⟨by simp [r.len], fun i u q => ?_, fun i u q => ?_, fun i j u v n q1 q2 a h1 h2 => ?_, fun a q => by have := b a q; simp; omega, fun a q w => by have := b a w; have := ow a q; omega⟩
    · cases i with
      | zero => cases q
      | succ i =>
        simp only [List.getElem?_cons_succ, List.getElem?_map] at q
        cases e : vs[i]? with
        | none => rw [e] at q; cases q
        | some v =>
          rw [e] at q; cases q
          obtain ⟨d, e2, rd⟩ := r.get e
          exact ⟨d, by simp [e2], rd.tr tr⟩
    · cases i with
      | zero =>
        simp at q; subst q
        exact ⟨h.length, rfl, [], [], ⟨rfl, by simp, get_push, rfl, rfl, fun j p q s w => by simp at w⟩⟩
      | succ i =>
        simp only [List.getElem?_cons_succ, List.getElem?_map] at q
        cases e : vs[i]? with
        | none => rw [e] at q; cases q
        | some v => rw [e] at q; cases q
    · by_cases ei : i = 0
      · subst ei
        have : j ≠ 0 := fun e => n e.symm
        simp [this] at h2
      · simp [ei] at h1
  obtain ⟨d, h', Sg', e1, s1, rd, t1⟩ := q st
  rw [Rd.non_iff] at rd; subst rd
  obtain ⟨p, e2, c2⟩ := s1.ow 0 _ rfl
  have e3 : p = h.length := by
    have : (some (some (D.ref h.length)) : Option (Option D)) = some (some (.ref p)) := e2
    cases this; rfl
  subst e3
  have ow0 : ∀ a, Ow (fun j => if j = 0 then [h.length] else []) (.o (.obj c []) :: vs.map Sl.s) a → a = h.length := fun a ⟨i, u, q, m⟩ => by
    cases i with
    | zero => simpa using m
    | succ i => simp at m
  have new : ∀ s ∈ Sg' 0, h.length ≤ s := fun s hs => by
    rcases t1.sub s ⟨0, _, rfl, hs⟩ with w | w
    · rw [ow0 s w]; exact Nat.le_refl _
    · simp at w; omega
  refine ⟨h.length, h', Sg' 0, ?_, fun i o w => t1.keep i o (fun z => by have := ow0 i z; have := (List.getElem?_eq_some_iff.mp w).1; omega) (Kq.app i o w), new, ?_⟩
  · show mkBy (ctx T n).meth c ds h = _
    unfold mkBy; rw [e1]; rfl
  · refine c2.tr (fun _ _ _ q => q) ⟨fun _ _ _ q => q, fun a q => .inl (q.elim .inl fun w => .inr ⟨0, _, rfl, w⟩), Nat.le_refl _⟩
end
end Z
/-! Y6: calls of defs that change one thing that they are handed. -/
namespace Z
open PySem L2

structure Qb (A : AS) (h : HP) (b : Nat) (x : U) (ds : List D) (args : List Sl) : Prop where
  len : ds.length = args.length
  sh : ∀ (j : Nat) (u : U), args[j]? = some (.s u) → ∃ d, ds[j]? = some d ∧ Rd A h d u
  ow : ∀ (j : Nat) (u : U), args[j]? = some (.o u) → u = x ∧ ds[j]? = some (.ref b)
structure One (args : List Sl) (k : Nat) (x : U) : Prop where
  at_ : args[k]? = some (.o x)
  all : ∀ (j : Nat) (u : U), args[j]? = some (.o u) → j = k
section
variable {A : AS} {h : HP} {b k : Nat} {x y u : U} {ds : List D} {args outs : List Sl} {S : List Nat}
theorem Qb.sta (q : Qb A h b x ds args) (o : One args k x) (bd : Bd A h) (c : Cn A h b S x) (hs : ∀ s ∈ S, A s) : Sta (fun a => A a ∧ a ∉ S) (fun j => if j = k then S else []) (ds.map some) h args ∧ (∀ a, Ow (fun j => if j = k then S else []) args a ↔ a ∈ S) := by
  have ow : ∀ a, Ow (fun j => if j = k then S else []) args a ↔ a ∈ S := fun a => by
    constructor
    · rintro ⟨j, u, e, m⟩
      have := o.all j u e
      subst this
      simpa using m
    · intro m; exact ⟨k, x, o.at_, by simpa using m⟩
  have t : Tr A (Av (fun a => A a ∧ a ∉ S) (fun j => if j = k then S else []) args) h h := ⟨fun _ _ _ q => q, fun a q => .inl (q.elim (·.1) fun w => hs a ((ow a).mp w)), Nat.le_refl _⟩
  refine ⟨⟨by simp [q.len], fun j u e => ?_, fun j u e => ?_, fun i j u v n e1 e2 => ?_, fun a q => bd a q.1, fun a w z => z.2 ((ow a).mp w)⟩, ow⟩
  · obtain ⟨d, e1, r⟩ := q.sh j u e
    exact ⟨d, by rw [List.getElem?_map, e1]; rfl, r.tr t⟩
  · obtain ⟨e1, e2⟩ := q.ow j u e
    have := o.all j u e
    subst this e1
    exact ⟨b, by rw [List.getElem?_map, e2]; rfl, by simpa using c.tr (fun _ _ _ q => q) t⟩
  · exact absurd ((o.all i u e1).trans (o.all j v e2).symm) n
/-- what comes back -/
theorem Qb.run {G : Gn} (q : Qb A h b x ds args) (o : One args k x) (bd : Bd A h) (c : Cn A h b S x) (hs : ∀ s ∈ S, A s) (f : FnO G args u outs) (o2 : One outs k y) :
    ∃ d h' S', G ds h = .ok d h' ∧ (∀ a o, a ∉ S → h[a]? = some o → h'[a]? = some o) ∧ h.length ≤ h'.length ∧ (∀ s ∈ S', s ∈ S ∨ h.length ≤ s) ∧ Cn (fun a => (A a ∧ a ∉ S) ∨ a ∈ S') h' b S' y ∧ Rd (fun a => (A a ∧ a ∉ S) ∨ a ∈ S') h' d u := by
  obtain ⟨st, ow⟩ := q.sta o bd c hs
  obtain ⟨d, h', Sg', e, s1, rd, t⟩ := f st
  obtain ⟨p, e1, c1⟩ := s1.ow k y o2.at_
  have e2 := (q.ow k x o.at_).2
  rw [List.getElem?_map, e2] at e1
  cases e1
  have ow2 : ∀ a, Ow Sg' outs a ↔ a ∈ Sg' k := fun a => by
    constructor
    · rintro ⟨j, u, e, m⟩
      have := o2.all j u e
      subst this; exact m
    · intro m; exact ⟨k, y, o2.at_, m⟩
  have tl : Tr (Av (fun a => A a ∧ a ∉ S) Sg' outs) (fun a => (A a ∧ a ∉ S) ∨ a ∈ Sg' k) h' h' := ⟨fun _ _ _ q => q, fun a q => .inl (q.imp id fun w => (ow2 a).mpr w), Nat.le_refl _⟩
  refine ⟨d, h', Sg' k, e, fun a o n q => t.keep a o (fun w => n ((ow a).mp w)) q, t.len, fun s m => (t.sub s ((ow2 s).mpr m)).imp (ow s).mp id, c1.tr (fun _ _ _ q => q) tl, rd.tr tl⟩
end
section
variable {C : Ctx} {io : List Nat} {pe pe0 pe1 pe2 : List Sl} {a o : ME} {as : MA} {u v x y : U} {us : List U} {i j n k : Nat} {cs : List Nat} {f : Str} {fs fs2 : List (Str × U)} {args outs : List Sl} {g : Tg}
theorem qb_nil {A : AS} {h : HP} {b : Nat} : Qb A h b x [] [] := ⟨rfl, fun j u q => by simp at q, fun j u q => by simp at q⟩
theorem qb_s {A : AS} {h : HP} {b : Nat} {d : D} {ds : List D} (r : Rd A h d u) (q : Qb A h b x ds args) : Qb A h b x (d :: ds) (.s u :: args) := ⟨by simp [q.len], fun j w e => by
  cases j with
  | zero => simp at e; subst e; exact ⟨d, rfl, r⟩
  | succ j => exact q.sh j w (by simpa using e), fun j w e => by
  cases j with
  | zero => simp at e
  | succ j => exact q.ow j w (by simpa using e)⟩
theorem qb_o {A : AS} {h : HP} {b : Nat} {ds : List D} (q : Qb A h b x ds args) : Qb A h b x (.ref b :: ds) (.o x :: args) := ⟨by simp [q.len], fun j w e => by
  cases j with
  | zero => simp at e
  | succ j => exact q.sh j w (by simpa using e), fun j w e => by
  cases j with
  | zero => simp at e; exact ⟨e.symm, rfl⟩
  | succ j => exact q.ow j w (by simpa using e)⟩
theorem Qb.kq {A : AS} {h h' : HP} {b : Nat} {ds : List D} (q : Qb A h b x ds args) (k : Kq h h') : Qb A h' b x ds args := ⟨q.len, fun j u e => by obtain ⟨d, e1, r⟩ := q.sh j u e; exact ⟨d, e1, r.kq k⟩, q.ow⟩
/-- the owned name behind a call -/
theorem Sta.lent {B : AS} {Sg : Nat → List Nat} {e : Ev} {h : HP} {ds : List D} {G : Gn} (st : Sta B Sg e h pe) (l : pe[i]? = some (.o x)) (q : ∀ b x, pe[i]? = some (.o x) → e[i]? = some (some (.ref b)) → Qb (Av B Sg pe) h b x ds args) (o : One args k x) (f : FnO G args u outs) (o2 : One outs k y) (q1 : SetO i pe y pe1) :
    ∃ d h' Sg', G ds h = .ok d h' ∧ Sta B Sg' e h' pe1 ∧ Rd (Av B Sg' pe1) h' d u ∧ Tr (Ow Sg pe) (Ow Sg' pe1) h h' := by
  obtain ⟨p, e1, c⟩ := st.ow i x l
  obtain ⟨d, h', S', e2, kp, ln, nw, cn, rd⟩ := (q p x l e1).run o (fun a w => st.lt w) c (fun s hs => .inr ⟨i, x, l, hs⟩) f o2
  have same : ∀ a, (Av B Sg pe a ∧ ∀ v, pe[i]? = some (.o v) → a ∉ Sg i) ↔ (Av B Sg pe a ∧ a ∉ Sg i) := fun a => and_congr Iff.rfl ⟨fun w => w x l, fun w v _ => w⟩
  have := st.own2 (S := S') (x := some (.ref p)) rfl q1 (h' := h') (fun a o n q => kp a o (n x l) q) ln (fun a m => (nw a m).imp (fun w => ⟨x, l, w⟩) id) (cn.tr (fun _ _ _ q => q) ⟨fun _ _ _ q => q, fun a q => .inl (q.imp (same a).mp id), Nat.le_refl _⟩)
  rw [set_id e1] at this
  obtain ⟨s2, t2⟩ := this
  refine ⟨d, h', _, e2, s2, rd.tr ⟨fun _ _ _ q => q, fun a w => .inl ?_, Nat.le_refl _⟩, t2⟩
  rcases w with w | ⟨j, z, w, m⟩
  · exact .inl ⟨.inl w, fun m => st.nb a ⟨i, x, l, m⟩ w⟩
  · by_cases ej : j = i
    · subst ej; simp only [if_true] at m; exact .inr m
    · rw [q1.eq, List.getElem?_set_ne (fun e => ej e.symm)] at w
      simp only [if_neg ej] at m
      exact .inl ⟨.inr ⟨j, z, w, m⟩, fun m2 => st.dis i j x z (fun e => ej e.symm) l w a m2 m⟩
/-- o.m(..), o owned -/
theorem z_methO {m : Nat} {nm : Str} (l : pe[i]? = some (.o (.obj n fs))) (hc : n ∈ cs) (hn : (fs.lookup nm).isNone = true) (ha : Xa C pe as us) (hf : FnO (C.meth n m) (.o (.obj n fs) :: us.map Sl.s) u (.o y :: us.map Sl.s)) (q1 : SetO i pe y pe1) : Xz C pe (eMeth cs (eV i) m nm as) u pe1 := fun B Sg e h st => by
  obtain ⟨p, ds0, Ss, e0, q⟩ := st.obj l
  obtain ⟨ds, h1, e1, k1, r⟩ := ha st
  have one : ∀ z : U, One (.o z :: us.map Sl.s) 0 z := fun z => ⟨rfl, fun j w e => by
    cases j with
    | zero => rfl
    | succ j =>
      simp only [List.getElem?_cons_succ, List.getElem?_map] at e
      cases e3 : us[j]? with
      | none => rw [e3] at e; cases e
      | some z => rw [e3] at e; cases e⟩
  have qs : ∀ {ds : List D} {us : List U} {b : Nat} {x : U}, AllR (Rd (Av B Sg pe) h1) ds us → Qb (Av B Sg pe) h1 b x ds (us.map Sl.s) := fun {ds us b x} r => by
    induction us generalizing ds with
    | nil => cases r.inv0; exact qb_nil
    | cons u us ih => obtain ⟨d, t, rfl, rd, r2⟩ := r.inv; exact qb_s rd (ih r2)
  obtain ⟨d, h2, Sg', e2, s2, rd, t2⟩ := (st.kq k1).lent (ds := .ref p :: ds) l (fun b x q1 q2 => by
    rw [l] at q1; cases q1
    rw [e0] at q2; cases q2
    exact qb_o (qs r)) (one _) hf (one _) q1
  refine ⟨d, h2, Sg', ?_, s2, rd, k1.tro.trans t2⟩
  unfold eMeth eV; rw [e0]; simp only [R.bind_ok, q.at_, if_pos (And.intro hc (look_none q.keys hn))]; rw [e1]; simp only [R.bind_ok]
  exact e2
theorem s_exz (ha : Xz C pe a u pe1) : Xs C io pe (sEx a) (.nx pe1) := fun B Sg e h st => by
  obtain ⟨d, h1, Sg1, ea, s1, rd, t1⟩ := ha st
  exact ⟨Sg1, e, h1, by show _ = _; unfold sEx; rw [ea]; rfl, s1, t1, fun _ _ => rfl⟩
theorem s_asz (ha : Xz C pe a u pe1) (hg : Tp io g pe1 u pe2) : Xs C io pe (sAs g a) (.nx pe2) := fun B Sg e h st => by
  obtain ⟨d, h1, Sg1, ea, s1, rd, t1⟩ := ha st
  obtain ⟨e2, q, s2, f, k⟩ := hg s1 rd
  exact ⟨Sg1, e2, h1, by show _ = _; unfold sAs; rw [ea]; simp only [R.bind_ok, q], s2, t1.trans (Tr.lessO f), k⟩
theorem s_rtz (ha : Xz C pe a u pe1) : Xs C io pe (sRt a) (.rt u pe1) := fun B Sg e h st => by
  obtain ⟨d, h1, Sg1, ea, s1, rd, t1⟩ := ha st
  exact ⟨Sg1, e, h1, ⟨d, by unfold sRt; rw [ea]; rfl, rd⟩, s1, t1, fun _ _ => rfl⟩
end
end Z
/-! Y7: defs run, expressions in which something is changed. -/
namespace Z
open PySem L2

def OutU (f : PF) (u : U) : Prop := match f with
  | .rt v _ => v = u
  | .rf v _ => v = u
  | .nx _ => u = .non
  | _ => False
def OutF (f : PF) (u : U) : Prop := match f with
  | .rf v _ => v = u
  | _ => False
section
variable {C : Ctx} {io : List Nat} {np nn : Nat} {m : MS} {vs : List U} {u : U} {args outs pe : List Sl} {f : PF}
theorem fu_of (l : vs.length = np) (e : vs.map Sl.s ++ List.replicate (nn - vs.length) Sl.n = pe) (w : ∃ f, Xs C [] pe m f ∧ OutU f u) : Fu (runFn C ⟨np, nn, m⟩) vs u := by
  obtain ⟨f, q, o⟩ := w
  cases f with
  | rt v pe' => have o : v = u := o; subst o; exact fu_rt l e q
  | rf v pe' => have o : v = u := o; subst o; exact fu_rf l e q
  | nx pe' => have o : u = .non := o; subst o; exact fu_nx l e q
  | bk => exact False.elim o
  | ct => exact False.elim o
  | ex => exact False.elim o
theorem ff_of (l : vs.length = np) (e : vs.map Sl.s ++ List.replicate (nn - vs.length) Sl.n = pe) (w : ∃ f, Xs C [] pe m f ∧ OutF f u) : Ff (runFn C ⟨np, nn, m⟩) vs u := by
  obtain ⟨f, q, o⟩ := w
  cases f with
  | rf v pe' => have o : v = u := o; subst o; exact ff_rf l e q
  | _ => exact False.elim o
theorem fo_of (l : args.length = np) (e : args ++ List.replicate (nn - args.length) Sl.n = pe) (x : ∃ f, Xs C io pe m f ∧ OutU f u ∧ Outs io args f.pe outs) : FnO (runFn C ⟨np, nn, m⟩) args u outs := by
  obtain ⟨f, q, o, w⟩ := x
  cases f with
  | rt v pe' => have o : v = u := o; subst o; exact fo_rt l e q w
  | rf v pe' => have o : v = u := o; subst o; exact fo_rf l e q w
  | nx pe' => have o : u = .non := o; subst o; exact fo_nx l e q w
  | bk => exact False.elim o
  | ct => exact False.elim o
  | ex => exact False.elim o
end
/-! things changed within expressions -/
section
variable {C : Ctx} {io : List Nat} {pe pe0 pe1 pe2 pe3 : List Sl} {a b o : ME} {as : MA} {t w : MT} {u v x y : U} {us : List U} {i j n k : Nat} {cs : List Nat} {f : Str} {fs fs2 : List (Str × U)} {args outs : List Sl} {g : Tg} {bb : Bool} {s s2 : MS} {fl : PF}
theorem Tr.rd {B : AS} {Sg Sg' : Nat → List Nat} {h h' : HP} {d : D} (t : Tr (Ow Sg pe) (Ow Sg' pe1) h h') (r : Rd (Av B Sg pe) h d u) : Rd (Av B Sg' pe1) h' d u := r.tr t.av
theorem Qb.tr {A A' : AS} {h h' : HP} {b : Nat} {x : U} {ds : List D} (q : Qb A h b x ds args) (t : Tr A A' h h') : Qb A' h' b x ds args := ⟨q.len, fun j u e => by obtain ⟨d, e1, r⟩ := q.sh j u e; exact ⟨d, e1, r.tr t⟩, q.ow⟩
theorem Xz.p (q : Xp C pe a u) : Xz C pe a u pe := q.z
end
end Z
/-! Y8: loops over things numbered, paired, counted; tables. -/
namespace Z
open PySem L2

theorem enum_map {α : Type} (f : α → U) (xs : List α) : enumU (xs.map f) = (xs.mapIdx fun j x => (j, x)).map fun p => .tup [.int p.1, f p.2] := by
  unfold enumU
  apply List.ext_getElem?
  intro j
  simp only [List.getElem?_mapIdx, List.getElem?_map]
  cases xs[j]? <;> rfl
section
variable {C : Ctx} {io : List Nat} {pe pe0 pe1 pe2 : List Sl} {g : Tg} {b : MS} {t : MT} {us : List U} {mi : MI} {a : ME}
theorem s_fore {α : Type} {xs : List α} {f : α → U} (S : Nat → List Sl) (hi : Xi C pe mi (enumU (xs.map f))) (fu : xs.length < C.fuel) (h0 : Fgt pe (S 0)) (hs : ∀ (j : Nat) x, xs[j]? = some x → ∃ pe1, Tp io g (S j) (.tup [.int j, f x]) pe1 ∧ Bod C io pe1 b (S (j + 1))) : Xs C io pe (sFo g mi b) (.nx (S xs.length)) := by
  rw [enum_map] at hi
  have := s_fors (C := C) (g := g) (b := b) (io := io) S hi (by simpa using fu) h0 fun j x q => by
    rw [List.getElem?_mapIdx] at q
    cases e : xs[j]? with
    | none => rw [e] at q; cases q
    | some y => rw [e] at q; cases q; exact hs j y e
  simpa using this
theorem s_forr {lo : Int} {n : Nat} (S : Nat → List Sl) (hi : Xi C pe mi (rngU lo n)) (fu : n < C.fuel) (h0 : Fgt pe (S 0)) (hs : ∀ (j : Nat), j < n → ∃ pe1, Tp io g (S j) (.int (lo + j)) pe1 ∧ Bod C io pe1 b (S (j + 1))) : Xs C io pe (sFo g mi b) (.nx (S n)) := by
  have := s_fors (C := C) (g := g) (b := b) (io := io) (xs := List.range n) S hi (by simpa using fu) h0 fun j x q => by
    have hj : j < n := by have := (List.getElem?_eq_some_iff.mp q).1; simpa using this
    rw [List.getElem?_range hj] at q; cases q
    exact hs j hj
  simpa using this
/-- for j in range(n): the same, from 0 on -/
theorem s_forn {n : Nat} (S : Nat → List Sl) (hi : Xi C pe mi (rngU 0 n)) (fu : n < C.fuel) (h0 : Fgt pe (S 0)) (hs : ∀ (j : Nat), j < n → ∃ pe1, Tp io g (S j) (.int (j : Int)) pe1 ∧ Bod C io pe1 b (S (j + 1))) : Xs C io pe (sFo g mi b) (.nx (S n)) :=
  s_forr S hi fu h0 fun j hj => by rw [Int.zero_add]; exact hs j hj
theorem f_lcr {lo : Int} {n : Nat} {out : Nat → U} {ws : List Nat} (hi : Xj C pe mi (rngU lo n)) (hw : WipN pe ws pe0) (hn : n ≤ sizeLine) (fu : n < C.fuel) (hs : ∀ j < n, ∃ pe1, Tn g pe0 (.int (lo + j)) pe1 ∧ Xp C pe1 a (out j)) : Xf C pe (eLc ws g mi tY a) (.lst ((List.range n).map out)) :=
  f_lcm (xs := List.range n) hi hw (by simpa using hn) (by simpa using fu) fun x hx => hs x (List.mem_range.mp hx)
/-- some of the things, by a test -/
theorem f_lcf {α : Type} {xs : List α} {f out : α → U} {p : α → Bool} {ws : List Nat} (hi : Xj C pe mi (xs.map f)) (hw : WipN pe ws pe0) (hn : xs.length ≤ sizeLine) (fu : xs.length < C.fuel)
    (hs : ∀ x ∈ xs, ∃ pe1, Tn g pe0 (f x) pe1 ∧ Xb C pe1 t (p x) ∧ (p x = true → Xp C pe1 a (out x))) : Xf C pe (eLc ws g mi t a) (.lst ((xs.filter p).map out)) := by
  have := f_lc (C := C) (a := a) (t := t) (g := g) (pe0 := pe0) (out := fun x => if p x = true then some (out x) else none) hi hw hn fu fun x hx => by
    obtain ⟨pe1, tn, xb, xp⟩ := hs x hx
    refine ⟨pe1, p x, tn, xb, ?_⟩
    cases e : p x with
    | true => simp only [if_true]; exact ⟨_, rfl, xp e⟩
    | false => simp
  have e : xs.filterMap (fun x => if p x = true then some (out x) else none) = (xs.filter p).map out := by
    rw [← List.filterMap_eq_map', List.filterMap_filter]
  rwa [e] at this
end
inductive ItU : U → List U → Prop
  | lst {us : List U} : ItU (.lst us) us
  | fz {us : List U} : ItU (.fz us) us
  | tup {us : List U} : ItU (.tup us) us
  | str {x : Str} : ItU (.str x) (x.cps.toList.map fun c => .str ⟨#[c]⟩)
theorem i_x {C : Ctx} {pe : List Sl} {a : ME} {u : U} {us : List U} (ha : Xp C pe a u) (q : ItU u us) : Xi C pe (iA a) us := by
  cases q with
  | lst => exact i_l ha (.inl rfl)
  | fz => exact i_l ha (.inr rfl)
  | tup => exact i_t ha
  | str => exact i_s ha
theorem j_x {C : Ctx} {pe : List Sl} {a : ME} {u : U} {us : List U} (ha : Xt C pe a u) (q : ItU u us) : Xj C pe (iA a) us := by
  cases q with
  | lst => exact j_l ha (.inl rfl)
  | fz => exact j_l ha (.inr rfl)
  | tup => exact (i_t fun B Sg e h st => by
      obtain ⟨d, h1, e1, k1, r1⟩ := ha st
      exact ⟨d, h1, e1, k1, r1.flat fun a S c => c.2⟩).j
  | str => exact (i_s fun B Sg e h st => by
      obtain ⟨d, h1, e1, k1, r1⟩ := ha st
      exact ⟨d, h1, e1, k1, r1.flat fun a S c => c.2⟩).j
theorem i_rn {C : Ctx} {pe : List Sl} {a : ME} {n : Nat} (ha : Xp C pe a (.int (n : Int))) (r : n < 2 ^ 62) : Xi C pe (iR1 a) (rngU 0 n) := by
  have := i_r1 ha (by omega) (by omega)
  rwa [Int.toNat_natCast] at this
theorem seq_l {us : List U} : Seq (.lst us) us := .inl rfl
theorem seq_z {us : List U} : Seq (.fz us) us := .inr rfl
/-! tables: each row by those ahead -/
def tab {α β : Type} (f : List β → α → β) (xs : List α) : List β := xs.foldl (fun acc x => acc ++ [f acc x]) []
section
variable {α β : Type} {f : List β → α → β}
theorem tab_snoc (xs : List α) (x : α) : tab f (xs ++ [x]) = tab f xs ++ [f (tab f xs) x] := by unfold tab; rw [List.foldl_append]; rfl
theorem snoc_ind {P : List α → Prop} (h0 : P []) (h1 : ∀ xs x, P xs → P (xs ++ [x])) (xs : List α) : P xs := by
  have : ∀ ys : List α, P ys.reverse := fun ys => by
    induction ys with
    | nil => exact h0
    | cons y ys ih => rw [List.reverse_cons]; exact h1 _ _ ih
  simpa using this xs.reverse
theorem tab_len (xs : List α) : (tab f xs).length = xs.length := by
  induction xs using snoc_ind with
  | h0 => rfl
  | h1 xs x ih => rw [tab_snoc]; simp [ih]
theorem tab_app (xs ys : List α) : (tab f (xs ++ ys)).take xs.length = tab f xs := by
  induction ys using snoc_ind with
  | h0 => rw [List.append_nil, List.take_of_length_le (by rw [tab_len]; exact Nat.le_refl _)]
  | h1 ys y ih => rw [← List.append_assoc, tab_snoc, List.take_append_of_le_length (by rw [tab_len]; simp), ih]
theorem tab_take (xs : List α) (k : Nat) : tab f (xs.take k) = (tab f xs).take k := by
  by_cases h : k ≤ xs.length
  · have := tab_app (f := f) (xs.take k) (xs.drop k)
    rw [List.take_append_drop, List.length_take, Nat.min_eq_left h] at this
    exact this.symm
  · rw [List.take_of_length_le (by omega), List.take_of_length_le (by rw [tab_len]; omega)]
theorem take_snoc_g {xs : List α} {k : Nat} {x : α} (q : xs[k]? = some x) : xs.take (k + 1) = xs.take k ++ [x] := by
  rw [List.take_add_one, q]; rfl
theorem tab_at {xs : List α} {k : Nat} {x : α} (q : xs[k]? = some x) : (tab f xs)[k]? = some (f ((tab f xs).take k) x) := by
  have h1 : tab f (xs.take (k + 1)) = tab f (xs.take k) ++ [f (tab f (xs.take k)) x] := by rw [take_snoc_g q, tab_snoc]
  rw [tab_take, tab_take] at h1
  have hk := (List.getElem?_eq_some_iff.mp q).1
  have h2 : ((tab f xs).take (k + 1))[k]? = (tab f xs)[k]? := by rw [List.getElem?_take]; simp
  rw [← h2, h1, List.getElem?_append_right (by simp; omega), List.length_take, tab_len, Nat.min_eq_left (by omega)]
  simp
end
theorem getD_take {α : Type} {xs : List α} {j k : Nat} {d : α} (h : j < k) : (xs.take k).getD j d = xs.getD j d := by
  rw [List.getD_eq_getElem?_getD, List.getD_eq_getElem?_getD, List.getElem?_take, if_pos h]
theorem getD_of {α : Type} {xs : List α} {j : Nat} {d x : α} (h : xs[j]? = some x) : xs.getD j d = x := by rw [List.getD_eq_getElem?_getD, h]; rfl
theorem get_getD {α : Type} {xs : List α} {j : Nat} (d : α) (h : j < xs.length) : xs[j]? = some (xs.getD j d) := by rw [List.getD_eq_getElem?_getD, List.getElem?_eq_getElem h]; rfl
end Z
/-! Y9: dicts by tuples, a method of a new object, an object's own list or dict put by what changes the object. -/
namespace Z
open PySem L2

def keysU : List U → Option (List Key) := fun us => seqO (us.map keyU)
section
variable {C : Ctx} {io : List Nat} {pe pe0 pe1 pe2 : List Sl} {a b o : ME} {as : MA} {u v x y : U} {us : List U} {i n : Nat} {cs : List Nat} {f : Str} {fs fs2 : List (Str × U)} {kvs : List (List Key × U)} {k : List Key}
theorem AllR.keys {A : AS} {h : HP} : ∀ {ds : List D} {us : List U} {k : List Key}, AllR (Rd A h) ds us → keysU us = some k → keysD ds = some k
  | ds, [], k, a, e => by cases a.inv0; exact e
  | ds, u :: us, k, a, e => by
    obtain ⟨d, t, rfl, r, a2⟩ := a.inv
    unfold keysU at e
    rw [List.map_cons] at e
    cases e1 : keyU u with
    | none => rw [e1] at e; cases e
    | some q =>
      rw [e1] at e
      have e : (seqO (us.map keyU)).map (fun l => q :: l) = some k := e
      cases e2 : seqO (us.map keyU) with
      | none => rw [e2] at e; cases e
      | some r2 =>
        rw [e2] at e; cases e
        have := AllR.keys (k := r2) a2 e2
        unfold keysD at this ⊢
        rw [List.map_cons, r.t.key e1]
        show (seqO _).map _ = _
        rw [this]; rfl
theorem o_indt (q : keysU us = some k) : O2 opIn (.tup us) (.dct kvs) (.bl (valU kvs k).isSome) := fun A h dx dy bd rx ry => by
  obtain ⟨ds, rfl, r⟩ := rx.tup
  obtain ⟨i, es, rfl, q1, a⟩ := ry.dct
  exact ⟨_, h, by simp only [opIn, inD, q1, r.keys q]; rw [a.isSome], Kq.refl, .bl⟩
theorem o_nidt (q : keysU us = some k) : O2 opNin (.tup us) (.dct kvs) (.bl (!(valU kvs k).isSome)) := fun A h dx dy bd rx ry => by
  obtain ⟨ds, rfl, r⟩ := rx.tup
  obtain ⟨i, es, rfl, q1, a⟩ := ry.dct
  exact ⟨_, h, by simp only [opNin, inD, q1, r.keys q]; rw [a.isSome], Kq.refl, .bl⟩
theorem o_ixdt (q : keysU us = some k) (w : valU kvs k = some u) : O2 opIx (.dct kvs) (.tup us) u := fun A h dx dy bd rx ry => by
  obtain ⟨i, es, rfl, q1, a⟩ := rx.dct
  obtain ⟨ds, rfl, r⟩ := ry.tup
  obtain ⟨d, e, r2⟩ := (AllK.val (k := k) a).1 u w
  exact ⟨d, h, by simp only [opIx, q1, r.keys q, e], Kq.refl, r2⟩
end
section
variable {C : Ctx} {io : List Nat} {pe pe1 : List Sl} {a : ME} {u : U} {i n : Nat} {cs : List Nat} {f : Str} {fs fs2 : List (Str × U)}
theorem s_flo' (l : pe[i]? = some (.o (.obj n fs))) (no : ownF f = true) (ha : Xf C pe a u) (hu : ∀ k g, u ≠ .obj k g) (hc : n ∈ cs) (sz : fs.length < 1000) (pf : PutF f u fs fs2) (q1 : SetO i pe (.obj n fs2) pe1) : Xs C io pe (sFl cs (eV i) f a) (.nx pe1) := s_flo l ha hu hc no sz pf q1
theorem s_fl' (l : pe[i]? = some (.o (.obj n fs))) (no : ownF f = false) (ha : Xp C pe a u) (hc : n ∈ cs) (sz : fs.length < 1000) (pf : PutF f u fs fs2) (q1 : SetO i pe (.obj n fs2) pe1) : Xs C io pe (sFl cs (eV i) f a) (.nx pe1) := s_fl l ha hc no sz pf q1
end
/-- isinstance, told at once -/
def IsU (x : U) (T : String) (b : Bool) : Prop := TyN x ≠ "" ∧ (TyN x == T || (TyN x == "bool" && T == "int")) = b
theorem isU {x : U} {T : String} {b : Bool} (h : (TyN x != "" && ((TyN x == T || (TyN x == "bool" && T == "int")) == b)) = true) : IsU x T b := by
  rw [Bool.and_eq_true, bne_iff_ne, beq_iff_eq] at h; exact h
theorem x_isU {C : Ctx} {pe : List Sl} {a : ME} {x : U} {T : String} {b : Bool} (ha : Xt C pe a x) (q : IsU x T b) : Xp C pe (eIs T a) (.bl b) := by
  have := x_is (T := T) ha q.1
  rwa [q.2] at this
theorem outU_d {c : Prop} [Decidable c] {pe : List Sl} (h : c) : OutU (.rt (.bl (decide c)) pe) (.bl true) := by show U.bl _ = U.bl _; rw [decide_eq_true h]
theorem outU_n {c : Prop} [Decidable c] {pe : List Sl} (h : ¬ c) : OutU (.rt (.bl (!decide c)) pe) (.bl true) := by show U.bl _ = U.bl _; rw [decide_eq_false h]; rfl
theorem sub_len : ∀ {α : Type} [DecidableEq α] {xs ys : List α}, xs.Nodup → (∀ x ∈ xs, x ∈ ys) → xs.length ≤ ys.length
  | _, _, [], ys, _, _ => Nat.zero_le _
  | _, _, x :: xs, ys, nd, h => by
    rw [List.nodup_cons] at nd
    have hx := h x (List.mem_cons_self ..)
    have := sub_len (xs := xs) (ys := ys.erase x) nd.2 fun y hy => (List.mem_erase_of_ne fun (e : y = x) => nd.1 (by rw [← e]; exact hy)).mpr (h y (List.mem_cons_of_mem _ hy))
    rw [List.length_erase_of_mem hx] at this
    have := List.length_pos_of_mem hx
    rw [List.length_cons]; omega
end Z
/-! YA: range with a step; reversed(range(n)). -/
namespace Z
open PySem L2
section
variable {X : Cx} {κ : Nat → Addr} {C : Ctx} {a b c tg : Expr} {ma mb mc : ME} {pos pos2 p p2 : Pos}
end
section
variable {X : Cx} {κ : Nat → Addr} {C : Ctx} {a tg : Expr} {ma : ME} {pos pos2 p p2 : Pos}
end
section
variable {C : Ctx} {pe : List Sl} {a b c : ME}
end
/-! l.index(x), by == of whole values -/
section
variable {X : Cx} {κ : Nat → Addr}
end
section
end
/-! list(range(n)) -/
section
variable {X : Cx} {κ : Nat → Addr} {C : Ctx} {a : Expr} {ma : ME} {pos pos2 p p2 : Pos}
end
/-! kinds of goals, for the rule engine -/
section
variable {C : Ctx} {io is cs : List Nat} {pe pe1 : List Sl} {a b : ME} {as : MA} {t : MT} {s w : MS} {u x y : U} {us : List U} {bb fl : Bool} {i : Nat} {q f : PF} {g : Tg} {fs fs2 : List (Str × U)} {nm : Str} {mi : MI} {mo : MO} {oi l r : Option Int} {op : D → D → HP → R D} {op1 : D → HP → R D} {bf : List D → HP → R D} {mf : D → List D → HP → R D} {ok : D → HP → Bool} {T : String} {p p2 : Prop} {d : D} {ds : List D}
class KSet (p : Prop) : Prop
instance : KSet (Tp io g pe u pe1) := ⟨⟩
instance : KSet (Tn g pe u pe1) := ⟨⟩
instance : KSet (SetS i pe u pe1) := ⟨⟩
instance : KSet (SetN i pe u pe1) := ⟨⟩
instance : KSet (SetO i pe u pe1) := ⟨⟩
instance : KSet (SetX i pe pe1) := ⟨⟩
instance : KSet (SetXN i pe pe1) := ⟨⟩
instance : KSet (WipN pe is pe1) := ⟨⟩
instance : KSet (Frz is io pe pe1) := ⟨⟩
instance : KSet (Fgt pe pe1) := ⟨⟩
instance : KSet (PutF nm u fs fs2) := ⟨⟩
instance : KSet (Seq u us) := ⟨⟩
instance : KSet (ItU u us) := ⟨⟩
theorem KSet.go {p : Prop} [KSet p] (h : p) : p := h
class KArg (p : Prop) : Prop
instance : KArg (Xa C pe as us) := ⟨⟩
instance : KArg (Xu C pe as us) := ⟨⟩
instance : KArg (Xw C pe as us fl) := ⟨⟩
instance : KArg (Xw1 C pe a u fl) := ⟨⟩
instance : KArg (SqK C io q w f) := ⟨⟩
instance : KArg (Cd bb p p2) := ⟨⟩
instance : KArg (Lent fl u) := ⟨⟩
theorem KArg.go {p : Prop} [KArg p] (h : p) : p := h
class KXs (p : Prop) : Prop
instance : KXs (Xs C io pe s q) := ⟨⟩
theorem KXs.go {p : Prop} [KXs p] (h : p) : p := h
class KXp (p : Prop) : Prop
instance : KXp (Xp C pe a u) := ⟨⟩
theorem KXp.go {p : Prop} [KXp p] (h : p) : p := h
class KXo (p : Prop) : Prop
instance : KXo (Xz C pe a u pe1) := ⟨⟩
instance : KXo (Xt C pe a u) := ⟨⟩
instance : KXo (Xf C pe a u) := ⟨⟩
instance : KXo (Xb C pe t bb) := ⟨⟩
instance : KXo (Xo C pe mo oi) := ⟨⟩
instance : KXo (Xi C pe mi us) := ⟨⟩
instance : KXo (Xj C pe mi us) := ⟨⟩
theorem KXo.go {p : Prop} [KXo p] (h : p) : p := h
class KO2 (p : Prop) : Prop
instance : KO2 (O2 op x y u) := ⟨⟩
theorem KO2.go {p : Prop} [KO2 p] (h : p) : p := h
class KOp (p : Prop) : Prop
instance : KOp (O2f op x y u) := ⟨⟩
instance : KOp (O1 op1 x u) := ⟨⟩
instance : KOp (O1f op1 x u) := ⟨⟩
instance : KOp (B1 bf us u) := ⟨⟩
instance : KOp (B1f bf us u) := ⟨⟩
instance : KOp (M1 mf x us u) := ⟨⟩
instance : KOp (M1f mf x us u) := ⟨⟩
instance : KOp (IsU x T bb) := ⟨⟩
instance : KOp (OkU ok x) := ⟨⟩
instance : KOp (S3 x l r u) := ⟨⟩
instance : KOp (S3f x l r u) := ⟨⟩
theorem KOp.go {p : Prop} [KOp p] (h : p) : p := h
class KsA (p : Prop) : Prop
instance : KsA (Xs C io pe (sFz is s) q) := ⟨⟩
instance : KsA (Xs C io pe (sSq s w) q) := ⟨⟩
instance : KsA (Xs C io pe sSk q) := ⟨⟩
instance : KsA (Xs C io pe sBk q) := ⟨⟩
instance : KsA (Xs C io pe sCt q) := ⟨⟩
instance : KsA (Xs C io pe sRN q) := ⟨⟩
instance : KsA (Xs C io pe (sIf t s w) q) := ⟨⟩
theorem KsA.go {p : Prop} [KsA p] (h : p) : p := h
class KsB (p : Prop) : Prop
instance : KsB (Xs C io pe (sEx a) q) := ⟨⟩
theorem KsB.go {p : Prop} [KsB p] (h : p) : p := h
class KsC (p : Prop) : Prop
instance : KsC (Xs C io pe (sAs g a) q) := ⟨⟩
theorem KsC.go {p : Prop} [KsC p] (h : p) : p := h
class KsD (p : Prop) : Prop
instance : KsD (Xs C io pe (sRt a) q) := ⟨⟩
theorem KsD.go {p : Prop} [KsD p] (h : p) : p := h
class KpV (p : Prop) : Prop
instance : KpV (Xp C pe (eV i) u) := ⟨⟩
instance : KpV (Xp C pe (eC d) u) := ⟨⟩
theorem KpV.go {p : Prop} [KpV p] (h : p) : p := h
class KpO (p : Prop) : Prop
instance : KpO (Xp C pe (eOp op a b) u) := ⟨⟩
theorem KpO.go {p : Prop} [KpO p] (h : p) : p := h
class KpC (p : Prop) : Prop
instance : KpC (Xp C pe (eCall i as ds) u) := ⟨⟩
theorem KpC.go {p : Prop} [KpC p] (h : p) : p := h
class KpB (p : Prop) : Prop
instance : KpB (Xp C pe (eBf bf as) u) := ⟨⟩
instance : KpB (Xp C pe (eBk ok mf a as) u) := ⟨⟩
theorem KpB.go {p : Prop} [KpB p] (h : p) : p := h
class KpF (p : Prop) : Prop
instance : KpF (Xp C pe (eFld cs a nm) u) := ⟨⟩
theorem KpF.go {p : Prop} [KpF p] (h : p) : p := h
class KoA (p : Prop) : Prop
instance : KoA (O2 opAdd x y u) := ⟨⟩
instance : KoA (O2 opSub x y u) := ⟨⟩
instance : KoA (O2 opIAdd x y u) := ⟨⟩
instance : KoA (O2 opMul x y u) := ⟨⟩
instance : KoA (O2 opDiv x y u) := ⟨⟩
instance : KoA (O2 opMod x y u) := ⟨⟩
instance : KoA (O2 opPow x y u) := ⟨⟩
theorem KoA.go {p : Prop} [KoA p] (h : p) : p := h
class KoC (p : Prop) : Prop
instance : KoC (O2 opLt x y u) := ⟨⟩
instance : KoC (O2 opLe x y u) := ⟨⟩
instance : KoC (O2 opGt x y u) := ⟨⟩
instance : KoC (O2 opGe x y u) := ⟨⟩
instance : KoC (O2 opEq x y u) := ⟨⟩
instance : KoC (O2 opNe x y u) := ⟨⟩
instance : KoC (O2 opIsN x y u) := ⟨⟩
instance : KoC (O2 opNotN x y u) := ⟨⟩
theorem KoC.go {p : Prop} [KoC p] (h : p) : p := h
class KoX (p : Prop) : Prop
instance : KoX (O2 opIx x y u) := ⟨⟩
theorem KoX.go {p : Prop} [KoX p] (h : p) : p := h
class KoI (p : Prop) : Prop
instance : KoI (O2 opIn x y u) := ⟨⟩
instance : KoI (O2 opNin x y u) := ⟨⟩
theorem KoI.go {p : Prop} [KoI p] (h : p) : p := h
end
end Z
/-! YB: a list unpacked into names. -/
namespace Z
open PySem L2 PyProof.Rows
section
variable {X : Cx} {κ : Nat → Addr} {C : Ctx} {a : Expr} {es : List Expr} {ma : ME} {pos p2 : Pos}
end
section
variable {C : Ctx} {io : List Nat} {pe pe1 : List Sl} {a : ME} {us : List U} {g : Tg}
end
end Z
/-! YC: all(list of truths). -/
namespace Z
open PySem L2 PyProof.Rows
section
variable {X : Cx} {κ : Nat → Addr}
end
end Z
/-! YD: bits. -/
namespace Z
open PySem L2 PyProof.Rows
def opShr : D → D → HP → R D := fun x y h => match x, y with
  | .int i, .int j => if 0 ≤ j then .ok (.int (i / 2 ^ j.toNat)) h else .no
  | _, _ => .no
/-- the last bit -/
def opBnd : D → D → HP → R D := fun x y h => match x, y with
  | .int i, .int j => if j = 1 then .ok (.int (i % 2)) h else .no
  | _, _ => .no
section
variable {X : Cx} {κ : Nat → Addr}
theorem od_shr : OpR X (binaryOp .RShift) (rD X.K κ opShr) := by
  intro pins s σ H x y v u Q I rx ry ⟨φ, h, dx, dy, S, qx, qy, p⟩
  unfold opShr at p
  split at p
  · split at p
    · rename_i hz
      rw [RV.int_iff] at qx qy
      exact op_shr pins s σ H _ _ v u Q I rx ry ⟨_, _, qx, qy, hz, p.of0 S (RV.int_iff.mpr rfl)⟩
    · exact False.elim p
  · exact False.elim p
theorem od_band : OpR X (binaryOp .BitAnd) (rD X.K κ opBnd) := by
  intro pins s σ H x y v u Q I rx ry ⟨φ, h, dx, dy, S, qx, qy, p⟩
  unfold opBnd at p
  split at p
  · split at p
    · rename_i hz
      rw [RV.int_iff] at qx qy
      subst hz
      exact op_andM pins s σ H _ _ v u Q I rx ry ⟨_, 1, qx, qy, p.of0 S (RV.int_iff.mpr rfl)⟩
    · exact False.elim p
  · exact False.elim p
end
theorem o_shr {p q : Int} (k : 0 ≤ q) : O2 opShr (.int p) (.int q) (.int (p / 2 ^ q.toNat)) := fun A h dx dy b rx ry => by
  rw [rx.int, ry.int]
  exact ⟨_, h, by simp only [opShr, if_pos k], Kq.refl, .int⟩
theorem o_band {p : Int} : O2 opBnd (.int p) (.int 1) (.int (p % 2)) := fun A h dx dy b rx ry => by
  rw [rx.int, ry.int]
  exact ⟨_, h, by simp only [opBnd, if_true], Kq.refl, .int⟩
end Z
/-! The defs of the law, printed by gen.py. -/
namespace Z.k58
open PySem L2 Z
def b_m_Rings_init_1 : MS :=
    (sSq (sAs (gN 4) (eBf bSum (aC (eLc [6] (gN 6) (iA (eOp opIx (eFld [6] (eV 0) "named") (eV 3))) tY (eOp opIx (eFld [6] (eV 0) "counts") (eV 6))) aN)))
    (sSq (sIf (tV (eOp opEq (eOp opIx (eOp opIx (eFld [6, 1] (eV 0) "forms") (eV 3)) (eC (.int 0))) (eC (.str "ring")))) (sAs (gN 4) (eBf bInt (aC (eOp opEq (eOp opIx (eOp opIx (eFld [6, 1] (eV 0) "forms") (eV 3)) (eC (.int 1))) (eV 2)) aN))) sSk)
    (sSq (sIf (tV (eOp opEq (eOp opIx (eOp opIx (eFld [6, 1] (eV 0) "forms") (eV 3)) (eC (.int 0))) (eC (.str "again")))) (sAs (gN 4) (eOp opMul (eV 4) (eOp opIx (eOp opIx (eFld [6, 1] (eV 0) "forms") (eV 3)) (eC (.int 1))))) sSk)
    (sEx (eBk okL mApp (eFld [6] (eV 0) "counts") (aC (eV 4) aN))))))
/-- __init__(self, book, word, k, told, part, one) -/
def f_m_Rings_init : Fn := ⟨3, 7,
    (sSq (sFl [6, 1] (eV 0) "forms" (eLc [5] (gN 5) (iA (eOp opIx (eV 1) (eC (.int 1)))) tY (eOp opIx (eV 5) (eC (.int 1)))))
    (sSq (sFl [6] (eV 0) "named" (eCall 89 (aC (eV 1) aN) []))
    (sSq (sFl [6] (eV 0) "long" (eCall 72 (aC (eV 1) aN) []))
    (sSq (sFl [6] (eV 0) "counts" (eLst aN))
    (sFo (gN 3) (iR1 (eBf bLen (aC (eFld [6, 1] (eV 0) "forms") aN))) b_m_Rings_init_1)))))⟩
def b_m_Rings_part_rung_1 : MS :=
    (sSq (sAu 5 opIAdd (eMeth [6] (eV 0) 19 "part_rung" (aC (eV 6) (aC (eV 2) aN))))
    (sIf (tV (eOp opEq (eOp opIx (eOp opIx (eFld [6, 1] (eV 0) "forms") (eV 1)) (eC (.int 0))) (eC (.str "row")))) (sAs (gN 2) (eBf bMax (aC (eC (.int 0)) (aC (eOp opSub (eV 2) (eOp opIx (eFld [6] (eV 0) "long") (eV 6))) aN)))) sSk))
/-- part_rung(self, k, many, turns, rest, told, one) -/
def f_m_Rings_part_rung : Fn := ⟨3, 7,
    (sSq (sIf (tOr (tV (eOp opGe (eV 2) (eOp opIx (eFld [6] (eV 0) "long") (eV 1)))) (tOr (tV (eOp opEq (eV 2) (eC (.int 0)))) (tV (eOp opEq (eOp opIx (eFld [6] (eV 0) "counts") (eV 1)) (eC (.int 0)))))) (sRt (eOp opMul (eOp opIx (eFld [6] (eV 0) "counts") (eV 1)) (eBf bInt (aC (eOp opGt (eV 2) (eC (.int 0))) aN)))) sSk)
    (sSq (sIf (tV (eOp opEq (eOp opIx (eOp opIx (eFld [6, 1] (eV 0) "forms") (eV 1)) (eC (.int 0))) (eC (.str "again")))) (sSq (sAs (gT [3, 4]) (eBf bDvm (aC (eV 2) (aC (eOp opIx (eFld [6] (eV 0) "long") (eOp opIx (eOp opIx (eFld [6] (eV 0) "named") (eV 1)) (eC (.int 0)))) aN))))
    (sRt (eOp opAdd (eOp opMul (eV 3) (eOp opIx (eFld [6] (eV 0) "counts") (eOp opIx (eOp opIx (eFld [6] (eV 0) "named") (eV 1)) (eC (.int 0))))) (eMeth [6] (eV 0) 19 "part_rung" (aC (eOp opIx (eOp opIx (eFld [6] (eV 0) "named") (eV 1)) (eC (.int 0))) (aC (eV 4) aN)))))) sSk)
    (sSq (sAs (gN 5) (eBf bInt (aC (eOp opEq (eOp opIx (eOp opIx (eFld [6, 1] (eV 0) "forms") (eV 1)) (eC (.int 0))) (eC (.str "ring"))) aN)))
    (sSq (sFo (gN 6) (iA (eOp opIx (eFld [6] (eV 0) "named") (eV 1))) b_m_Rings_part_rung_1)
    (sRt (eV 5))))))⟩
/-- ahead(self, beat) -/
def f_m_Rings_ahead : Fn := ⟨2, 2,
    (sRt (eMeth [6] (eV 0) 19 "part_rung" (aC (eOp opSub (eBf bLen (aC (eFld [6, 1] (eV 0) "forms") aN)) (eC (.int 1))) (aC (eV 1) aN))))⟩
def b_m_Guide_init_1 : MS :=
    (sSt stD (eFld [1] (eV 0) "numbers") (eOp opIx (eV 3) (eC (.int 0))) (eV 2))
def b_m_Guide_init_2 : MS :=
    (sSt stD (eFld [1] (eV 0) "limbs") (eOp opIx (eV 4) (eC (.int 0))) (eV 2))
/-- __init__(self, book, number, part, limb, name, form) -/
def f_m_Guide_init : Fn := ⟨2, 7,
    (sSq (sFl [6, 1] (eV 0) "forms" (eLc [5, 6] (gT [5, 6]) (iA (eOp opIx (eV 1) (eC (.int 1)))) tY (eV 6)))
    (sSq (sFl [1] (eV 0) "numbers" eDiK)
    (sSq (sFo (gT [2, 3]) (iEn (eOp opIx (eV 1) (eC (.int 1)))) b_m_Guide_init_1)
    (sSq (sFl [1] (eV 0) "limbs" eDiK)
    (sSq (sFo (gT [2, 4]) (iEn (eOp opIx (eV 1) (eC (.int 0)))) b_m_Guide_init_2)
    (sSq (sFl [1] (eV 0) "lengths" (eCall 72 (aC (eV 1) aN) []))
    (sFl [1] (eV 0) "ends" (eCall 76 (aC (eV 1) aN) []))))))))⟩
/-- look_at(self, beat) -/
def f_m_Guide_look_at : Fn := ⟨2, 2,
    (sSq (sIf (tOr (tV (eOp opLt (eV 1) (eC (.int 0)))) (tV (eOp opGt (eV 1) (eOp opIx (eFld [1] (eV 0) "lengths") (eUn opNeg (eC (.int 1))))))) sNo sSk)
    (sRt (eOp opEq (eV 1) (eOp opIx (eFld [1] (eV 0) "lengths") (eUn opNeg (eC (.int 1)))))))⟩
/-- leave(self, number, heights) -/
def f_m_Guide_leave : Fn := ⟨3, 3,
    (sEx (eCall 94 (aC (eC (.int 0)) aN) []))⟩
/-- put(self, number, beat, heights) -/
def f_m_Guide_put : Fn := ⟨4, 4,
    (sEx (eCall 94 (aC (eC (.int 1)) aN) []))⟩
/-- put_beside(self, number, beat, heights) -/
def f_m_Guide_put_beside : Fn := ⟨4, 4,
    (sEx (eCall 94 (aC (eC (.int 2)) aN) []))⟩
/-- put_in_row(self, numbers, beat, heights) -/
def f_m_Guide_put_in_row : Fn := ⟨4, 4,
    (sEx (eCall 94 (aC (eC (.int 3)) aN) []))⟩
def b_m_Guide_words_1 : MS :=
    (sSq (sAs (gN 4) (eOp opIx (eFld [1] (eV 0) "numbers") (eV 6)))
    (sSq (sIf (tV (eOp opGe (eV 2) (eC (.int 0)))) (sEx (eBk okL mExt (eV 5) (aC (eMeth [1] (eV 0) 4 "words" (aC (eV 4) (aC (eV 2) aN))) aN))) sSk)
    (sIf (tV (eOp opEq (eOp opIx (eV 3) (eC (.int 0))) (eC (.str "row")))) (sAs (gN 2) (eOp opSub (eV 2) (eOp opIx (eFld [1] (eV 0) "lengths") (eV 4)))) sSk)))
/-- words(self, number, beat, form, inner, found, name) -/
def f_m_Guide_words : Fn := ⟨3, 7,
    (sSq (sAs (gN 3) (eOp opIx (eFld [6, 1] (eV 0) "forms") (eV 1)))
    (sSq (sIf (tOr (tV (eOp opGe (eV 2) (eOp opIx (eFld [1] (eV 0) "lengths") (eV 1)))) (tOr (tV (eOp opEq (eOp opIx (eV 3) (eC (.int 0))) (eC (.str "raise")))) (tV (eOp opEq (eOp opIx (eV 3) (eC (.int 0))) (eC (.str "hold")))))) (sRt (eLst aN)) sSk)
    (sSq (sIf (tV (eOp opEq (eOp opIx (eV 3) (eC (.int 0))) (eC (.str "ring")))) (sRt (eIf (tV (eOp opEq (eV 2) (eC (.int 0)))) (eLst (aC (eOp opIx (eV 3) (eC (.int 1))) aN)) (eLst aN))) sSk)
    (sSq (sIf (tV (eOp opEq (eOp opIx (eV 3) (eC (.int 0))) (eC (.str "again")))) (sSq (sAs (gN 4) (eOp opIx (eFld [1] (eV 0) "numbers") (eOp opIx (eV 3) (eC (.int 2)))))
    (sRt (eMeth [1] (eV 0) 4 "words" (aC (eV 4) (aC (eOp opMod (eV 2) (eOp opIx (eFld [1] (eV 0) "lengths") (eV 4))) aN))))) sSk)
    (sSq (sAs (gNo 5) (eLst aN))
    (sSq (sFo (gN 6) (iA (eOp opIx (eV 3) (eC (.int 1)))) b_m_Guide_words_1)
    (sRt (eV 5))))))))⟩
def b__wall_1 : MS :=
    sSk
/-- _wall(k) -/
def f__wall : Fn := ⟨1, 1,
    (sWh (tV (eC (.bl true))) b__wall_1)⟩
def b_numbers_of_1 : MS :=
    (sSt stD (eV 1) (eOp opIx (eV 3) (eC (.int 0))) (eV 2))
/-- numbers_of(rows, numbers, number, row) -/
def f_numbers_of : Fn := ⟨1, 4,
    (sSq (sAs (gNo 1) eDiK)
    (sSq (sFo (gT [2, 3]) (iEn (eV 0)) b_numbers_of_1)
    (sRt (eV 1))))⟩
/-- named(form, numbers, name) -/
def f_named : Fn := ⟨2, 3,
    (sSq (sIf (tOr (tV (eOp opEq (eOp opIx (eV 0) (eC (.int 0))) (eC (.str "row")))) (tV (eOp opEq (eOp opIx (eV 0) (eC (.int 0))) (eC (.str "side"))))) (sRt (eLc [2] (gN 2) (iA (eOp opIx (eV 0) (eC (.int 1)))) tY (eOp opIx (eV 1) (eV 2)))) sSk)
    (sSq (sIf (tV (eOp opEq (eOp opIx (eV 0) (eC (.int 0))) (eC (.str "again")))) (sRt (eLst (aC (eOp opIx (eV 1) (eOp opIx (eV 0) (eC (.int 2)))) aN))) sSk)
    (sRt (eLst aN))))⟩
def b_moved_1 : MS :=
    (sEx (eBk okL mExt (eV 6) (aC (eOp opIx (eV 3) (eV 7)) aN)))
def b_moved_2 : MS :=
    (sSq (sAs (gNo 6) (eLst aN))
    (sSq (sIf (tV (eOp opEq (eOp opIx (eV 5) (eC (.int 0))) (eC (.str "raise")))) (sEx (eBk okL mApp (eV 6) (aC (eOp opIx (eV 1) (eOp opIx (eV 5) (eC (.int 1)))) aN))) sSk)
    (sSq (sFo (gN 7) (iA (eCall 62 (aC (eV 5) (aC (eV 2) aN)) [])) b_moved_1)
    (sEx (eBk okL mApp (eV 3) (aC (eUn bSrS (eV 6)) aN))))))
/-- moved(book, hands, numbers, told, name, form, limbs, number) -/
def f_moved : Fn := ⟨1, 8,
    (sSq (sAs (gN 1) (eCall 61 (aC (eOp opIx (eV 0) (eC (.int 0))) aN) []))
    (sSq (sAs (gN 2) (eCall 61 (aC (eOp opIx (eV 0) (eC (.int 1))) aN) []))
    (sSq (sAs (gNo 3) (eLst aN))
    (sSq (sFo (gT [4, 5]) (iA (eOp opIx (eV 0) (eC (.int 1)))) b_moved_2)
    (sRt (eV 3))))))⟩
/-- length_of(form, below) -/
def f_length_of : Fn := ⟨2, 2,
    (sSq (sIf (tV (eOp opEq (eOp opIx (eV 0) (eC (.int 0))) (eC (.str "row")))) (sRt (eBf bSum (aC (eV 1) aN))) sSk)
    (sSq (sIf (tV (eOp opEq (eOp opIx (eV 0) (eC (.int 0))) (eC (.str "side")))) (sRt (eBf bMax (aC (eV 1) aN))) sSk)
    (sSq (sIf (tV (eOp opEq (eOp opIx (eV 0) (eC (.int 0))) (eC (.str "again")))) (sRt (eOp opMul (eOp opIx (eV 0) (eC (.int 1))) (eOp opIx (eV 1) (eC (.int 0))))) sSk)
    (sRt (eOp opIx (eV 0) (eUn opNeg (eC (.int 1))))))))⟩
def b_look_at_side_1 : MS :=
    (sIf (tV (eOp opGt (eBf bLen (aC (eLc [4] (gN 4) (iA (eV 2)) (tV (eOp opIn (eV 3) (eV 4))) (eV 4)) aN)) (eC (.int 1)))) sNo sSk)
/-- look_at_side(book, number, limbs, limb, some) -/
def f_look_at_side : Fn := ⟨3, 5,
    (sSq (sIf (tV (eOp opIn (eLst aN) (eV 2))) sNo sSk)
    (sFo (gN 3) (iR1 (eBf bLen (aC (eOp opIx (eV 0) (eC (.int 0))) aN))) b_look_at_side_1))⟩
def b_lengths_1 : MS :=
    (sSq (sAs (gN 6) (eCall 62 (aC (eOp opIx (eV 5) (eC (.int 1))) (aC (eV 1) aN)) []))
    (sSq (sIf (tV (eOp opEq (eOp opIx (eOp opIx (eV 5) (eC (.int 1))) (eC (.int 0))) (eC (.str "side")))) (sEx (eCall 71 (aC (eV 0) (aC (eV 4) (aC (eLc [7] (gN 7) (iA (eV 6)) tY (eOp opIx (eV 2) (eV 7))) aN))) [])) sSk)
    (sSq (sEx (eBk okL mApp (eV 3) (aC (eCall 70 (aC (eOp opIx (eV 5) (eC (.int 1))) (aC (eLc [7] (gN 7) (iA (eV 6)) tY (eOp opIx (eV 3) (eV 7))) aN)) []) aN)))
    (sIf (tV (eOp opGt (eOp opIx (eV 3) (eUn opNeg (eC (.int 1)))) (eC (.int 1000000000000000000000000000000000000000000000000000000000000)))) sNo sSk))))
/-- lengths(book, numbers, limbs, told, number, part, below, one) -/
def f_lengths : Fn := ⟨1, 8,
    (sSq (sAs (gN 1) (eCall 61 (aC (eOp opIx (eV 0) (eC (.int 1))) aN) []))
    (sSq (sAs (gN 2) (eCall 63 (aC (eV 0) aN) []))
    (sSq (sAs (gNo 3) (eLst aN))
    (sSq (sFo (gT [4, 5]) (iEn (eOp opIx (eV 0) (eC (.int 1)))) b_lengths_1)
    (sRt (eV 3))))))⟩
def b_ends_1 : MS :=
    (sSt stD (eV 6) (eV 8) (eV 9))
def b_ends_2 : MS :=
    (sFo (gT [8, 9]) (iA (eOp opIx (eV 3) (eV 7))) b_ends_1)
def b_ends_3 : MS :=
    (sSq (sAs (gNo 6) eDiK)
    (sSq (sIf (tV (eOp opEq (eOp opIx (eV 5) (eC (.int 0))) (eC (.str "raise")))) (sSt stD (eV 6) (eOp opIx (eV 1) (eOp opIx (eV 5) (eC (.int 1)))) (eOp opIx (eV 5) (eC (.int 2)))) sSk)
    (sSq (sFo (gN 7) (iA (eCall 62 (aC (eV 5) (aC (eV 2) aN)) [])) b_ends_2)
    (sEx (eBk okL mApp (eV 3) (aC (eLc [8] (gN 8) (iA (eBf bSr2 (aC (eV 6) aN))) tY (eTup (aC (eV 8) (aC (eOp opIx (eV 6) (eV 8)) aN)))) aN))))))
/-- ends(book, hands, numbers, told, name, form, left, number, limb, height) -/
def f_ends : Fn := ⟨1, 10,
    (sSq (sAs (gN 1) (eCall 61 (aC (eOp opIx (eV 0) (eC (.int 0))) aN) []))
    (sSq (sAs (gN 2) (eCall 61 (aC (eOp opIx (eV 0) (eC (.int 1))) aN) []))
    (sSq (sAs (gNo 3) (eLst aN))
    (sSq (sFo (gT [4, 5]) (iA (eOp opIx (eV 0) (eC (.int 1)))) b_ends_3)
    (sRt (eV 3))))))⟩
def b_inner_parts_1 : MS :=
    (sSq (sAs (gN 5) (eOp opIx (eV 4) (eC (.int 1))))
    (sSq (sAs (gN 6) (eLst aN))
    (sSq (sIf (tOr (tV (eOp opEq (eOp opIx (eV 5) (eC (.int 0))) (eC (.str "row")))) (tV (eOp opEq (eOp opIx (eV 5) (eC (.int 0))) (eC (.str "side"))))) (sAs (gN 6) (eLc [7] (gN 7) (iA (eOp opIx (eV 5) (eC (.int 1)))) tY (eOp opIx (eV 1) (eV 7)))) sSk)
    (sSq (sIf (tV (eOp opEq (eOp opIx (eV 5) (eC (.int 0))) (eC (.str "again")))) (sAs (gN 6) (eLst (aC (eOp opIx (eV 1) (eOp opIx (eV 5) (eC (.int 2)))) aN))) sSk)
    (sSq (sEx (eBk okL mApp (eV 2) (aC (eV 6) aN)))
    (sSt stD (eV 1) (eOp opIx (eV 4) (eC (.int 0))) (eV 3)))))))
/-- inner_parts(book, known, told, number, part, form, named, name) -/
def f_inner_parts : Fn := ⟨1, 8,
    (sSq (sAs (gNo 1) eDiK)
    (sSq (sAs (gNo 2) (eLst aN))
    (sSq (sFo (gT [3, 4]) (iEn (eOp opIx (eV 0) (eC (.int 1)))) b_inner_parts_1)
    (sRt (eV 2)))))⟩
/-- look_at_beat(beat, last) -/
def f_look_at_beat : Fn := ⟨2, 2,
    (sIf (tOr (tV (eOp opLt (eV 0) (eC (.int 0)))) (tV (eOp opGt (eV 0) (eV 1)))) sNo sSk)⟩
/-- ring_count(book, word, beat) -/
def f_ring_count : Fn := ⟨3, 3,
    (sSq (sEx (eCall 90 (aC (eV 2) (aC (eOp opAdd (eOp opIx (eCall 72 (aC (eV 0) aN) []) (eUn opNeg (eC (.int 1)))) (eC (.int 1))) aN)) []))
    (sRt (eMeth [6] (eMake 6 (aC (eV 0) (aC (eV 1) aN))) 9 "ahead" (aC (eV 2) aN))))⟩
def b_first_beyond_1 : MS :=
    (sSq (sAs (gN 4) (eOp opDiv (eOp opAdd (eV 2) (eV 3)) (eC (.int 2))))
    (sIf (tV (eOp opGt (eMeth [6] (eV 0) 9 "ahead" (aC (eOp opAdd (eV 4) (eC (.int 1))) aN)) (eV 1))) (sAs (gN 3) (eV 4)) (sAs (gN 2) (eOp opAdd (eV 4) (eC (.int 1))))))
/-- first_beyond(counted, number, low, high, middle) -/
def f_first_beyond : Fn := ⟨4, 5,
    (sSq (sWh (tV (eOp opLt (eV 2) (eV 3))) b_first_beyond_1)
    (sRt (eV 2)))⟩
/-- ring_beat(book, word, number, last, counted) -/
def f_ring_beat : Fn := ⟨3, 5,
    (sSq (sAs (gN 3) (eOp opIx (eCall 72 (aC (eV 0) aN) []) (eUn opNeg (eC (.int 1)))))
    (sSq (sAs (gN 4) (eMake 6 (aC (eV 0) (aC (eV 1) aN))))
    (sSq (sIf (tV (eOp opLe (eMeth [6] (eV 4) 9 "ahead" (aC (eOp opAdd (eV 3) (eC (.int 1))) aN)) (eV 2))) (sRt (eC .non)) sSk)
    (sRt (eCall 193 (aC (eV 4) (aC (eV 2) (aC (eC (.int 0)) (aC (eV 3) aN)))) [])))))⟩
def b_whole_steps_1 : MS :=
    (sSq (sAs (gT [4, 5]) (eBf bDvm (aC (eV 0) (aC (eV 1) aN))))
    (sSq (sPr 0 1 (eV 1) (eV 5))
    (sPr 2 3 (eV 3) (eOp opSub (eV 2) (eOp opMul (eV 4) (eV 3))))))
/-- whole_steps(one, other, times, later, share, rest) -/
def f_whole_steps : Fn := ⟨2, 6,
    (sSq (sAs (gN 2) (eC (.int 1)))
    (sSq (sAs (gN 3) (eC (.int 0)))
    (sSq (sWh (tV (eOp opGt (eV 1) (eC (.int 0)))) b_whole_steps_1)
    (sRt (eTup (aC (eV 0) (aC (eV 2) aN)))))))⟩
/-- joined(beat, turn, other, other_turn, common, times, share, whole) -/
def f_joined : Fn := ⟨4, 8,
    (sSq (sAs (gT [4, 5]) (eCall 159 (aC (eV 1) (aC (eV 3) aN)) []))
    (sSq (sIf (tV (eOp opNe (eOp opMod (eOp opSub (eV 2) (eV 0)) (eV 4)) (eC (.int 0)))) (sRt (eC .non)) sSk)
    (sSq (sAs (gN 6) (eOp opMod (eOp opMul (eOp opDiv (eOp opSub (eV 2) (eV 0)) (eV 4)) (eV 5)) (eOp opDiv (eV 3) (eV 4))))
    (sSq (sAs (gN 7) (eOp opMul (eV 1) (eOp opDiv (eV 3) (eV 4))))
    (sRt (eTup (aC (eOp opMod (eOp opAdd (eV 0) (eOp opMul (eV 1) (eV 6))) (eV 7)) (aC (eV 7) aN))))))))⟩
def b_beats_of_1 : MS :=
    (sSq (sAs (gN 5) (eCall 194 (aC (eV 0) (aC (eV 1) (aC (eV 4) aN))) []))
    (sIf (tV (eOp opNin (eV 5) (eV 3))) (sEx (eBk okL mApp (eV 3) (aC (eV 5) aN))) sSk))
/-- beats_of(book, word, many, found, number, beat) -/
def f_beats_of : Fn := ⟨2, 6,
    (sSq (sAs (gN 2) (eCall 93 (aC (eV 0) (aC (eV 1) (aC (eOp opIx (eCall 72 (aC (eV 0) aN) []) (eUn opNeg (eC (.int 1)))) aN))) []))
    (sSq (sIf (tV (eOp opGt (eV 2) (eC (.int 12)))) sNo sSk)
    (sSq (sAs (gNo 3) (eLst aN))
    (sSq (sFo (gN 4) (iR1 (eV 2)) b_beats_of_1)
    (sRt (eV 3))))))⟩
def b_meeting_1 : MS :=
    (sEx (eBk okL mExt (eV 8) (aC (eLc [14] (gN 14) (iA (eV 6)) tY (eCall 158 (aC (eV 9) (aC (eV 10) (aC (eV 14) (aC (eV 7) aN)))) [])) aN)))
def b_meeting_2 : MS :=
    (sSq (sAs (gN 7) (eOp opIx (eCall 72 (aC (eV 5) aN) []) (eUn opNeg (eC (.int 1)))))
    (sSq (sAs (gNo 8) (eLst aN))
    (sSq (sFo (gT [9, 10]) (iA (eV 4)) b_meeting_1)
    (sAs (gN 4) (eLc [15] (gN 15) (iA (eV 8)) (tV (eOp opNotN (eV 15) (eC .non))) (eV 15))))))
def b_meeting_3 : MS :=
    (sSq (sAs (gN 12) (eOp opAdd (eV 9) (eOp opMul (eBf bMax (aC (eC (.int 0)) (aC (eOp opDiv (eOp opSub (eOp opAdd (eOp opSub (eV 2) (eV 9)) (eV 10)) (eC (.int 1))) (eV 10)) aN))) (eV 10))))
    (sIf (tOr (tV (eOp opIsN (eV 11) (eC .non))) (tV (eOp opLt (eV 12) (eV 11)))) (sAs (gN 11) (eV 12)) sSk))
/-- meeting(books, words, beat, rung, rows, book, some, long, both, first, whole, found, here, word, other, row) -/
def f_meeting : Fn := ⟨3, 16,
    (sSq (sAs (gN 3) (eLc [5, 13] (gT [5, 13]) (iZp (eV 0) (eV 1)) tY (eCall 234 (aC (eV 5) (aC (eV 13) aN)) [])))
    (sSq (sAs (gN 4) (eLst (aC (eTup (aC (eC (.int 0)) (aC (eC (.int 1)) aN))) aN)))
    (sSq (sFo (gT [5, 6]) (iZp (eV 0) (eV 3)) b_meeting_2)
    (sSq (sAs (gN 11) (eC .non))
    (sSq (sFo (gT [9, 10]) (iA (eV 4)) b_meeting_3)
    (sRt (eV 11)))))))⟩
/-- rings(book, beat, guide) -/
def f_rings : Fn := ⟨2, 3,
    (sSq (sAs (gN 2) (eMake 1 (aC (eV 0) aN)))
    (sSq (sIf (tV (eMeth [1] (eV 2) 1 "look_at" (aC (eV 1) aN))) (sRt (eLst aN)) sSk)
    (sRt (eMeth [1] (eV 2) 4 "words" (aC (eOp opSub (eBf bLen (aC (eOp opIx (eV 0) (eC (.int 1))) aN)) (eC (.int 1))) (aC (eV 1) aN))))))⟩
/-- turn_of(book, beat) -/
def f_turn_of : Fn := ⟨2, 2,
    (sSq (sIf (tV (eOp opLt (eV 1) (eC (.int 0)))) sNo sSk)
    (sRt (eBf bDvm (aC (eV 1) (aC (eOp opIx (eCall 72 (aC (eV 0) aN) []) (eUn opNeg (eC (.int 1)))) aN)))))⟩
/-- rings_ever(book, beat) -/
def f_rings_ever : Fn := ⟨2, 2,
    (sRt (eCall 170 (aC (eV 0) (aC (eOp opIx (eCall 229 (aC (eV 0) (aC (eV 1) aN)) []) (eC (.int 1))) aN)) []))⟩
/-- _law_cell_at(script, k) -/
def f_l_cell_at : Fn := ⟨2, 2,
    (sSq (sIf (tV (eOp opLt (eV 1) (eBf bLen (aC (eV 0) aN)))) (sRt (eOp opIx (eV 0) (eV 1))) sSk)
    (sRt (eC (.int 0))))⟩
/-- _law_big(cell, most) -/
def f_l_big : Fn := ⟨2, 2,
    (sSq (sIf (tV (eOp opEq (eOp opMod (eV 0) (eC (.int 3))) (eC (.int 0)))) (sRt (eOp opMod (eOp opMod (eOp opDiv (eV 0) (eC (.int 3))) (eC (.int 7))) (eV 1))) sSk)
    (sSq (sIf (tV (eOp opEq (eOp opMod (eV 0) (eC (.int 3))) (eC (.int 1)))) (sRt (eOp opMod (eOp opMod (eOp opDiv (eV 0) (eC (.int 3))) (eC (.int 1000))) (eV 1))) sSk)
    (sRt (eOp opMod (eOp opMul (eOp opDiv (eV 0) (eC (.int 3))) (eC (.int 982451653))) (eV 1)))))⟩
/-- _law_book(cells, share, keep, waits, rungs, parts, cell) -/
def f_l_book : Fn := ⟨3, 7,
    (sSq (sAs (gNo 3) (eLc [6] (gN 6) (iA (eV 0)) tY (eOp opAdd (eC (.int 1)) (eCall 189 (aC (eV 6) (aC (eOp opPow (eC (.int 10)) (eC (.int 17))) aN)) []))))
    (sSq (sSt stD (eV 3) (eC (.int 2)) (eOp opAdd (eOp opIx (eV 3) (eC (.int 2))) (eOp opMod (eOp opSub (eOp opSub (eC (.int 0)) (eBf bSum (aC (eV 3) aN))) (eC (.int 2))) (eV 1))))
    (sSq (sAs (gNo 4) (eLst (aC (eTup (aC (eC (.str "ring")) (aC (eC (.str "bell")) (aC (eC (.int 1)) aN)))) (aC (eTup (aC (eC (.str "ring")) (aC (eC (.str "bell")) (aC (eC (.int 1)) aN)))) aN))))
    (sSq (sIf (tV (eOp opNotN (eV 2) (eC .non))) (sSt stD (eV 4) (eOp opSub (eC (.int 1)) (eV 2)) (eTup (aC (eC (.str "hold")) (aC (eC (.int 1)) aN)))) sSk)
    (sSq (sAs (gN 5) (eLst (aC (eTup (aC (eC (.str "a")) (aC (eTup (aC (eC (.str "hold")) (aC (eOp opIx (eV 3) (eC (.int 0))) aN))) aN))) (aC (eTup (aC (eC (.str "b")) (aC (eOp opIx (eV 4) (eC (.int 0))) aN))) (aC (eTup (aC (eC (.str "c")) (aC (eTup (aC (eC (.str "hold")) (aC (eOp opIx (eV 3) (eC (.int 1))) aN))) aN))) (aC (eTup (aC (eC (.str "d")) (aC (eOp opIx (eV 4) (eC (.int 1))) aN))) aN))))))
    (sSq (sAs (gN 5) (eOp opAdd (eV 5) (eLst (aC (eTup (aC (eC (.str "e")) (aC (eTup (aC (eC (.str "hold")) (aC (eOp opIx (eV 3) (eC (.int 2))) aN))) aN))) (aC (eTup (aC (eC (.str "play")) (aC (eTup (aC (eC (.str "row")) (aC (eTup (aC (eC (.str "a")) (aC (eC (.str "b")) (aC (eC (.str "c")) (aC (eC (.str "d")) (aC (eC (.str "e")) aN)))))) aN))) aN))) aN)))))
    (sRt (eTup (aC (eLst (aC (eTup (aC (eC (.str "arm")) (aC (eC (.int 0)) aN))) aN)) (aC (eV 5) aN))))))))))⟩
def b_l_books_1 : MS :=
    (sSq (sAs (gN 4) (eLc [6] (gN 6) (iR1 (eC (.int 3))) tY (eCall 2 (aC (eV 0) (aC (eOp opAdd (eOp opAdd (eC (.int 2)) (eOp opMul (eC (.int 4)) (eV 3))) (eV 6)) aN)) [])))
    (sSq (sAs (gN 5) (eOp opIx (eLst (aC (eC (.int 1)) (aC (eC (.int 6)) (aC (eC (.int 10)) (aC (eC (.int 1000003)) (aC (eC (.int 15)) aN)))))) (eOp opMod (eCall 2 (aC (eV 0) (aC (eOp opAdd (eC (.int 1)) (eOp opMul (eC (.int 4)) (eV 3))) aN)) []) (eC (.int 5)))))
    (sEx (eBk okL mApp (eV 2) (aC (eCall 256 (aC (eV 4) (aC (eV 5) (aC (eOp opIx (eV 1) (eV 3)) aN))) []) aN)))))
/-- _law_books(script, keeps, books, k, cells, share, j) -/
def f_l_books : Fn := ⟨2, 7,
    (sSq (sAs (gNo 2) (eLst aN))
    (sSq (sFo (gN 3) (iR1 (eBf bLen (aC (eV 1) aN))) b_l_books_1)
    (sRt (eV 2))))⟩
def b_l_least_1 : MS :=
    (sIf (tV (eOp opLt (eV 5) (eOp opIx (eLst (aC (eC (.int 1)) (aC (eC (.int 2)) (aC (eC (.int 4)) (aC (eC (.int 8)) aN))))) (eV 1)))) (sSq (sAs (gN 6) (eLc [8] (gN 8) (iR1 (eV 1)) tY (eOp opBnd (eOp opShr (eV 5) (eV 8)) (eC (.int 1)))))
    (sSq (sAs (gN 7) (eCall 235 (aC (eCall 257 (aC (eV 0) (aC (eV 6) aN)) []) (aC (eV 2) (aC (eV 3) aN))) []))
    (sIf (tAn (tV (eOp opNotN (eV 7) (eC .non))) (tOr (tV (eOp opIsN (eV 4) (eC .non))) (tV (eOp opLt (eV 7) (eV 4))))) (sAs (gN 4) (eV 7)) sSk))) sSk)
/-- _law_least(script, many, words, beat, found, choice, keeps, here, k) -/
def f_l_least : Fn := ⟨4, 9,
    (sSq (sAs (gN 4) (eC .non))
    (sSq (sFo (gN 5) (iR1 (eOp opPow (eC (.int 2)) (eC (.int 3)))) b_l_least_1)
    (sRt (eV 4))))⟩
def b_law_1 : MS :=
    (sIf (tAn (tV (eOp opNotN (eV 6) (eC .non))) (tV (eOp opNe (eCall 231 (aC (eV 8) (aC (eV 6) aN)) []) (eLst (aC (eC (.str "bell")) aN))))) (sRt (eC (.bl false))) sSk)
def b_law_2 : MS :=
    (sSq (sAs (gN 5) (eCall 189 (aC (eOp opDiv (eV 4) (eC (.int 2))) (aC (eOp opIx (eLst (aC (eC (.int 1000)) (aC (eOp opPow (eC (.int 10)) (eC (.int 60))) aN))) (eOp opMod (eV 4) (eC (.int 2)))) aN)) []))
    (sSq (sAs (gN 6) (eCall 235 (aC (eV 2) (aC (eV 3) (aC (eV 5) aN))) []))
    (sSq (sAs (gN 7) (eCall 258 (aC (eV 0) (aC (eV 1) (aC (eV 3) (aC (eV 5) aN)))) []))
    (sSq (sIf (tOr (tAn (tV (eOp opIsN (eV 7) (eC .non))) (tV (eOp opNotN (eV 6) (eC .non)))) (tAn (tV (eOp opNotN (eV 7) (eC .non))) (tOr (tNt (tV (eIs "int" (eV 6)))) (tV (eOp opNe (eV 6) (eV 7)))))) (sRt (eC (.bl false))) sSk)
    (sFo (gN 8) (iA (eV 2)) b_law_1)))))
/-- law(script, many, books, words, cell, beat, found, due, book) -/
def f_law : Fn := ⟨1, 9,
    (sSq (sAs (gN 1) (eOp opAdd (eC (.int 2)) (eOp opMod (eCall 2 (aC (eV 0) (aC (eC (.int 0)) aN)) []) (eC (.int 2)))))
    (sSq (sAs (gN 2) (eCall 257 (aC (eV 0) (aC (eOp opMul (eLst (aC (eC .non) aN)) (eV 1)) aN)) []))
    (sSq (sAs (gN 3) (eOp opMul (eLst (aC (eC (.str "bell")) aN)) (eV 1)))
    (sSq (sFo (gN 4) (iA (eOp opAdd (eLst (aC (eC (.int 0)) aN)) (eSl opSl (eV 0) (oS (eC (.int 14))) (oS (eC (.int 18)))))) b_law_2)
    (sRt (eOp opEq (eCall 235 (aC (eV 2) (aC (eV 3) aN)) [.int 0]) (eCall 235 (aC (eV 2) (aC (eV 3) (aC (eC (.int 0)) aN))) [])))))))⟩
def T : Tbl := ⟨fun f => match f with
  | 94 => some f__wall
  | 61 => some f_numbers_of
  | 62 => some f_named
  | 63 => some f_moved
  | 70 => some f_length_of
  | 71 => some f_look_at_side
  | 72 => some f_lengths
  | 76 => some f_ends
  | 89 => some f_inner_parts
  | 90 => some f_look_at_beat
  | 93 => some f_ring_count
  | 193 => some f_first_beyond
  | 194 => some f_ring_beat
  | 159 => some f_whole_steps
  | 158 => some f_joined
  | 234 => some f_beats_of
  | 235 => some f_meeting
  | 170 => some f_rings
  | 229 => some f_turn_of
  | 231 => some f_rings_ever
  | 2 => some f_l_cell_at
  | 189 => some f_l_big
  | 256 => some f_l_book
  | 257 => some f_l_books
  | 258 => some f_l_least
  | _ => none, fun c m => match c, m with
  | 6, 0 => some f_m_Rings_init
  | 6, 19 => some f_m_Rings_part_rung
  | 6, 9 => some f_m_Rings_ahead
  | 1, 0 => some f_m_Guide_init
  | 1, 1 => some f_m_Guide_look_at
  | 1, 2 => some f_m_Guide_leave
  | 1, 3 => some f_m_Guide_put
  | 1, 5 => some f_m_Guide_put_beside
  | 1, 6 => some f_m_Guide_put_in_row
  | 1, 4 => some f_m_Guide_words
  | _, _ => none, FUEL⟩
end Z.k58
namespace Z.k58
open PySem L2 Z
local macro_rules | `(tactic| fail $_s:str) => `(tactic| first | ((with_reducible apply KSet.go); first  | ((repeat with_reducible apply tnS); first | with_reducible exact tn0 | with_reducible exact tn1)  | ((repeat with_reducible apply tsS); with_reducible exact ts0)  | ((repeat with_reducible apply toS); with_reducible exact to0)  | with_reducible apply tp_n | with_reducible apply tp_t2 | with_reducible apply tp_t3 | with_reducible apply tp_t4  | with_reducible apply tn_n | with_reducible apply tn_t2 | with_reducible apply tn_t3 | with_reducible apply tn_t4  | with_reducible exact wip0 | with_reducible apply wipS  | ((repeat with_reducible apply txnS); first | with_reducible exact txn0 | with_reducible exact txn1)  | ((repeat with_reducible apply txS); with_reducible exact tx0)  | with_reducible exact frz0 | ((with_reducible apply frzS); exact rfl) | with_reducible apply frzN  | ((repeat first | with_reducible apply Fgt.keep | with_reducible apply Fgt.give | with_reducible apply Fgt.drop); with_reducible exact .nil)  | with_reducible exact .nil | with_reducible exact .hit | with_reducible apply PutF.miss  | with_reducible exact seq_l | with_reducible exact seq_z  | with_reducible exact ItU.lst | with_reducible exact ItU.fz | with_reducible exact ItU.tup | with_reducible exact ItU.str ) | ((with_reducible apply KArg.go); first  | with_reducible exact a_n | with_reducible apply a_c  | with_reducible exact u_n | with_reducible apply u_c  | with_reducible apply k_n | with_reducible exact k_r | with_reducible exact k_f | with_reducible exact k_b | with_reducible exact k_c | with_reducible exact k_e  | with_reducible apply cd_t | with_reducible apply cd_f | with_reducible apply cd_n | with_reducible refine' cd_dt (by first | assumption | omega | decide) ?_ | with_reducible refine' cd_df (by first | assumption | omega | decide) ?_ | ((refine' cd_dt (by first | exact rfl | (simp; done)) ?_)) | ((refine' cd_df (by first | (simp; done) | (simp <;> omega)) ?_))  | with_reducible exact w_n | with_reducible apply w_c  | with_reducible exact w_o rfl | with_reducible apply w_p  | ((exact lent_of rfl)) | with_reducible exact lent_b | with_reducible exact lent_i | with_reducible exact lent_s | with_reducible exact lent_n | ((exact Or.inr rfl)) ))
local macro_rules | `(tactic| fail) => `(tactic| first
  | ((with_reducible apply KXp.go); first | ((with_reducible apply KpV.go); first | with_reducible exact x_v rfl | with_reducible exact x_ci | with_reducible exact x_cs | with_reducible exact x_cb | with_reducible exact x_cn) | ((with_reducible apply KpO.go); first | with_reducible apply x_op) | ((with_reducible apply KpC.go); first | with_reducible apply w_call | with_reducible apply w_calld (ns := [_])) | ((with_reducible apply KpB.go); first | with_reducible apply x_bf | with_reducible apply x_bk) | ((with_reducible apply KpF.go); first | ((with_reducible apply x_fldo (o := eV _)); (with_reducible exact t_v rfl)) | with_reducible apply x_fld | with_reducible apply x_fldo) | with_reducible exact x_v rfl | with_reducible exact x_ci | with_reducible exact x_cs | with_reducible exact x_cb | with_reducible exact x_cn | with_reducible apply x_op | with_reducible apply x_un | with_reducible apply x_ean | with_reducible apply x_eor | with_reducible apply x_ent | with_reducible apply x_eif | with_reducible apply x_tup | with_reducible (apply Xf.p; apply f_lst) | with_reducible (apply Xf.p; apply f_lcm) | with_reducible apply w_call | with_reducible apply w_calld (ns := [_]) | with_reducible apply x_bf | with_reducible apply x_bk | with_reducible apply x_sl | with_reducible apply x_chn | with_reducible apply x_isU | with_reducible exact f_dik.p | with_reducible exact f_dit.p | with_reducible apply x_get1 | ((with_reducible apply x_fldo (o := eV _)); (with_reducible exact t_v rfl)) | with_reducible apply x_fld | with_reducible apply x_fldo | with_reducible apply x_meth | with_reducible (apply Xf.p; apply f_make) )
  | ((with_reducible apply KXs.go); first | ((with_reducible apply KsA.go); first | with_reducible apply s_fz | with_reducible apply s_sq | with_reducible exact s_sk | with_reducible exact s_bk | with_reducible exact s_ct | with_reducible exact s_rn | with_reducible apply s_if) | ((with_reducible apply KsB.go); first | ((with_reducible apply s_exz (a := eMeth _ (eV _) _ _ _)); (with_reducible apply z_methO); exact rfl) | ((with_reducible apply s_app); exact rfl) | ((with_reducible apply s_ext); exact rfl) | ((with_reducible apply s_clr); exact rfl) | ((with_reducible apply s_fapp); exact rfl) | with_reducible apply s_ex) | ((with_reducible apply KsC.go); first | ((with_reducible apply s_asz (a := eMeth _ (eV _) _ _ _)); (with_reducible apply z_methO); exact rfl) | with_reducible apply s_aso | with_reducible apply s_as) | ((with_reducible apply KsD.go); first | ((with_reducible apply s_rtz (a := eMeth _ (eV _) _ _ _)); (with_reducible apply z_methO); exact rfl) | ((with_reducible apply s_ro); exact rfl) | with_reducible apply s_rf (a := eLst _) | with_reducible apply s_rf (a := eLc _ _ _ _ _) | with_reducible apply s_rt) | with_reducible apply s_fz | with_reducible apply s_sq | with_reducible exact s_sk | with_reducible exact s_bk | with_reducible exact s_ct | with_reducible exact s_rn | with_reducible apply s_if | ((with_reducible apply s_exz (a := eMeth _ (eV _) _ _ _)); (with_reducible apply z_methO); exact rfl) | ((with_reducible apply s_asz (a := eMeth _ (eV _) _ _ _)); (with_reducible apply z_methO); exact rfl) | ((with_reducible apply s_rtz (a := eMeth _ (eV _) _ _ _)); (with_reducible apply z_methO); exact rfl) | ((with_reducible apply s_app); exact rfl) | ((with_reducible apply s_ext); exact rfl) | ((with_reducible apply s_clr); exact rfl) | ((with_reducible apply s_fapp); exact rfl) | with_reducible apply s_ex | with_reducible apply s_aso | with_reducible apply s_as | with_reducible apply s_pr | ((with_reducible apply s_au); exact rfl) | ((with_reducible apply s_ro); exact rfl) | with_reducible apply s_rf (a := eLst _) | with_reducible apply s_rf (a := eLc _ _ _ _ _) | with_reducible apply s_rt | ((with_reducible apply s_stl); exact rfl) | ((with_reducible apply s_std); exact rfl) | ((with_reducible apply s_fstd); exact rfl) | ((with_reducible apply s_fstl); exact rfl) | ((with_reducible apply s_flo'); (exact rfl); decide) | ((with_reducible apply s_fl'); (exact rfl); decide) )
  | ((with_reducible apply KO2.go); first | ((with_reducible apply KoA.go); first | with_reducible exact o_add | with_reducible exact o_sub | with_reducible exact o_iadd | with_reducible apply o_mul | with_reducible apply o_div | with_reducible apply o_mod | with_reducible exact o_pow (by decide) | with_reducible (apply O2f.o2; apply of_addl) | with_reducible apply o_adds | with_reducible apply o_iadds | with_reducible apply o_addt) | ((with_reducible apply KoC.go); first | with_reducible exact o_lt | with_reducible exact o_le | with_reducible exact o_gt | with_reducible exact o_ge | with_reducible exact o_eq | with_reducible exact o_ne | with_reducible exact o_eqs | with_reducible exact o_nes | with_reducible exact o_eqb | with_reducible exact o_neb | with_reducible exact o_isn | with_reducible exact o_nsn | ((with_reducible apply o_isx); exact rfl) | ((with_reducible apply o_nsx); exact rfl)) | ((with_reducible apply KoX.go); first | ((with_reducible apply o_ixt); (first | assumption | exact rfl | exact at_int (by first | decide | omega) rfl)) | ((with_reducible apply o_ixl); (first | assumption | exact rfl | exact at_int (by first | decide | omega) rfl)) | ((with_reducible apply o_ixz); (first | assumption | exact rfl)) | ((with_reducible apply o_ixd); (exact rfl); (first | assumption | exact rfl)) | ((with_reducible apply o_ixdt); (exact rfl); (first | assumption | exact rfl))) | ((with_reducible apply KoI.go); first | with_reducible exact o_ini | with_reducible exact o_nii | ((with_reducible apply o_indt); exact rfl) | ((with_reducible apply o_nidt); exact rfl) | ((with_reducible apply o_ind); exact rfl) | ((with_reducible apply o_nid); exact rfl)) | with_reducible exact o_add | with_reducible exact o_sub | with_reducible exact o_iadd | with_reducible apply o_mul | with_reducible apply o_div | with_reducible apply o_mod | with_reducible exact o_pow (by decide) | with_reducible exact o_lt | with_reducible exact o_le | with_reducible exact o_gt | with_reducible exact o_ge | with_reducible exact o_eq | with_reducible exact o_ne | with_reducible exact o_eqs | with_reducible exact o_nes | with_reducible exact o_eqb | with_reducible exact o_neb | with_reducible exact o_isn | with_reducible exact o_nsn | ((with_reducible apply o_isx); exact rfl) | ((with_reducible apply o_nsx); exact rfl) | ((with_reducible apply o_ixt); (first | assumption | exact rfl | exact at_int (by first | decide | omega) rfl)) | with_reducible exact o_ini | with_reducible exact o_nii | ((with_reducible apply o_ixl); (first | assumption | exact rfl | exact at_int (by first | decide | omega) rfl)) | ((with_reducible apply o_ixz); (first | assumption | exact rfl)) | ((with_reducible apply o_ixd); (exact rfl); (first | assumption | exact rfl)) | ((with_reducible apply o_indt); exact rfl) | ((with_reducible apply o_nidt); exact rfl) | ((with_reducible apply o_ixdt); (exact rfl); (first | assumption | exact rfl)) | ((with_reducible apply o_ind); exact rfl) | ((with_reducible apply o_nid); exact rfl) | with_reducible (apply O2f.o2; apply of_addl) | with_reducible apply o_adds | with_reducible apply o_iadds | with_reducible apply o_addt )
  | ((with_reducible apply KXo.go); first  | with_reducible exact t_v rfl | with_reducible exact (x_v rfl).top | with_reducible apply t_fld | with_reducible apply Xp.top  | with_reducible apply b_v | with_reducible apply b_an | with_reducible apply b_or | with_reducible apply b_nt | with_reducible exact b_y  | with_reducible apply f_lst | with_reducible exact f_dik | with_reducible exact f_dit | with_reducible apply f_lcm | with_reducible apply f_bf | with_reducible apply f_op | with_reducible apply f_call | with_reducible apply f_sl | with_reducible apply f_eif | with_reducible apply f_bk | with_reducible apply f_make | with_reducible apply f_un  | with_reducible apply i_x | with_reducible apply i_r1 | with_reducible apply i_rn | with_reducible apply i_r2 | with_reducible apply i_en | with_reducible apply i_zp | with_reducible apply i_rv | with_reducible apply i_rr  | with_reducible apply j_x | with_reducible apply j_en | with_reducible apply j_zp | with_reducible (apply Xi.j; apply i_r1) | with_reducible (apply Xi.j; apply i_rn) | with_reducible (apply Xi.j; apply i_r2) | with_reducible (apply Xi.j; apply i_rv) | with_reducible (apply Xi.j; apply i_rr)  | ((with_reducible apply z_methO); exact rfl) | with_reducible apply Xp.z  | with_reducible exact o_n | with_reducible apply o_s )
  | ((with_reducible apply KOp.go); first  | with_reducible exact b_lenl | with_reducible exact b_lenz | with_reducible exact b_lent | with_reducible apply b_lens | with_reducible exact b_lend | with_reducible exact b_abs | with_reducible exact b_max | with_reducible exact b_max3 | with_reducible exact b_min | with_reducible exact b_sum | with_reducible exact b_inti | with_reducible exact b_intb | with_reducible exact b_strs | with_reducible apply b_stri | with_reducible apply b_dvm | with_reducible exact bf_lstl.b1 | with_reducible exact bf_lstt.b1 | with_reducible exact b_tupl | with_reducible exact bf_sr2.b1 | with_reducible apply b_maxl | with_reducible apply b_minl  | with_reducible exact ok_l | with_reducible exact ok_s  | with_reducible apply of_addl | with_reducible apply of_mull  | with_reducible exact bf_lstl | with_reducible exact bf_lstt | with_reducible exact bf_sr2 | with_reducible exact bf_lstq (.inr rfl)  | with_reducible exact o_neg | with_reducible (apply O1f.o1; apply of_srs)  | with_reducible apply of_srs  | with_reducible exact m_cnt | with_reducible exact m_find | with_reducible apply m_join | with_reducible apply m_idxs  | with_reducible apply mf_split  | ((exact isU (b := true) rfl)) | ((exact isU (b := false) rfl))  | with_reducible exact sf_l.s3 | with_reducible exact sf_z.s3 | with_reducible exact s3_t | with_reducible apply s3_s  | with_reducible exact sf_l | with_reducible exact sf_z )
  | ((with_reducible focus show OutU _ _); first | ((exact rfl)) | ((exact outU_d (by first | assumption | omega | exact rfl))) | ((exact outU_n (by first | assumption | omega))) )
  | ((with_reducible focus show OutF _ _); first | ((exact rfl)) )
  | ((with_reducible focus show Exists _); first | with_reducible apply Exists.intro )
  | ((with_reducible focus show _ ∧ _); first | with_reducible apply And.intro )
  | ((with_reducible focus show ∀ x ∈ _, ∃ y, _); intro x hx)
  | ((with_reducible focus show ∀ k g, _ ≠ U.obj k g); simp)
  | ((with_reducible focus show _ ∉ _); first | with_reducible decide )
  | ((with_reducible focus show _ ∈ _); first | with_reducible assumption | with_reducible decide )
  | ((with_reducible focus show _ < sizeLine); first | with_reducible (first | assumption | omega | decide | exact sz_le (by first | omega | decide | (simp <;> omega)) | exact sz_lt (by first | omega | decide | (simp <;> omega)) | (simp <;> omega)) )
  | ((with_reducible focus show _ ≤ sizeLine); first | with_reducible (first | assumption | omega | decide | exact sz_le (by first | omega | decide | (simp <;> omega)) | exact sz_lt (by first | omega | decide | (simp <;> omega)) | (simp <;> omega)) )
  | ((with_reducible focus show (_ : Option _) = some _); first | ((exact rfl)) | with_reducible assumption )
  | ((with_reducible focus show Option.isNone _ = true); first | ((exact rfl)) )
  | ((with_reducible focus show _ = _); first | with_reducible exact rfl | with_reducible assumption | with_reducible decide | with_reducible omega )
  | ((with_reducible focus show _ ≠ _); first | with_reducible assumption | with_reducible decide | with_reducible omega )
  | ((with_reducible focus show _ < _); first | with_reducible (first | assumption | omega | decide | (simp <;> omega)) )
  | ((with_reducible focus show _ ≤ _); first | with_reducible (first | assumption | omega | decide | (simp <;> omega)) ))
/-! books: parts by their numbers -/
inductive Pt where
  | raise (l : Nat) (t b : Int) | hold (b : Int) | ring (w : Str) (b : Int) | row (js : List Nat) | side (js : List Nat) | again (z : Int) (j : Nat)
def Pt.tag : Pt → Str
  | .raise _ _ _ => "raise"
  | .hold _ => "hold"
  | .ring _ _ => "ring"
  | .row _ => "row"
  | .side _ => "side"
  | .again _ _ => "again"
/-- the form's things behind its first word -/
def Pt.its (ln pn : Nat → Str) : Pt → List U
  | .raise l t b => [.str (ln l), .int t, .int b]
  | .hold b => [.int b]
  | .ring w b => [.str w, .int b]
  | .row js => [.tup (js.map fun j => .str (pn j))]
  | .side js => [.tup (js.map fun j => .str (pn j))]
  | .again z j => [.int z, .str (pn j)]
abbrev Pt.u (ln pn : Nat → Str) (p : Pt) : U := .tup (.str p.tag :: p.its ln pn)
abbrev limbU (x : Str × Int) : U := .tup [.str x.1, .int x.2]
abbrev partU (ln pn : Nat → Str) (x : Str × Pt) : U := .tup [.str x.1, x.2.u ln pn]
structure Bk where
  L : List (Str × Int)
  P : List (Str × Pt)
def Bk.ln (B : Bk) (l : Nat) : Str := (B.L.getD l ("", 0)).1
def Bk.pn (B : Bk) (k : Nat) : Str := (B.P.getD k ("", .hold 0)).1
def Bk.pt (B : Bk) (k : Nat) : Pt := (B.P.getD k ("", .hold 0)).2
abbrev Bk.u (B : Bk) : U := .tup [.lst (B.L.map limbU), .lst (B.P.map (partU B.ln B.pn))]
/-- the numbers of the parts that a form names -/
def Pt.js : Pt → List Nat
  | .row js => js
  | .side js => js
  | .again _ j => [j]
  | _ => []
def PtOk (nl k : Nat) : Pt → Prop
  | .raise l t b => l < nl ∧ 0 ≤ t ∧ t ≤ 10 ^ 18 ∧ 1 ≤ b ∧ b ≤ 10 ^ 18
  | .hold b => 1 ≤ b ∧ b ≤ 10 ^ 18
  | .ring w b => PyData.strOk w = true ∧ 1 ≤ b ∧ b ≤ 10 ^ 18
  | .row js => 1 ≤ js.length ∧ js.length ≤ 8 ∧ ∀ j ∈ js, j < k
  | .side js => 2 ≤ js.length ∧ js.length ≤ 4 ∧ ∀ j ∈ js, j < k
  | .again z j => 1 ≤ z ∧ z ≤ 10 ^ 18 ∧ j < k
structure Ok (B : Bk) : Prop where
  l1 : 1 ≤ B.L.length ∧ B.L.length ≤ 8
  p1 : 1 ≤ B.P.length ∧ B.P.length ≤ 70
  ln : (B.L.map (·.1)).Nodup
  pn : (B.P.map (·.1)).Nodup
  ls : ∀ x ∈ B.L, PyData.strOk x.1 = true ∧ 0 ≤ x.2 ∧ x.2 ≤ 10 ^ 18
  ps : ∀ x ∈ B.P, PyData.strOk x.1 = true
  pt : ∀ k x, B.P[k]? = some x → PtOk B.L.length k x.2
/-! what is reckoned -/
def lenF (acc : List Int) : Pt → Int
  | .raise _ _ b => b
  | .hold b => b
  | .ring _ b => b
  | .row js => (js.map fun j => acc.getD j 0).sum
  | .side js => (maxL (js.map fun j => acc.getD j 0)).getD 0
  | .again z j => z * acc.getD j 0
def Bk.pts (B : Bk) : List Pt := B.P.map (·.2)
def Bk.lens (B : Bk) : List Int := tab lenF B.pts
def Bk.lg (B : Bk) (k : Nat) : Int := B.lens.getD k 0
def mvF (acc : List (List Int)) : Pt → List Int
  | .raise l _ _ => [(l : Int)]
  | p => srtI (uniq (p.js.flatMap fun j => acc.getD j []))
def Bk.mvs (B : Bk) : List (List Int) := tab mvF B.pts
def Bk.mv (B : Bk) (k : Nat) : List Int := B.mvs.getD k []
/-- where a part leaves a limb -/
def eF (acc : List (Nat → Option Int)) : Pt → Nat → Option Int
  | .raise l t _ => fun z => if z = l then some t else none
  | p => fun z => p.js.reverse.findSome? fun j => (acc.getD j fun _ => none) z
def Bk.efs (B : Bk) : List (Nat → Option Int) := tab eF B.pts
def Bk.ef (B : Bk) (k : Nat) : Nat → Option Int := B.efs.getD k fun _ => none
def endL (n : Nat) (g : Nat → Option Int) : List (Int × Int) := (List.range n).filterMap fun l => (g l).map fun h => ((l : Int), h)
abbrev pairU (p : Int × Int) : U := .tup [.int p.1, .int p.2]
def Bk.ends (B : Bk) : List (List (Int × Int)) := B.efs.map (endL B.L.length)
/-- a book that is told its lengths -/
structure Sound (B : Bk) : Prop extends Ok B where
  lgb : ∀ k, k < B.P.length → B.lg k ≤ 10 ^ 60
  mvs : ∀ k js, B.pt k = .side js → k < B.P.length → (∀ j ∈ js, B.mv j ≠ []) ∧ js.Pairwise (fun i j => ∀ z ∈ B.mv i, z ∉ B.mv j)
section
variable {B : Bk}
theorem Bk.pt_at {k : Nat} {x : Str × Pt} (q : B.P[k]? = some x) : B.pt k = x.2 ∧ B.pn k = x.1 ∧ B.pts[k]? = some x.2 := ⟨by unfold Bk.pt; rw [getD_of q], by unfold Bk.pn; rw [getD_of q], by unfold Bk.pts; rw [List.getElem?_map, q]; rfl⟩
theorem Bk.P_at {k : Nat} (h : k < B.P.length) : B.P[k]? = some (B.pn k, B.pt k) := get_getD (("" : Str), Pt.hold 0) h
theorem Bk.L_at {l : Nat} (h : l < B.L.length) : B.L[l]? = some (B.ln l, (B.L.getD l ("", 0)).2) := get_getD (("" : Str), (0 : Int)) h
theorem Bk.pts_len : B.pts.length = B.P.length := List.length_map _
theorem Bk.lens_len : B.lens.length = B.P.length := (tab_len _).trans B.pts_len
theorem Bk.mvs_len : B.mvs.length = B.P.length := (tab_len _).trans B.pts_len
theorem Bk.efs_len : B.efs.length = B.P.length := (tab_len _).trans B.pts_len
theorem Ok.pt_ok (o : Ok B) {k : Nat} (h : k < B.P.length) : PtOk B.L.length k (B.pt k) := o.pt k _ (Bk.P_at h)
theorem PtOk.js_lt {n k : Nat} {p : Pt} (o : PtOk n k p) : ∀ j ∈ p.js, j < k := by
  cases p with
  | raise => intro j h; cases h
  | hold => intro j h; cases h
  | ring => intro j h; cases h
  | row js => exact o.2.2
  | side js => exact o.2.2
  | again z i => intro j h; rw [List.mem_singleton.mp h]; exact o.2.2
theorem PtOk.js_len {n k : Nat} {p : Pt} (o : PtOk n k p) : p.js.length ≤ 8 := by
  cases p with
  | row js => exact o.2.1
  | side js => have := o.2.1; show js.length ≤ 8; omega
  | again z i => show 1 ≤ 8; omega
  | _ => exact Nat.zero_le _
/-- lookups of those ahead -/
theorem lenF_congr {a a' : List Int} {p : Pt} (h : ∀ j ∈ p.js, a.getD j 0 = a'.getD j 0) : lenF a p = lenF a' p := by
  cases p with
  | row js =>
    have h : ∀ j ∈ js, a.getD j 0 = a'.getD j 0 := h
    show (js.map _).sum = (js.map _).sum; rw [List.map_congr_left h]
  | side js =>
    have h : ∀ j ∈ js, a.getD j 0 = a'.getD j 0 := h
    show (maxL (js.map fun j => a.getD j 0)).getD 0 = (maxL (js.map fun j => a'.getD j 0)).getD 0; rw [List.map_congr_left h]
  | again z j => show z * _ = z * _; rw [h j (by simp [Pt.js])]
  | _ => rfl
theorem mvF_congr {a a' : List (List Int)} {p : Pt} (h : ∀ j ∈ p.js, a.getD j [] = a'.getD j []) : mvF a p = mvF a' p := by
  have : ∀ js : List Nat, (∀ j ∈ js, a.getD j [] = a'.getD j []) → js.flatMap (fun j => a.getD j []) = js.flatMap fun j => a'.getD j [] := fun js h => by
    rw [List.flatMap_def, List.flatMap_def, List.map_congr_left h]
  cases p with
  | raise => rfl
  | row js => show srtI (uniq _) = srtI (uniq _); rw [this _ h]
  | side js => show srtI (uniq _) = srtI (uniq _); rw [this _ h]
  | again z j => show srtI (uniq _) = srtI (uniq _); rw [this _ h]
  | _ => rfl
theorem Ok.lg_eq (o : Ok B) {k : Nat} (h : k < B.P.length) : B.lg k = lenF B.lens (B.pt k) := by
  unfold Bk.lg Bk.lens
  rw [getD_of (tab_at (Bk.pt_at (Bk.P_at h)).2.2)]
  exact lenF_congr fun j hj => getD_take ((o.pt_ok h).js_lt j hj)
theorem Ok.mv_eq (o : Ok B) {k : Nat} (h : k < B.P.length) : B.mv k = mvF B.mvs (B.pt k) := by
  unfold Bk.mv Bk.mvs
  rw [getD_of (tab_at (Bk.pt_at (Bk.P_at h)).2.2)]
  exact mvF_congr fun j hj => getD_take ((o.pt_ok h).js_lt j hj)
theorem Ok.ef_eq (o : Ok B) {k : Nat} (h : k < B.P.length) : B.ef k = eF B.efs (B.pt k) := by
  unfold Bk.ef Bk.efs
  rw [getD_of (tab_at (Bk.pt_at (Bk.P_at h)).2.2)]
  have jl := (o.pt_ok h).js_lt
  have : ∀ js : List Nat, (∀ j ∈ js, j < k) → ∀ z, (js.reverse.findSome? fun j => (((tab eF B.pts).take k).getD j fun _ => none) z) = js.reverse.findSome? fun j => ((tab eF B.pts).getD j fun _ => none) z := fun js hj z => by
    have : ∀ ks : List Nat, (∀ j ∈ ks, j < k) → (ks.findSome? fun j => (((tab eF B.pts).take k).getD j fun _ => none) z) = ks.findSome? fun j => ((tab eF B.pts).getD j fun _ => none) z := fun ks hk => by
      induction ks with
      | nil => rfl
      | cons i ks ih => rw [List.findSome?_cons, List.findSome?_cons, getD_take (hk i (List.mem_cons_self ..)), ih fun j hj => hk j (List.mem_cons_of_mem _ hj)]
    exact this _ fun j q => hj j (List.mem_reverse.mp q)
  cases e : B.pt k with
  | raise => rfl
  | row js => rw [e] at jl; funext z; exact this js jl z
  | side js => rw [e] at jl; funext z; exact this js jl z
  | again z j => rw [e] at jl; funext z'; exact this [j] jl z'
  | hold => rfl
  | ring => rfl
theorem sum_ge {js : List Nat} {f : Nat → Int} (h : ∀ j ∈ js, 1 ≤ f j) : (js.length : Int) ≤ (js.map f).sum := by
  induction js with
  | nil => simp
  | cons j js ih =>
    have := ih fun i hi => h i (List.mem_cons_of_mem _ hi)
    have := h j (List.mem_cons_self ..)
    simp only [List.map_cons, List.sum_cons, List.length_cons]
    omega
theorem maxL_ex : ∀ {xs : List Int}, xs ≠ [] → ∃ m, maxL xs = some m ∧ m ∈ xs ∧ ∀ x ∈ xs, x ≤ m
  | [], h => absurd rfl h
  | x :: xs, _ => by
    have key : ∀ (ys : List Int) (a : Int), (ys.foldl (fun a b => if b > a then b else a) a = a ∨ ys.foldl (fun a b => if b > a then b else a) a ∈ ys) ∧ a ≤ ys.foldl (fun a b => if b > a then b else a) a ∧ ∀ y ∈ ys, y ≤ ys.foldl (fun a b => if b > a then b else a) a := fun ys => by
      induction ys with
      | nil => intro a; exact ⟨.inl rfl, Int.le_refl _, fun y h => by cases h⟩
      | cons y ys ih =>
        intro a
        obtain ⟨h1, h2, h3⟩ := ih (if y > a then y else a)
        rw [List.foldl_cons]
        refine ⟨?_, ?_, fun z hz => ?_⟩
        · rcases h1 with h1 | h1
          · by_cases c : y > a
            · rw [if_pos c] at h1 ⊢; exact .inr (by rw [h1]; exact List.mem_cons_self ..)
            · rw [if_neg c] at h1 ⊢; exact .inl h1
          · exact .inr (List.mem_cons_of_mem _ h1)
        · split at h2 <;> rename_i c
          · rw [if_pos c]; omega
          · rw [if_neg c]; exact h2
        · rcases List.mem_cons.mp hz with e | e
          · subst e
            split at h2 <;> rename_i c
            · rw [if_pos c]; exact h2
            · rw [if_neg c]; omega
          · exact h3 z e
    obtain ⟨h1, h2, h3⟩ := key xs x
    refine ⟨_, rfl, h1.elim (fun e => by rw [e]; exact List.mem_cons_self ..) (List.mem_cons_of_mem _), fun y hy => ?_⟩
    rcases List.mem_cons.mp hy with e | e
    · rw [e]; exact h2
    · exact h3 y e
theorem Ok.lg1 (o : Ok B) : ∀ k, k < B.P.length → 1 ≤ B.lg k := by
  intro k
  induction k using Nat.strongRecOn with
  | ind k ih =>
    intro h
    rw [o.lg_eq h]
    have ok := o.pt_ok h
    cases e : B.pt k with
    | raise l t b => rw [e] at ok; exact ok.2.2.2.1
    | hold b => rw [e] at ok; exact ok.1
    | ring w b => rw [e] at ok; exact ok.2.1
    | row js =>
      rw [e] at ok
      show 1 ≤ (js.map B.lg).sum
      have := sum_ge (js := js) (f := B.lg) fun j hj => ih j (ok.2.2 j hj) (Nat.lt_trans (ok.2.2 j hj) h)
      have := ok.1
      omega
    | side js =>
      rw [e] at ok
      show 1 ≤ (maxL (js.map B.lg)).getD 0
      have ne : (js.map B.lg) ≠ [] := fun e => by
        have := congrArg List.length e
        rw [List.length_map] at this
        have h2 := ok.1
        rw [this] at h2
        exact absurd h2 (by decide)
      obtain ⟨m, e1, m1, _⟩ := maxL_ex ne
      rw [e1]
      obtain ⟨j, hj, rfl⟩ := List.mem_map.mp m1
      exact ih j (ok.2.2 j hj) (Nat.lt_trans (ok.2.2 j hj) h)
    | again z j =>
      rw [e] at ok
      show 1 ≤ z * B.lg j
      have := ih j ok.2.2 (Nat.lt_trans ok.2.2 h)
      have z1 : 1 ≤ z := ok.1
      have h2 := Int.mul_le_mul z1 this (by omega) (by omega)
      omega
end
/-! books looked at: numbers, limbs moved, lengths, ends -/
def numU (xs : List Str) : List (Key × U) := xs.mapIdx fun i x => (.inr x, .int i)
theorem numU_len (xs : List Str) : (numU xs).length = xs.length := List.length_mapIdx
theorem numU_snoc (xs : List Str) (y : Str) : numU (xs ++ [y]) = numU xs ++ [(.inr y, .int xs.length)] := by unfold numU; rw [List.mapIdx_append]; simp
theorem numU_any {xs : List Str} {y : Str} (h : y ∉ xs) : ((numU xs).any fun kv => decide (kv.1 = (.inr y : Key))) = false := by
  rw [List.any_eq_false]
  intro kv hk e
  obtain ⟨i, q⟩ := List.mem_iff_getElem?.mp hk
  unfold numU at q
  rw [List.getElem?_mapIdx] at q
  cases e2 : xs[i]? with
  | none => rw [e2] at q; cases q
  | some x =>
    rw [e2] at q; cases q
    have : (Sum.inr x : Key) = .inr y := of_decide_eq_true e
    cases this
    exact h (List.mem_of_getElem? e2)
theorem numU_put {xs : List Str} {y : Str} (h : y ∉ xs) : putKU (numU xs) (.inr y) (.int xs.length) = numU (xs ++ [y]) := by
  unfold putKU
  rw [numU_any h, numU_snoc]; rfl
theorem find_snoc {κ : Type} [DecidableEq κ] {kvs : List (κ × U)} {k : κ} {u : U} (h : (kvs.any fun kv => decide (kv.1 = k)) = false) : valU (kvs ++ [(k, u)]) k = some u := by
  unfold valU
  rw [List.find?_append]
  have : kvs.find? (fun kv => decide (kv.1 = k)) = none := by
    rw [List.find?_eq_none]
    intro x hx e
    rw [List.any_eq_false] at h
    exact h x hx e
  rw [this]
  simp
theorem find_app {κ : Type} [DecidableEq κ] {kvs ms : List (κ × U)} {k : κ} {u : U} (h : valU kvs k = some u) : valU (kvs ++ ms) k = some u := by
  unfold valU at h ⊢
  rw [List.find?_append]
  cases e : kvs.find? (fun kv => decide (kv.1 = k)) with
  | none => rw [e] at h; cases h
  | some x => rw [e] at h; exact h
theorem numU_val {xs : List Str} (nd : xs.Nodup) : ∀ {j : Nat} {y : Str}, xs[j]? = some y → valU (numU xs) (.inr y) = some (.int j) := by
  induction xs using snoc_ind with
  | h0 => intro j y q; simp at q
  | h1 xs x ih =>
    intro j y q
    rw [List.nodup_append] at nd
    rw [numU_snoc]
    by_cases hj : j < xs.length
    · rw [List.getElem?_append_left hj] at q
      exact find_app (ih nd.1 q)
    · rw [List.getElem?_append_right (by omega)] at q
      have e0 : j - xs.length = 0 := by have := (List.getElem?_eq_some_iff.mp q).1; simp at this; omega
      rw [e0] at q; cases q
      have e1 : j = xs.length := by omega
      rw [e1]
      exact find_snoc (numU_any fun h => nd.2.2 _ h _ (by simp) rfl)
theorem nd_take {xs : List Str} (nd : xs.Nodup) {j : Nat} {y : Str} (q : xs[j]? = some y) : y ∉ xs.take j := fun h => by
  obtain ⟨i, hi⟩ := List.mem_iff_getElem?.mp h
  have hl := (List.getElem?_eq_some_iff.mp hi).1
  rw [List.length_take] at hl
  rw [List.getElem?_take, if_pos (by omega)] at hi
  have := (List.getElem?_inj (l := xs) (show i < xs.length by omega) nd).mp (hi.trans q.symm)
  omega
/-! books looked at: numbers, limbs moved, lengths, ends, the code -/
theorem numbers_of_u {α : Type} {C : Ctx} {xs : List α} {f : α → U} {nm : α → Str} (hf : ∀ x, O2 opIx (f x) (.int 0) (.str (nm x))) (nd : (xs.map nm).Nodup) (l : xs.length ≤ 500) (fu : 1000 < C.fuel) : Fu (runFn C f_numbers_of) [.lst (xs.map f)] (.dic (numU (xs.map nm))) := by
  refine fu_of rfl (by simp only [List.map_cons, List.map_nil, List.length_cons, List.length_nil, List.cons_append, List.nil_append, Nat.reduceAdd, Nat.reduceSub, List.replicate_succ, List.replicate_zero]; exact rfl) ?_
  (repeat first | fail "p" | fail)
  · refine s_fore (xs := xs) (f := f) (S := fun j => [.s (.lst (xs.map f)), .o (.dic (numU ((xs.map nm).take j))), .n, .n]) ?_ (by omega) ?_ ?_
    · (repeat first | fail "p" | fail)
    · show Fgt _ [_, .o (.dic []), _, _]; (repeat first | fail "p" | fail)
    · intro j x q
      have q2 : (xs.map nm)[j]? = some (nm x) := by rw [List.getElem?_map, q]; rfl
      have jl := (List.getElem?_eq_some_iff.mp q2).1
      have tl : ((xs.map nm).take j).length = j := by rw [List.length_take]; omega
      have sz : (numU ((xs.map nm).take j)).length < sizeLine := sz_lt (by rw [numU_len, tl]; simp at jl; omega)
      refine ⟨_, by (repeat first | fail "p" | fail), bod_nx (by unfold b_numbers_of_1; (repeat first | fail "p" | with_reducible exact hf x | fail)) ?_⟩
      have := numU_put (nd_take nd q2)
      rw [tl] at this
      rw [this, ← take_snoc_g q2]
      (repeat first | fail "p" | fail)
  (repeat first | fail "p" | fail)
  show U.dic (numU ((xs.map nm).take xs.length)) = U.dic _
  rw [List.take_of_length_le (by simp)]
theorem named_u {C : Ctx} {ln pn : Nat → Str} {nums : List (Key × U)} {p : Pt} (fu : 1000 < C.fuel) (l8 : p.js.length ≤ 8) (hv : ∀ j ∈ p.js, valU nums (.inr (pn j)) = some (.int j)) : Fu (runFn C f_named) [p.u ln pn, .dic nums] (.lst (p.js.map fun j : Nat => .int j)) := by
  cases p with
  | raise => dsimp only [Pt.u, Pt.tag, Pt.its]; refine fu_of rfl (by simp only [List.map_cons, List.map_nil, List.length_cons, List.length_nil, List.cons_append, List.nil_append, Nat.reduceAdd, Nat.reduceSub, List.replicate_succ, List.replicate_zero]; exact rfl) ?_; (repeat first | fail "p" | fail)
  | hold => dsimp only [Pt.u, Pt.tag, Pt.its]; refine fu_of rfl (by simp only [List.map_cons, List.map_nil, List.length_cons, List.length_nil, List.cons_append, List.nil_append, Nat.reduceAdd, Nat.reduceSub, List.replicate_succ, List.replicate_zero]; exact rfl) ?_; (repeat first | fail "p" | fail)
  | ring => dsimp only [Pt.u, Pt.tag, Pt.its]; refine fu_of rfl (by simp only [List.map_cons, List.map_nil, List.length_cons, List.length_nil, List.cons_append, List.nil_append, Nat.reduceAdd, Nat.reduceSub, List.replicate_succ, List.replicate_zero]; exact rfl) ?_; (repeat first | fail "p" | fail)
  | row js =>
    dsimp only [Pt.u, Pt.tag, Pt.its, Pt.js] at l8 hv ⊢
    refine fu_of rfl (by simp only [List.map_cons, List.map_nil, List.length_cons, List.length_nil, List.cons_append, List.nil_append, Nat.reduceAdd, Nat.reduceSub, List.replicate_succ, List.replicate_zero]; exact rfl) ?_; (repeat first | fail "p" | with_reducible exact o_ixd rfl (hv _ (by assumption)) | fail)
  | side js =>
    dsimp only [Pt.u, Pt.tag, Pt.its, Pt.js] at l8 hv ⊢
    refine fu_of rfl (by simp only [List.map_cons, List.map_nil, List.length_cons, List.length_nil, List.cons_append, List.nil_append, Nat.reduceAdd, Nat.reduceSub, List.replicate_succ, List.replicate_zero]; exact rfl) ?_; (repeat first | fail "p" | with_reducible exact o_ixd rfl (hv _ (by assumption)) | fail)
  | again z j =>
    dsimp only [Pt.u, Pt.tag, Pt.its, Pt.js] at l8 hv ⊢
    have := hv j (by simp)
    refine fu_of rfl (by simp only [List.map_cons, List.map_nil, List.length_cons, List.length_nil, List.cons_append, List.nil_append, Nat.reduceAdd, Nat.reduceSub, List.replicate_succ, List.replicate_zero]; exact rfl) ?_; (repeat first | fail "p" | with_reducible exact o_ixd rfl this | fail)

theorem lmul {z x : Int} (z0 : 0 ≤ z) (z1 : z ≤ 10 ^ 18) (x0 : 0 ≤ x) (x1 : x ≤ 10 ^ 60) : mulOk z x = true := by
  have lb60 : ∀ x : Int, 0 ≤ x → x ≤ 10 ^ 60 → x.natAbs.log2 ≤ 300 := fun x x1 x2 => by
    by_cases h0 : x.natAbs = 0
    · rw [h0]; decide
    · exact Nat.le_of_lt ((Nat.log2_lt h0).mpr (Nat.lt_of_le_of_lt (show x.natAbs ≤ 10 ^ 60 by omega) (by decide)))
  unfold mulOk
  have h1 := lb60 z z0 (by omega)
  have h2 := lb60 x x0 x1
  exact decide_eq_true (by omega)
/-- a form's length by those of the parts named -/
def lenB (below : List Int) : Pt → Int
  | .raise _ _ b => b
  | .hold b => b
  | .ring _ b => b
  | .row _ => below.sum
  | .side _ => (maxL below).getD 0
  | .again z _ => z * below.getD 0 0
theorem lenB_eq {acc : List Int} {p : Pt} : lenB (p.js.map fun j => acc.getD j 0) p = lenF acc p := by
  cases p <;> rfl
theorem length_of_u {C : Ctx} {ln pn : Nat → Str} {nl k : Nat} {p : Pt} {below : List Int} (o : PtOk nl k p) (bl : below.length = p.js.length) (bb : ∀ x ∈ below, 0 ≤ x ∧ x ≤ 10 ^ 60) : Fu (runFn C f_length_of) [p.u ln pn, .lst (below.map U.int)] (.int (lenB below p)) := by
  have ixm : ∀ {us : List U} {u : U}, us.getLast? = some u → O2 opIx (.tup us) (.int (-1)) u := fun q => o_ixt (at_m1 q)
  cases p with
  | raise l t b => dsimp only [Pt.u, Pt.tag, Pt.its]; refine fu_of rfl (by simp only [List.map_cons, List.map_nil, List.length_cons, List.length_nil, List.cons_append, List.nil_append, Nat.reduceAdd, Nat.reduceSub, List.replicate_succ, List.replicate_zero]; exact rfl) ?_; (repeat first | fail "p" | with_reducible exact ixm rfl | fail)
  | hold b => dsimp only [Pt.u, Pt.tag, Pt.its]; refine fu_of rfl (by simp only [List.map_cons, List.map_nil, List.length_cons, List.length_nil, List.cons_append, List.nil_append, Nat.reduceAdd, Nat.reduceSub, List.replicate_succ, List.replicate_zero]; exact rfl) ?_; (repeat first | fail "p" | with_reducible exact ixm rfl | fail)
  | ring w b => dsimp only [Pt.u, Pt.tag, Pt.its]; refine fu_of rfl (by simp only [List.map_cons, List.map_nil, List.length_cons, List.length_nil, List.cons_append, List.nil_append, Nat.reduceAdd, Nat.reduceSub, List.replicate_succ, List.replicate_zero]; exact rfl) ?_; (repeat first | fail "p" | with_reducible exact ixm rfl | fail)
  | row js => dsimp only [Pt.u, Pt.tag, Pt.its]; refine fu_of rfl (by simp only [List.map_cons, List.map_nil, List.length_cons, List.length_nil, List.cons_append, List.nil_append, Nat.reduceAdd, Nat.reduceSub, List.replicate_succ, List.replicate_zero]; exact rfl) ?_; (repeat first | fail "p" | fail)
  | side js =>
    have ne : below ≠ [] := fun e => by
      rw [e] at bl
      have h2 := o.1
      rw [show js.length = 0 from bl.symm] at h2
      exact absurd h2 (by decide)
    obtain ⟨m, e, _, _⟩ := maxL_ex ne
    dsimp only [Pt.u, Pt.tag, Pt.its]
    show Fu _ _ (.int ((maxL below).getD 0))
    rw [e]
    refine fu_of rfl (by simp only [List.map_cons, List.map_nil, List.length_cons, List.length_nil, List.cons_append, List.nil_append, Nat.reduceAdd, Nat.reduceSub, List.replicate_succ, List.replicate_zero]; exact rfl) ?_; (repeat first | fail "p" | fail)
  | again z j =>
    cases below with
    | nil => cases bl
    | cons x r =>
      have hx := bb x (List.mem_cons_self ..)
      have z0 : 1 ≤ z := o.1
      have z1 : z ≤ 10 ^ 18 := o.2.1
      have mk : mulOk z x = true := lmul (by omega) z1 hx.1 hx.2
      have ix : O2 opIx (.lst ((x :: r).map U.int)) (.int 0) (.int x) := o_ixl (at_int (by decide) rfl)
      dsimp only [Pt.u, Pt.tag, Pt.its]
      refine fu_of rfl (by simp only [List.map_cons, List.map_nil, List.length_cons, List.length_nil, List.cons_append, List.nil_append, Nat.reduceAdd, Nat.reduceSub, List.replicate_succ, List.replicate_zero]; exact rfl) ?_; (repeat first | fail "p" | with_reducible exact ix | fail)

/-- nothing is refused -/
theorem look_at_side_u {C : Ctx} {n : Nat} {book : U} {ls : List U} {Ms : List (List Int)} {row : Int} (hb : O2 opIx book (.int 0) (.lst ls)) (hl : ls.length = n) (n8 : n ≤ 8) (m8 : Ms.length ≤ 100) (fu : 1000 < C.fuel) (ne : ∀ M ∈ Ms, M ≠ []) (dj : Ms.Pairwise fun M N => ∀ z ∈ M, z ∉ N) : Fu (runFn C f_look_at_side) [book, .int row, .lst (Ms.map fun M => .lst (M.map U.int))] .non := by
  subst hl
  have cl : Cl 2 (.lst (Ms.map fun M => U.lst (M.map U.int))) := .lst fun u hu => by
    obtain ⟨M, _, rfl⟩ := List.mem_map.mp hu
    exact cl_ints
  have nin : U.lst [] ∉ Ms.map fun M => U.lst (M.map U.int) := fun h => by
    obtain ⟨M, hm, e⟩ := List.mem_map.mp h
    have e : M.map U.int = [] := by injection e
    exact ne M hm (List.map_eq_nil_iff.mp e)
  have i1 : O2 opIn (.lst []) (.lst (Ms.map fun M => U.lst (M.map U.int))) (.bl false) := o_inf (n := 1) (.lst fun u hu => by cases hu) cl (by decide) (by decide) nin
  have one : ∀ z : Int, (Ms.filter fun M => decide (z ∈ M)).length ≤ 1 := fun z => by
    clear cl nin i1 m8 ne
    induction Ms with
    | nil => simp
    | cons M Ms ih =>
      rw [List.pairwise_cons] at dj
      have := ih dj.2
      rw [List.filter_cons]
      split
      · rename_i h
        have : Ms.filter (fun M => decide (z ∈ M)) = [] := by
          rw [List.filter_eq_nil_iff]
          intro N hN
          simpa using dj.1 N hN z (by simpa using h)
        rw [this]; simp
      · exact this
  refine fu_of rfl (by simp only [List.map_cons, List.map_nil, List.length_cons, List.length_nil, List.cons_append, List.nil_append, Nat.reduceAdd, Nat.reduceSub, List.replicate_succ, List.replicate_zero]; exact rfl) ?_
  (repeat first | fail "p" | with_reducible exact i1 | fail)
  · refine s_forn (n := ls.length) (S := fun j => [.s book, .s (.int row), .s (.lst (Ms.map fun M => .lst (M.map U.int))), .n, .n]) (by (repeat first | fail "p" | with_reducible exact hb | fail)) (by omega) (by (repeat first | fail "p" | fail)) ?_
    intro j hj
    refine ⟨_, by (repeat first | fail "p" | fail), ?_⟩
    apply bod_nx
    · unfold b_look_at_side_1
      have LC : Xf C [.s book, .s (.int row), .s (.lst (Ms.map fun M => .lst (M.map U.int))), .s (.int (j : Int)), .n] (eLc [4] (gN 4) (iA (eV 2)) (tV (eOp opIn (eV 3) (eV 4))) (eV 4)) (.lst ((Ms.filter fun M => decide ((j : Int) ∈ M)).map fun M => .lst (M.map U.int))) := by
        refine f_lcf (xs := Ms) (by (repeat first | fail "p" | fail)) (by (repeat first | fail "p" | fail)) (by (repeat first | fail "p" | fail)) (by omega) fun M hM => ⟨_, by (repeat first | fail "p" | fail), by (repeat first | fail "p" | fail), fun _ => by (repeat first | fail "p" | fail)⟩
      have n1 := one j
      have ln : ¬ (1 : Int) < (((Ms.filter fun M => decide ((j : Int) ∈ M)).map fun M => U.lst (M.map U.int)).length : Int) := by rw [List.length_map]; omega
      (repeat first | fail "p" | with_reducible exact LC.p.top | fail)
    · (repeat first | fail "p" | fail)
  (repeat first | fail "p" | fail)
/-! limbs moved, lengths, ends of a book -/
abbrev intsU (M : List Int) : U := .lst (M.map U.int)
theorem own_raise {l : Nat} : srtI (uniq [(l : Int)]) = [(l : Int)] := by simp [uniq, srtI]
def ownL : Pt → List Int
  | .raise l _ _ => [(l : Int)]
  | _ => []
theorem mvF_own {acc : List (List Int)} {p : Pt} : mvF acc p = srtI (uniq (ownL p ++ p.js.flatMap fun j => acc.getD j [])) := by
  cases p with
  | raise => show _ = srtI (uniq [_]); rw [own_raise]; rfl
  | _ => rfl
theorem fm_snoc {α β : Type} {f : α → List β} {xs : List α} {j : Nat} {x : α} (q : xs[j]? = some x) : (xs.take (j + 1)).flatMap f = (xs.take j).flatMap f ++ f x := by rw [take_snoc_g q, List.flatMap_append]; simp
theorem srt_len {xs : List Int} : (srtI xs).length = xs.length := List.length_mergeSort _
theorem srt_mem {xs : List Int} {z : Int} : z ∈ srtI xs ↔ z ∈ xs := List.mem_mergeSort
theorem rise_len : ∀ (xs : List Int) (lo n : Int), xs.Pairwise (· < ·) → (∀ x ∈ xs, lo ≤ x ∧ x < n) → (xs.length : Int) ≤ max 0 (n - lo)
  | [], lo, n, _, _ => by simp; omega
  | x :: xs, lo, n, hp, hb => by
    rw [List.pairwise_cons] at hp
    have h1 := hb x (List.mem_cons_self ..)
    have ih := rise_len xs (x + 1) n hp.2 fun y hy => ⟨hp.1 y hy, (hb y (List.mem_cons_of_mem _ hy)).2⟩
    rw [List.length_cons]
    omega
theorem srt_lt {xs : List Int} (h : xs.Nodup) : (srtI xs).Pairwise (· < ·) := by
  have h1 : (srtI xs).Pairwise (fun a b => (decide (a ≤ b)) = true) := List.pairwise_mergeSort (fun a b c h1 h2 => by simp at *; omega) (fun a b => by simp; omega) xs
  have h2 : (srtI xs).Nodup := (List.mergeSort_perm xs _).nodup_iff.mpr h
  exact (h1.and h2).imp fun ⟨a, b⟩ => by simp at a; omega
theorem uniq_bd {ns : List Int} {n : Nat} (h : ∀ z ∈ ns, 0 ≤ z ∧ z < n) : (uniq ns).length ≤ n := by
  have := rise_len (srtI (uniq ns)) 0 n (srt_lt (uniq_nd ns)) fun z hz => h z (uniq_mem.mp (srt_mem.mp hz))
  have e : (srtI (uniq ns)).length = (uniq ns).length := (List.mergeSort_perm (uniq ns) _).length_eq
  omega
/-- what is moved is below nl -/
theorem mv_bd {nl : Nat} : ∀ ps : List Pt, (∀ k p, ps[k]? = some p → PtOk nl k p) → ∀ M ∈ tab mvF ps, (∀ z ∈ M, 0 ≤ z ∧ z < nl) ∧ M.Pairwise (· < ·) := by
  intro ps
  induction ps using snoc_ind with
  | h0 => intro _ M h; cases h
  | h1 ps p ih =>
    intro o M h
    rw [tab_snoc] at h
    have ih := ih fun k q e => o k q (by rw [List.getElem?_append_left (List.getElem?_eq_some_iff.mp e).1]; exact e)
    rcases List.mem_append.mp h with h | h
    · exact ih M h
    · rw [List.mem_singleton.mp h, mvF_own]
      have op := o ps.length p (by simp)
      refine ⟨fun z hz => ?_, ?_⟩
      · rw [srt_mem, uniq_mem] at hz
        rcases List.mem_append.mp hz with hz | hz
        · cases p with
          | raise l t b =>
            have h1 : l < nl := op.1
            have h2 : z = l := List.mem_singleton.mp hz
            omega
          | _ => cases hz
        · obtain ⟨j, hj, hz⟩ := List.mem_flatMap.mp hz
          cases e : (tab mvF ps)[j]? with
          | none => rw [List.getD_eq_getElem?_getD, e] at hz; cases hz
          | some N => rw [getD_of e] at hz; exact (ih N (List.mem_of_getElem? e)).1 z hz
      · exact srt_lt (uniq_nd _)
theorem Ok.mv_ok {B : Bk} (o : Ok B) {j : Nat} {M : List Int} (q : (B.mvs)[j]? = some M) : (∀ z ∈ M, 0 ≤ z ∧ z < B.L.length) ∧ M.Pairwise (· < ·) ∧ M.length ≤ 8 := by
  obtain ⟨h1, h2⟩ := mv_bd (nl := B.L.length) B.pts (fun k p e => by
    unfold Bk.pts at e
    rw [List.getElem?_map] at e
    cases e2 : B.P[k]? with
    | none => rw [e2] at e; cases e
    | some x => rw [e2] at e; cases e; exact o.pt k x e2) M (List.mem_of_getElem? q)
  refine ⟨h1, h2, ?_⟩
  have := rise_len _ 0 B.L.length h2 h1
  have := o.l1
  omega
theorem Bk.mv_at {B : Bk} {k : Nat} (h : k < B.P.length) : B.mvs[k]? = some (B.mv k) := get_getD [] (by rw [Bk.mvs_len]; exact h)
theorem Bk.lg_at {B : Bk} {k : Nat} (h : k < B.P.length) : B.lens[k]? = some (B.lg k) := get_getD 0 (by rw [Bk.lens_len]; exact h)
/-- the table's first rows -/
theorem tab_pts {β : Type} {f : List β → Pt → β} {B : Bk} {k : Nat} {x : Str × Pt} (q : B.P[k]? = some x) : tab f (B.pts.take (k + 1)) = tab f (B.pts.take k) ++ [f (tab f (B.pts.take k)) x.2] := by
  rw [take_snoc_g (Bk.pt_at q).2.2, tab_snoc]
theorem map_snoc {α β : Type} (f : α → β) (xs : List α) (x : α) : (xs ++ [x]).map f = xs.map f ++ [f x] := by simp
theorem intsU_snoc {M : List Int} {z : Int} : intsU (M ++ [z]) = .lst (M.map U.int ++ [.int z]) := by show U.lst _ = U.lst _; rw [map_snoc]
theorem side_of {p : Pt} (h : p.tag = "side") : ∃ js, p = .side js := by
  cases p with
  | side js => exact ⟨js, rfl⟩
  | raise => exact absurd h (show ("raise" : Str) ≠ "side" by decide)
  | hold => exact absurd h (show ("hold" : Str) ≠ "side" by decide)
  | ring => exact absurd h (show ("ring" : Str) ≠ "side" by decide)
  | row => exact absurd h (show ("row" : Str) ≠ "side" by decide)
  | again => exact absurd h (show ("again" : Str) ≠ "side" by decide)
/-! limbs moved, lengths: the code -/
structure C61 (C : Ctx) (B : Bk) : Prop where
  fu : 1000 < C.fuel
  L : Fu (C.call 61) [.lst (B.L.map limbU)] (.dic (numU (B.L.map (·.1))))
  P : Fu (C.call 61) [.lst (B.P.map (partU B.ln B.pn))] (.dic (numU (B.P.map (·.1))))
  nm : ∀ (k : Nat) (x : Str × Pt), B.P[k]? = some x → Fu (C.call 62) [x.2.u B.ln B.pn, .dic (numU (B.P.map (·.1)))] (.lst (x.2.js.map fun j : Nat => .int j))
theorem Ok.hand {B : Bk} (o : Ok B) {l : Nat} (h : l < B.L.length) : valU (numU (B.L.map (·.1))) (.inr (B.ln l)) = some (.int l) := numU_val o.ln (by rw [List.getElem?_map, Bk.L_at h]; rfl)
theorem Ok.num {B : Bk} (o : Ok B) {j : Nat} (h : j < B.P.length) : valU (numU (B.P.map (·.1))) (.inr (B.pn j)) = some (.int j) := numU_val o.pn (by rw [List.getElem?_map, Bk.P_at h]; rfl)
theorem moved_u {C : Ctx} {B : Bk} (o : Ok B) (c : C61 C B) : Ff (runFn C f_moved) [B.u] (.lst (B.mvs.map intsU)) := by
  have fu := c.fu
  have p1 := o.p1
  have cL := c.L
  have cP := c.P
  refine ff_of rfl (by simp only [List.map_cons, List.map_nil, List.length_cons, List.length_nil, List.cons_append, List.nil_append, Nat.reduceAdd, Nat.reduceSub, List.replicate_succ, List.replicate_zero]; exact rfl) ?_
  (repeat first | fail "p" | with_reducible exact cL | with_reducible exact cP | fail)
  · refine s_fors (xs := B.P) (f := partU B.ln B.pn) (S := fun j => [.s B.u, .s (.dic (numU (B.L.map (·.1)))), .s (.dic (numU (B.P.map (·.1)))), .o (.lst ((tab mvF (B.pts.take j)).map intsU)), .n, .n, .n, .n]) ?_ (by omega) ?_ ?_
    · (repeat first | fail "p" | fail)
    · show Fgt _ [_, _, _, .o (.lst []), _, _, _, _]; (repeat first | fail "p" | fail)
    intro k x q
    have kl := (List.getElem?_eq_some_iff.mp q).1
    have op := o.pt k x q
    have cn := c.nm k x q
    have ms : tab mvF (B.pts.take k) = B.mvs.take k := tab_take _ _
    refine ⟨_, by (repeat first | fail "p" | fail), ?_⟩
    obtain ⟨M, hM⟩ : ∃ M, M = tab mvF (B.pts.take k) := ⟨_, rfl⟩
    have ml : M.length = k := by rw [hM, ms, List.length_take, Bk.mvs_len]; omega
    have m8 : ∀ j, (M.getD j []).length ≤ 8 := fun j => by
      rw [hM, ms]
      cases e : (B.mvs.take k)[j]? with
      | none => rw [List.getD_eq_getElem?_getD, e]; simp
      | some N =>
        rw [getD_of e]
        rw [List.getElem?_take] at e
        split at e
        · exact (o.mv_ok e).2.2
        · cases e
    have mb : ∀ j, ∀ z ∈ M.getD j [], 0 ≤ z ∧ z < B.L.length := fun j => by
      rw [hM, ms]
      cases e : (B.mvs.take k)[j]? with
      | none => rw [List.getD_eq_getElem?_getD, e]; intro z hz; cases hz
      | some N =>
        rw [getD_of e]
        rw [List.getElem?_take] at e
        split at e
        · exact (o.mv_ok e).1
        · cases e
    have fl : ∀ js : List Nat, (js.flatMap fun j => M.getD j []).length ≤ 8 * js.length := fun js => by
      induction js with
      | nil => simp
      | cons j js ih => have := m8 j; rw [List.flatMap_cons, List.length_append, List.length_cons]; omega
    obtain ⟨n, p⟩ := x
    dsimp only at op cn
    -- the loop over the parts named
    have LP : ∀ (own : List Int), own.length ≤ 1 → Xs C [] [.s B.u, .s (.dic (numU (B.L.map (·.1)))), .s (.dic (numU (B.P.map (·.1)))), .o (.lst (M.map intsU)), .s (.str n), .s (p.u B.ln B.pn), .o (intsU own), .n] (sFo (gN 7) (iA (eCall 62 (aC (eV 5) (aC (eV 2) aN)) [])) b_moved_1)
        (.nx [.s B.u, .s (.dic (numU (B.L.map (·.1)))), .s (.dic (numU (B.P.map (·.1)))), .o (.lst (M.map intsU)), .s (.str n), .s (p.u B.ln B.pn), .o (intsU (own ++ p.js.flatMap fun j => M.getD j [])), .n]) := fun own o1 => by
      have j8 := op.js_len
      have := s_fors (C := C) (io := []) (g := gN 7) (mi := iA (eCall 62 (aC (eV 5) (aC (eV 2) aN)) [])) (b := b_moved_1) (pe := [.s B.u, .s (.dic (numU (B.L.map (·.1)))), .s (.dic (numU (B.P.map (·.1)))), .o (.lst (M.map intsU)), .s (.str n), .s (p.u B.ln B.pn), .o (intsU own), .n])
        (xs := p.js) (f := fun j : Nat => .int j) (S := fun i => [.s B.u, .s (.dic (numU (B.L.map (·.1)))), .s (.dic (numU (B.P.map (·.1)))), .o (.lst (M.map intsU)), .s (.str n), .s (p.u B.ln B.pn), .o (intsU (own ++ (p.js.take i).flatMap fun j => M.getD j [])), .n]) (by (repeat first | fail "p" | with_reducible exact cn | fail)) (by omega) (by
          show Fgt _ [_, _, _, _, _, _, .o (.lst ((own ++ []).map U.int)), _]
          rw [List.append_nil]; (repeat first | fail "p" | fail)) (fun i j qj => by
          have jk := op.js_lt j (List.mem_of_getElem? qj)
          have il := (List.getElem?_eq_some_iff.mp qj).1
          have ixm : O2 opIx (.lst (M.map intsU)) (.int (j : Int)) (intsU (M.getD j [])) := o_ixl (at_nat (by rw [List.getElem?_map, get_getD [] (by omega)]; rfl))
          have h1 := m8 j
          have h2 := fl (p.js.take i)
          have h3 : (p.js.take i).length = i := by rw [List.length_take]; omega
          have sz : ((own ++ (p.js.take i).flatMap fun j => M.getD j []).map U.int).length + ((M.getD j []).map U.int).length ≤ sizeLine := sz_le (by rw [List.length_map, List.length_map, List.length_append]; omega)
          refine ⟨_, by (repeat first | fail "p" | fail), ?_⟩
          apply bod_nx
          · unfold b_moved_1; (repeat first | fail "p" | with_reducible exact ixm | fail)
          · rw [← List.map_append, List.append_assoc, ← fm_snoc qj]
            (repeat first | fail "p" | fail))
      rwa [List.take_length] at this
    have sz2 : (M.map intsU).length < sizeLine := sz_lt (by rw [List.length_map]; omega)
    have key : ∀ own : List Int, own = ownL p → ∃ b : (own ++ p.js.flatMap fun j => M.getD j []).length + 1 < scanBound ∧ (uniq (own ++ p.js.flatMap fun j => M.getD j [])).length < 64, True := fun own e => by
      refine ⟨⟨?_, ?_⟩, trivial⟩
      · have h1 := fl p.js
        have h2 := op.js_len
        have h3 : (ownL p).length ≤ 1 := by cases p <;> simp [ownL]
        rw [List.length_append, e]
        refine Nat.lt_of_le_of_lt (show _ ≤ 1000 by omega) (by decide)
      · have := uniq_bd (n := B.L.length) (ns := own ++ p.js.flatMap fun j => M.getD j []) fun z hz => by
          rcases List.mem_append.mp hz with hz | hz
          · rw [e] at hz
            cases p with
            | raise l t b => have h1 : l < B.L.length := op.1; have h2 : z = l := List.mem_singleton.mp hz; omega
            | _ => cases hz
          · obtain ⟨j, _, hz⟩ := List.mem_flatMap.mp hz
            exact mb j z hz
        have := o.l1
        omega
    have fin : tab mvF (B.pts.take (k + 1)) = M ++ [srtI (uniq (ownL p ++ p.js.flatMap fun j => M.getD j []))] := by rw [tab_pts q, ← hM, mvF_own]
    rw [← hM]
    obtain ⟨szb, _⟩ := key _ rfl
    cases p with
    | raise l t b =>
      have hv := o.hand op.1
      have LP : Xs C [] [_, _, _, _, _, _, .o (.lst ([] ++ [.int (l : Int)])), _] _ _ := LP [(l : Int)] (by simp)
      dsimp only [Pt.u, Pt.tag, Pt.its] at LP ⊢
      apply bod_nx
      · unfold b_moved_2; (repeat first | fail "p" | with_reducible exact LP | with_reducible exact o_ixd rfl hv | exact (of_srs szb).o1 | fail)
      · rw [fin, map_snoc]; (repeat first | fail "p" | fail)
    | hold b =>
      have LP : Xs C [] [_, _, _, _, _, _, .o (.lst ([])), _] _ _ := LP [] (by simp)
      dsimp only [Pt.u, Pt.tag, Pt.its] at LP ⊢
      apply bod_nx
      · unfold b_moved_2; (repeat first | fail "p" | with_reducible exact LP | exact (of_srs szb).o1 | fail)
      · rw [fin, map_snoc]; (repeat first | fail "p" | fail)
    | ring w b =>
      have LP : Xs C [] [_, _, _, _, _, _, .o (.lst ([])), _] _ _ := LP [] (by simp)
      dsimp only [Pt.u, Pt.tag, Pt.its] at LP ⊢
      apply bod_nx
      · unfold b_moved_2; (repeat first | fail "p" | with_reducible exact LP | exact (of_srs szb).o1 | fail)
      · rw [fin, map_snoc]; (repeat first | fail "p" | fail)
    | row js =>
      have LP : Xs C [] [_, _, _, _, _, _, .o (.lst ([])), _] _ _ := LP [] (by simp)
      dsimp only [Pt.u, Pt.tag, Pt.its] at LP ⊢
      apply bod_nx
      · unfold b_moved_2; (repeat first | fail "p" | with_reducible exact LP | exact (of_srs szb).o1 | fail)
      · rw [fin, map_snoc]; (repeat first | fail "p" | fail)
    | side js =>
      have LP : Xs C [] [_, _, _, _, _, _, .o (.lst ([])), _] _ _ := LP [] (by simp)
      dsimp only [Pt.u, Pt.tag, Pt.its] at LP ⊢
      apply bod_nx
      · unfold b_moved_2; (repeat first | fail "p" | with_reducible exact LP | exact (of_srs szb).o1 | fail)
      · rw [fin, map_snoc]; (repeat first | fail "p" | fail)
    | again z j =>
      have LP : Xs C [] [_, _, _, _, _, _, .o (.lst ([])), _] _ _ := LP [] (by simp)
      dsimp only [Pt.u, Pt.tag, Pt.its] at LP ⊢
      apply bod_nx
      · unfold b_moved_2; (repeat first | fail "p" | with_reducible exact LP | exact (of_srs szb).o1 | fail)
      · rw [fin, map_snoc]; (repeat first | fail "p" | fail)
  (repeat first | fail "p" | fail)
  show U.lst ((tab mvF (B.pts.take B.P.length)).map intsU) = U.lst _
  rw [List.take_of_length_le (by rw [Bk.pts_len]; exact Nat.le_refl _)]; rfl
structure CLen (C : Ctx) (B : Bk) : Prop extends C61 C B where
  mv : Fu (C.call 63) [B.u] (.lst (B.mvs.map intsU))
  lo : ∀ (p : Pt) (nl k : Nat) (acc : List Int), PtOk nl k p → (∀ j ∈ p.js, 0 ≤ acc.getD j 0 ∧ acc.getD j 0 ≤ 10 ^ 60) → Fu (C.call 70) [p.u B.ln B.pn, .lst (p.js.map fun j => .int (acc.getD j 0))] (.int (lenF acc p))
  sd : ∀ (js : List Nat) (row : Int), js.length ≤ 100 → (∀ j ∈ js, B.mv j ≠ []) → (js.Pairwise fun i j => ∀ z ∈ B.mv i, z ∉ B.mv j) → Fu (C.call 71) [B.u, .int row, .lst (js.map fun j => intsU (B.mv j))] .non
theorem lengths_u {C : Ctx} {B : Bk} (o : Sound B) (c : CLen C B) : Ff (runFn C f_lengths) [B.u] (intsU B.lens) := by
  have fu := c.fu
  have p1 := o.p1
  have cP := c.P
  have cM := c.mv
  refine ff_of rfl (by simp only [List.map_cons, List.map_nil, List.length_cons, List.length_nil, List.cons_append, List.nil_append, Nat.reduceAdd, Nat.reduceSub, List.replicate_succ, List.replicate_zero]; exact rfl) ?_
  (repeat first | fail "p" | with_reducible exact cP | with_reducible exact cM | fail)
  · refine s_fore (xs := B.P) (f := partU B.ln B.pn) (S := fun j => [.s B.u, .s (.dic (numU (B.P.map (·.1)))), .s (.lst (B.mvs.map intsU)), .o (intsU (tab lenF (B.pts.take j))), .n, .n, .n, .n]) ?_ (by omega) ?_ ?_
    · (repeat first | fail "p" | fail)
    · show Fgt _ [_, _, _, .o (.lst []), _, _, _, _]; (repeat first | fail "p" | fail)
    intro k x q
    have kl := (List.getElem?_eq_some_iff.mp q).1
    have op := o.pt k x q
    have cn := c.nm k x q
    have hx := (Bk.pt_at q).1
    have ms : tab lenF (B.pts.take k) = B.lens.take k := tab_take _ _
    refine ⟨_, by (repeat first | fail "p" | fail), ?_⟩
    obtain ⟨M, hM⟩ : ∃ M, M = tab lenF (B.pts.take k) := ⟨_, rfl⟩
    have ml : M.length = k := by rw [hM, ms, List.length_take, Bk.lens_len]; omega
    have mg : ∀ j, j < k → M.getD j 0 = B.lg j := fun j hj => by rw [hM, ms, getD_take hj]; rfl
    obtain ⟨n, p⟩ := x
    dsimp only at op cn hx
    have jl := op.js_lt
    have j8 := op.js_len
    have bd : ∀ j ∈ p.js, 0 ≤ M.getD j 0 ∧ M.getD j 0 ≤ 10 ^ 60 := fun j hj => by
      have h1 := jl j hj
      rw [mg j h1]
      have := o.lg1 j (by omega)
      exact ⟨by omega, o.lgb j (by omega)⟩
    have cl := c.lo p _ k M op bd
    have ixM : ∀ j ∈ p.js, (M.map U.int)[j]? = some (.int (M.getD j 0)) := fun j hj => by rw [List.getElem?_map, get_getD 0 (by have := jl j hj; omega)]; rfl
    have ixV : ∀ j ∈ p.js, (B.mvs.map intsU)[j]? = some (intsU (B.mv j)) := fun j hj => by rw [List.getElem?_map, Bk.mv_at (by have := jl j hj; omega)]; rfl
    have lv : lenF M p = B.lg k := by
      rw [o.lg_eq kl, hx]
      exact lenF_congr fun j hj => mg j (jl j hj)
    have fin : tab lenF (B.pts.take (k + 1)) = M ++ [B.lg k] := by rw [tab_pts q, ← hM]; dsimp only; rw [lv]
    have le : B.lg k ≤ 10 ^ 60 := o.lgb k kl
    rw [lv] at cl
    rw [← hM]
    have sz : (M.map U.int).length < sizeLine := sz_lt (by rw [List.length_map]; omega)
    have ixl : O2 opIx (.lst (M.map U.int ++ [.int (B.lg k)])) (.int (-1)) (.int (B.lg k)) := o_ixl (at_m1 (by simp))
    by_cases hs : p.tag = "side"
    · obtain ⟨js, rfl⟩ := side_of hs
      have sv := o.mvs k js hx kl
      have cs : Fu (C.call 71) [B.u, .int k, .lst ((Pt.side js).js.map fun j => intsU (B.mv j))] .non := c.sd js k (Nat.le_trans j8 (by decide)) sv.1 sv.2
      apply bod_nx
      · unfold b_lengths_1; (repeat first | fail "p" | with_reducible exact cn | with_reducible exact cl | with_reducible exact cs | with_reducible exact ixl | with_reducible exact o_ixl (at_nat (ixM _ (by assumption))) | with_reducible exact o_ixl (at_nat (ixV _ (by assumption))) | fail)
      · rw [fin, intsU_snoc]; (repeat first | fail "p" | fail)
    · apply bod_nx
      · unfold b_lengths_1; (repeat first | fail "p" | with_reducible exact cn | with_reducible exact cl | with_reducible exact ixl | with_reducible exact o_ixl (at_nat (ixM _ (by assumption))) | fail)
      · rw [fin, intsU_snoc]; (repeat first | fail "p" | fail)
  (repeat first | fail "p" | fail)
  show U.lst ((tab lenF (B.pts.take B.P.length)).map U.int) = U.lst _
  rw [List.take_of_length_le (by rw [Bk.pts_len]; exact Nat.le_refl _)]; rfl
/-! ends of a book -/
/-- a dict of limbs' heights -/
structure DRep (nl : Nat) (kvs : List (Key × U)) (g : Nat → Option Int) : Prop where
  val : ∀ z : Nat, valU kvs (.inl (z : Int)) = (g z).map U.int
  nd : (kvs.map (·.1)).Nodup
  keys : ∀ k ∈ kvs.map (·.1), ∃ z : Nat, z < nl ∧ k = .inl (z : Int)
section
variable {nl : Nat} {kvs : List (Key × U)} {g : Nat → Option Int}
theorem DRep.nil : DRep nl [] (fun _ => none) := ⟨fun z => rfl, List.nodup_nil, fun k h => by cases h⟩
theorem find_map_ne {κ : Type} [DecidableEq κ] {k k' : κ} {u : U} (h : k' ≠ k) : ∀ kvs : List (κ × U), valU (kvs.map fun kv => if kv.1 = k then (kv.1, u) else kv) k' = valU kvs k'
  | [] => rfl
  | p :: kvs => by
    have ih := find_map_ne (k := k) (k' := k') (u := u) h kvs
    unfold valU at ih ⊢
    rw [List.map_cons, List.find?_cons, List.find?_cons]
    by_cases e : p.1 = k
    · have e2 : ¬ p.1 = k' := fun w => h (w.symm.trans e)
      simp only [e, if_true, e2, decide_false]
      rw [show decide (k = k') = false by simp [Ne.symm h]]
      exact ih
    · simp only [if_neg e]
      by_cases e2 : p.1 = k'
      · simp [e2]
      · simp only [e2, decide_false]; exact ih
theorem find_map_eq {κ : Type} [DecidableEq κ] {k : κ} {u : U} : ∀ kvs : List (κ × U), (kvs.any fun kv => decide (kv.1 = k)) = true → valU (kvs.map fun kv => if kv.1 = k then (kv.1, u) else kv) k = some u
  | [], h => by cases h
  | p :: kvs, h => by
    unfold valU
    rw [List.map_cons]
    by_cases e : p.1 = k
    · rw [if_pos e, List.find?_cons]; simp [e]
    · rw [if_neg e, List.find?_cons, decide_eq_false e]
      rw [List.any_cons, decide_eq_false e, Bool.false_or] at h
      exact find_map_eq kvs h
theorem keys_put {κ : Type} [DecidableEq κ] {kvs : List (κ × U)} {k : κ} {u : U} : (putKU kvs k u).map (·.1) = if (kvs.any fun kv => decide (kv.1 = k)) = true then kvs.map (·.1) else kvs.map (·.1) ++ [k] := by
  unfold putKU
  split
  · rw [List.map_map]
    refine List.map_congr_left fun p _ => ?_
    simp only [Function.comp]
    split <;> rfl
  · simp
theorem DRep.put (d : DRep nl kvs g) {z : Nat} {h : Int} (hz : z < nl) : DRep nl (putKU kvs (.inl (z : Int)) (.int h)) (fun y => if y = z then some h else g y) := by
  refine ⟨fun y => ?_, ?_, fun k hk => ?_⟩
  · by_cases e : y = z
    · subst e
      rw [if_pos rfl]
      unfold putKU
      split
      · rename_i a; exact find_map_eq kvs a
      · rename_i a; exact find_snoc (Bool.eq_false_iff.mpr a)
    · rw [if_neg e]
      have ne : (.inl (y : Int) : Key) ≠ .inl (z : Int) := fun w => e (by injection w; omega)
      unfold putKU
      split
      · rw [find_map_ne ne]; exact d.val y
      · rw [← d.val y]
        unfold valU
        rw [List.find?_append]
        cases kvs.find? (fun kv => decide (kv.1 = .inl (y : Int))) with
        | some x => rfl
        | none => simp [Ne.symm ne]
  · rw [keys_put]
    split
    · exact d.nd
    · rename_i a
      rw [List.nodup_append]
      refine ⟨d.nd, by simp, fun x hx y hy e => ?_⟩
      rw [List.mem_singleton.mp hy] at e
      obtain ⟨p, hp, e2⟩ := List.mem_map.mp hx
      exact a (List.any_eq_true.mpr ⟨p, hp, decide_eq_true (e2.trans e)⟩)
  · rw [keys_put] at hk
    split at hk
    · exact d.keys k hk
    · rcases List.mem_append.mp hk with w | w
      · exact d.keys k w
      · exact ⟨z, hz, List.mem_singleton.mp w⟩
theorem seqO_some {α β : Type} {f : α → Option β} {g : α → β} : ∀ {xs : List α}, (∀ x ∈ xs, f x = some (g x)) → seqO (xs.map f) = some (xs.map g)
  | [], _ => rfl
  | x :: xs, h => by
    rw [List.map_cons, h x (List.mem_cons_self ..), List.map_cons]
    show (seqO (xs.map f)).map _ = _
    rw [seqO_some fun y hy => h y (List.mem_cons_of_mem _ hy)]; rfl
def upK (nl : Nat) (g : Nat → Option Int) : List Nat := (List.range nl).filter fun z => (g z).isSome
theorem DRep.srt (d : DRep nl kvs g) : ∃ ks : List Int, seqO (kvs.map fun kv => intK kv.1) = some ks ∧ ks.length ≤ nl ∧ srtI ks = (upK nl g).map fun z : Nat => (z : Int) := by
  have e1 : seqO (kvs.map fun kv => intK kv.1) = some (kvs.map fun kv => (intK kv.1).getD 0) := seqO_some fun x hx => by
    obtain ⟨z, _, e⟩ := d.keys x.1 (List.mem_map.mpr ⟨x, hx, rfl⟩)
    rw [e]; rfl
  have mem : ∀ z : Nat, (z : Int) ∈ kvs.map (fun kv => (intK kv.1).getD 0) ↔ (g z).isSome = true := fun z => by
    constructor
    · intro h
      obtain ⟨x, hx, e⟩ := List.mem_map.mp h
      obtain ⟨y, _, e2⟩ := d.keys x.1 (List.mem_map.mpr ⟨x, hx, rfl⟩)
      rw [e2] at e
      have e : (y : Int) = z := e
      have : y = z := by omega
      subst this
      have hv := d.val y
      cases e3 : g y with
      | some _ => rfl
      | none =>
        rw [e3] at hv
        unfold valU at hv
        rw [Option.map_none, Option.map_eq_none_iff, List.find?_eq_none] at hv
        exact absurd (decide_eq_true e2) (hv x hx)
    · intro h
      obtain ⟨v, e⟩ := Option.isSome_iff_exists.mp h
      have hv := d.val z
      rw [e] at hv
      unfold valU at hv
      cases e4 : kvs.find? (fun kv => decide (kv.1 = .inl (z : Int))) with
      | none => rw [e4] at hv; cases hv
      | some x =>
        have h2 := List.find?_some e4
        have h3 := List.mem_of_find?_eq_some e4
        exact List.mem_map.mpr ⟨x, h3, by rw [of_decide_eq_true h2]; rfl⟩
  have all : ∀ x ∈ kvs.map (fun kv => (intK kv.1).getD 0), ∃ z : Nat, z < nl ∧ x = (z : Int) := fun x hx => by
    obtain ⟨p, hp, e⟩ := List.mem_map.mp hx
    obtain ⟨z, hz, e2⟩ := d.keys p.1 (List.mem_map.mpr ⟨p, hp, rfl⟩)
    exact ⟨z, hz, by rw [← e, e2]; rfl⟩
  have nd : (kvs.map fun kv => (intK kv.1).getD 0).Nodup := by
    have h := d.nd
    have key : ∀ l : List (Key × U), (∀ p ∈ l, ∃ z : Nat, p.1 = .inl (z : Int)) → (l.map (·.1)).Nodup → (l.map fun kv => (intK kv.1).getD 0).Nodup := fun l => by
      induction l with
      | nil => intro _ _; exact List.nodup_nil
      | cons p l ih =>
        intro hp hn
        rw [List.map_cons, List.nodup_cons] at hn ⊢
        refine ⟨fun hm => hn.1 ?_, ih (fun q hq => hp q (List.mem_cons_of_mem _ hq)) hn.2⟩
        obtain ⟨q, hq, e⟩ := List.mem_map.mp hm
        obtain ⟨y, ey⟩ := hp q (List.mem_cons_of_mem _ hq)
        obtain ⟨w, ew⟩ := hp p (List.mem_cons_self ..)
        rw [ey, ew] at e
        have e : (y : Int) = w := e
        rw [ew]
        exact List.mem_map.mpr ⟨q, hq, by rw [ey, e]⟩
    exact key kvs (fun p hp => by obtain ⟨z, _, e⟩ := d.keys p.1 (List.mem_map.mpr ⟨p, hp, rfl⟩); exact ⟨z, e⟩) h
  have rise : ((upK nl g).map fun z : Nat => (z : Int)).Pairwise (· < ·) := by
    rw [List.pairwise_map]
    exact (List.pairwise_lt_range.filter _).imp fun h => by omega
  refine ⟨_, e1, ?_, ?_⟩
  · have := rise_len (srtI (kvs.map fun kv => (intK kv.1).getD 0)) 0 nl (srt_lt nd) fun z hz => by
      obtain ⟨y, hy, e⟩ := all z (srt_mem.mp hz)
      omega
    have e : (srtI (kvs.map fun kv => (intK kv.1).getD 0)).length = (kvs.map fun kv => (intK kv.1).getD 0).length := (List.mergeSort_perm _ _).length_eq
    omega
  · refine (srt_uniq ((List.perm_ext_iff_of_nodup (rise.imp fun h => by omega) nd).mpr fun x => ?_) (rise.imp fun h => by omega)).symm
    constructor
    · intro hx
      obtain ⟨z, hz, rfl⟩ := List.mem_map.mp hx
      unfold upK at hz
      rw [List.mem_filter] at hz
      exact (mem z).mpr hz.2
    · intro hx
      obtain ⟨z, hz, rfl⟩ := all x hx
      exact List.mem_map.mpr ⟨z, List.mem_filter.mpr ⟨List.mem_range.mpr hz, (mem z).mp hx⟩, rfl⟩
theorem DRep.len (d : DRep nl kvs g) : kvs.length ≤ nl := by
  obtain ⟨ks, e, l, _⟩ := d.srt
  have : ks.length = kvs.length := by
    have key : ∀ (xs : List (Option Int)) (ys : List Int), seqO xs = some ys → ys.length = xs.length := fun xs => by
      induction xs with
      | nil => intro ys h; cases h; rfl
      | cons x xs ih =>
        intro ys h
        cases x with
        | none => cases h
        | some a =>
          have h : (seqO xs).map (fun l => a :: l) = some ys := h
          cases e2 : seqO xs with
          | none => rw [e2] at h; cases h
          | some zs => rw [e2] at h; cases h; simp [ih zs e2]
    rw [key _ _ e, List.length_map]
  omega
end
/-- pairs put one by one -/
def putsP (kvs : List (Key × U)) (ps : List (Int × Int)) : List (Key × U) := ps.foldl (fun acc p => putKU acc (.inl p.1) (.int p.2)) kvs
theorem putsP_snoc {kvs : List (Key × U)} {ps : List (Int × Int)} {i : Nat} {p : Int × Int} (q : ps[i]? = some p) : putsP kvs (ps.take (i + 1)) = putKU (putsP kvs (ps.take i)) (.inl p.1) (.int p.2) := by
  unfold putsP; rw [take_snoc_g q, List.foldl_append]; rfl
theorem endL_mem {n : Nat} {f : Nat → Option Int} {p : Int × Int} : p ∈ endL n f ↔ ∃ z : Nat, z < n ∧ f z = some p.2 ∧ p.1 = z := by
  unfold endL
  rw [List.mem_filterMap]
  constructor
  · rintro ⟨z, hz, e⟩
    cases e2 : f z with
    | none => rw [e2] at e; cases e
    | some h => rw [e2] at e; cases e; exact ⟨z, List.mem_range.mp hz, e2, rfl⟩
  · rintro ⟨z, hz, e, e1⟩
    exact ⟨z, List.mem_range.mpr hz, by rw [e]; show some ((z : Int), p.2) = _; rw [← e1]⟩
theorem endL_len {n : Nat} {f : Nat → Option Int} : (endL n f).length ≤ n := by
  have := List.length_filterMap_le (fun l : Nat => (f l).map fun h => ((l : Int), h)) (List.range n)
  rw [List.length_range] at this
  exact this
theorem DRep.puts {nl : Nat} {kvs : List (Key × U)} {g f : Nat → Option Int} (d : DRep nl kvs g) (bd : ∀ z, f z ≠ none → z < nl) : DRep nl (putsP kvs (endL nl f)) (fun z => (f z).or (g z)) ∧ ∀ i, ∃ g', DRep nl (putsP kvs ((endL nl f).take i)) g' := by
  have key : ∀ (ps : List (Int × Int)), (∀ p ∈ ps, ∃ z : Nat, z < nl ∧ f z = some p.2 ∧ p.1 = z) → DRep nl (putsP kvs ps) (fun z => if ∃ p ∈ ps, p.1 = (z : Int) then f z else g z) := fun ps => by
    induction ps using snoc_ind with
    | h0 => intro _; simpa [putsP] using d
    | h1 ps p ih =>
      intro h
      have d2 := ih fun q hq => h q (List.mem_append_left _ hq)
      obtain ⟨z, hz, e, e1⟩ := h p (by simp)
      have d3 := d2.put (h := p.2) hz
      have e4 : putsP kvs (ps ++ [p]) = putKU (putsP kvs ps) (.inl (z : Int)) (.int p.2) := by unfold putsP; rw [List.foldl_append, ← e1]; rfl
      rw [e4]
      refine ⟨fun y => ?_, d3.nd, d3.keys⟩
      rw [d3.val y]
      by_cases ey : y = z
      · subst ey
        rw [if_pos rfl, if_pos ⟨p, by simp, e1⟩, e]
      · rw [if_neg ey]
        congr 1
        have : (∃ q ∈ ps ++ [p], q.1 = (y : Int)) ↔ ∃ q ∈ ps, q.1 = (y : Int) := by
          constructor
          · rintro ⟨q, hq, eq⟩
            rcases List.mem_append.mp hq with w | w
            · exact ⟨q, w, eq⟩
            · rw [List.mem_singleton.mp w, e1] at eq; omega
          · rintro ⟨q, hq, eq⟩; exact ⟨q, List.mem_append_left _ hq, eq⟩
        by_cases c : ∃ q ∈ ps, q.1 = (y : Int)
        · rw [if_pos c, if_pos (this.mpr c)]
        · rw [if_neg c, if_neg (fun w => c (this.mp w))]
  refine ⟨?_, fun i => ⟨_, key _ fun p hp => endL_mem.mp (List.mem_of_mem_take hp)⟩⟩
  have d2 := key _ fun p hp => endL_mem.mp hp
  refine ⟨fun z => ?_, d2.nd, d2.keys⟩
  rw [d2.val z]
  congr 1
  cases e : f z with
  | none =>
    rw [if_neg]; · rfl
    rintro ⟨p, hp, e1⟩
    obtain ⟨y, _, e2, e3⟩ := endL_mem.mp hp
    have : y = z := by omega
    subst this
    rw [e] at e2; cases e2
  | some h =>
    rw [if_pos ⟨((z : Int), h), endL_mem.mpr ⟨z, bd z (by rw [e]; simp), e, rfl⟩, rfl⟩]; rfl
theorem ef_bd {nl : Nat} : ∀ ps : List Pt, (∀ k p, ps[k]? = some p → PtOk nl k p) → ∀ j z, ((tab eF ps).getD j fun _ => none) z ≠ none → z < nl := by
  intro ps
  induction ps using snoc_ind with
  | h0 => intro _ j z h; exact absurd rfl h
  | h1 ps p ih =>
    intro o j z h
    have ih := ih fun k q e => o k q (by rw [List.getElem?_append_left (List.getElem?_eq_some_iff.mp e).1]; exact e)
    rw [tab_snoc] at h
    by_cases hj : j < ps.length
    · rw [List.getD_eq_getElem?_getD, List.getElem?_append_left (by rw [tab_len]; exact hj), ← List.getD_eq_getElem?_getD] at h
      exact ih j z h
    · by_cases hj2 : j = ps.length
      · subst hj2
        rw [List.getD_eq_getElem?_getD, List.getElem?_append_right (by rw [tab_len]; exact Nat.le_refl _), tab_len, Nat.sub_self] at h
        have op := o ps.length p (by simp)
        have key : ∀ js : List Nat, (js.findSome? fun j => ((tab eF ps).getD j fun _ => none) z) ≠ none → z < nl := fun js hn => by
          cases e : js.findSome? fun j => ((tab eF ps).getD j fun _ => none) z with
          | none => exact absurd e hn
          | some v =>
            obtain ⟨i, _, e2⟩ := List.exists_of_findSome?_eq_some e
            exact ih i z (by rw [e2]; simp)
        cases p with
        | raise l t b =>
          by_cases e : z = l
          · rw [e]; exact op.1
          · exact absurd (by show (if z = l then some t else none) = none; rw [if_neg e]) h
        | row js => exact key _ h
        | side js => exact key _ h
        | again y i => exact key _ h
        | hold => exact absurd rfl h
        | ring => exact absurd rfl h
      · rw [List.getD_eq_getElem?_getD, List.getElem?_eq_none (by rw [List.length_append, tab_len]; simp; omega)] at h
        exact absurd rfl h
theorem Ok.ef_lt {B : Bk} (o : Ok B) : ∀ j z, B.ef j z ≠ none → z < B.L.length := ef_bd B.pts fun k p e => by
  unfold Bk.pts at e
  rw [List.getElem?_map] at e
  cases e2 : B.P[k]? with
  | none => rw [e2] at e; cases e
  | some x => rw [e2] at e; cases e; exact o.pt k x e2
def ownE : Pt → Nat → Option Int
  | .raise l t _ => fun z => if z = l then some t else none
  | _ => fun _ => none
theorem eF_own {acc : List (Nat → Option Int)} {p : Pt} : eF acc p = fun z => (p.js.reverse.findSome? fun j => (acc.getD j fun _ => none) z).or (ownE p z) := by
  cases p with
  | raise => rfl
  | hold => rfl
  | ring => rfl
  | row => funext z; show _ = Option.or _ none; rw [Option.or_none]; rfl
  | side => funext z; show _ = Option.or _ none; rw [Option.or_none]; rfl
  | again => funext z; show _ = Option.or _ none; rw [Option.or_none]; rfl
theorem raise_of {p : Pt} (h : p.tag = "raise") : ∃ l t b, p = .raise l t b := by
  cases p with
  | raise l t b => exact ⟨l, t, b, rfl⟩
  | side => exact absurd h (show ("side" : Str) ≠ "raise" by decide)
  | hold => exact absurd h (show ("hold" : Str) ≠ "raise" by decide)
  | ring => exact absurd h (show ("ring" : Str) ≠ "raise" by decide)
  | row => exact absurd h (show ("row" : Str) ≠ "raise" by decide)
  | again => exact absurd h (show ("again" : Str) ≠ "raise" by decide)
abbrev endsU (ps : List (Int × Int)) : U := .lst (ps.map pairU)
theorem endL_up {nl : Nat} {g : Nat → Option Int} : endL nl g = (upK nl g).map fun z : Nat => ((z : Int), (g z).getD 0) := by
  unfold endL upK
  rw [← List.filterMap_eq_map', List.filterMap_filter]
  congr 1
  funext z
  cases g z <;> rfl
theorem ends_u {C : Ctx} {B : Bk} (o : Ok B) (c : C61 C B) : Ff (runFn C f_ends) [B.u] (.lst (B.ends.map endsU)) := by
  have fu := c.fu
  have p1 := o.p1
  have cL := c.L
  have cP := c.P
  have l8 := o.l1
  refine ff_of rfl (by simp only [List.map_cons, List.map_nil, List.length_cons, List.length_nil, List.cons_append, List.nil_append, Nat.reduceAdd, Nat.reduceSub, List.replicate_succ, List.replicate_zero]; exact rfl) ?_
  (repeat first | fail "p" | with_reducible exact cL | with_reducible exact cP | fail)
  · refine s_fors (xs := B.P) (f := partU B.ln B.pn) (S := fun j => [.s B.u, .s (.dic (numU (B.L.map (·.1)))), .s (.dic (numU (B.P.map (·.1)))), .o (.lst ((B.ends.take j).map endsU)), .n, .n, .n, .n, .n, .n]) ?_ (by omega) ?_ ?_
    · (repeat first | fail "p" | fail)
    · show Fgt _ [_, _, _, .o (.lst []), _, _, _, _, _, _]; (repeat first | fail "p" | fail)
    intro k x q
    have kl := (List.getElem?_eq_some_iff.mp q).1
    have op := o.pt k x q
    have cn := c.nm k x q
    have hx := (Bk.pt_at q).1
    refine ⟨_, by (repeat first | fail "p" | fail), ?_⟩
    obtain ⟨n, p⟩ := x
    dsimp only at op cn hx
    have jl := op.js_lt
    have j8 := op.js_len
    obtain ⟨M, hM⟩ : ∃ M, M = B.ends.take k := ⟨_, rfl⟩
    have el : B.ends.length = B.P.length := by unfold Bk.ends; rw [List.length_map, Bk.efs_len]
    have ml : M.length = k := by rw [hM, List.length_take]; omega
    have mg : ∀ j, j < k → M[j]? = some (endL B.L.length (B.ef j)) := fun j hj => by
      rw [hM, List.getElem?_take, if_pos hj]
      unfold Bk.ends
      rw [List.getElem?_map, get_getD (fun _ => none) (by rw [Bk.efs_len]; omega)]; rfl
    have ixM : ∀ j, j < k → O2 opIx (.lst (M.map endsU)) (.int (j : Int)) (endsU (endL B.L.length (B.ef j))) := fun j hj => o_ixl (at_nat (by rw [List.getElem?_map, mg j hj]; rfl))
    -- what is left behind the first parts named
    obtain ⟨G, hG⟩ : ∃ G : Nat → Nat → Option Int, ∀ i z, G i z = ((p.js.take i).reverse.findSome? fun j => B.ef j z).or (ownE p z) := ⟨_, fun _ _ => rfl⟩
    have dstep : ∀ i j kvs, p.js[i]? = some j → DRep B.L.length kvs (G i) → DRep B.L.length (putsP kvs (endL B.L.length (B.ef j))) (G (i + 1)) := fun i j kvs q d => by
      have := (d.puts (f := B.ef j) (o.ef_lt j)).1
      refine ⟨fun z => ?_, this.nd, this.keys⟩
      rw [this.val z, hG, hG, take_snoc_g q, List.reverse_append]
      congr 1
      show _ = Option.or (List.findSome? _ (j :: (p.js.take i).reverse)) _
      rw [List.findSome?_cons]
      cases B.ef j z <;> rfl
    have gfin : G p.js.length = B.ef k := by
      funext z
      rw [hG, List.take_length, o.ef_eq kl, hx, eF_own]
      rfl
    -- the dicts
    obtain ⟨Kv, hK⟩ : ∃ Kv : List (Key × U) → Nat → List (Key × U), ∀ k0 i, Kv k0 i = (p.js.take i).foldl (fun acc j => putsP acc (endL B.L.length (B.ef j))) k0 := ⟨_, fun _ _ => rfl⟩
    have kvS : ∀ k0 i j, p.js[i]? = some j → Kv k0 (i + 1) = putsP (Kv k0 i) (endL B.L.length (B.ef j)) := fun k0 i j q => by rw [hK, hK, take_snoc_g q, List.foldl_append]; rfl
    have kvD : ∀ k0, DRep B.L.length k0 (ownE p) → ∀ i, i ≤ p.js.length → DRep B.L.length (Kv k0 i) (G i) := fun k0 d i => by
      induction i with
      | zero =>
        intro _
        rw [hK]
        exact ⟨fun z => by rw [hG]; exact d.val z, d.nd, d.keys⟩
      | succ i ih =>
        intro hi
        have q : p.js[i]? = some p.js[i] := List.getElem?_eq_getElem (by omega)
        rw [kvS k0 i _ q]
        exact dstep i _ _ q (ih (by omega))
    have LP : ∀ k0, DRep B.L.length k0 (ownE p) → Xs C [] [.s B.u, .s (.dic (numU (B.L.map (·.1)))), .s (.dic (numU (B.P.map (·.1)))), .o (.lst (M.map endsU)), .s (.str n), .s (p.u B.ln B.pn), .o (.dic k0), .n, .n, .n] (sFo (gN 7) (iA (eCall 62 (aC (eV 5) (aC (eV 2) aN)) [])) b_ends_2)
        (.nx [.s B.u, .s (.dic (numU (B.L.map (·.1)))), .s (.dic (numU (B.P.map (·.1)))), .o (.lst (M.map endsU)), .s (.str n), .s (p.u B.ln B.pn), .o (.dic (Kv k0 p.js.length)), .n, .n, .n]) := fun k0 d => by
      have k00 : Kv k0 0 = k0 := by rw [hK]; rfl
      refine s_fors (C := C) (io := []) (xs := p.js) (f := fun j : Nat => .int j) (S := fun i => [.s B.u, .s (.dic (numU (B.L.map (·.1)))), .s (.dic (numU (B.P.map (·.1)))), .o (.lst (M.map endsU)), .s (.str n), .s (p.u B.ln B.pn), .o (.dic (Kv k0 i)), .n, .n, .n]) ?_ (by omega) ?_ ?_
      · (repeat first | fail "p" | with_reducible exact cn | fail)
      · show Fgt _ [_, _, _, _, _, _, .o (.dic (Kv k0 0)), _, _, _]
        rw [k00]; (repeat first | fail "p" | fail)
      intro i j qj
      have jk := jl j (List.mem_of_getElem? qj)
      have il := (List.getElem?_eq_some_iff.mp qj).1
      have dI := kvD k0 d i (by omega)
      have ix := ixM j jk
      refine ⟨_, by (repeat first | fail "p" | fail), ?_⟩
      rw [kvS k0 i j qj]
      obtain ⟨ps, hps⟩ : ∃ ps, ps = endL B.L.length (B.ef j) := ⟨_, rfl⟩
      have pl : ps.length ≤ 8 := by rw [hps]; have := endL_len (n := B.L.length) (f := B.ef j); omega
      have LI : Xs C [] [.s B.u, .s (.dic (numU (B.L.map (·.1)))), .s (.dic (numU (B.P.map (·.1)))), .o (.lst (M.map endsU)), .s (.str n), .s (p.u B.ln B.pn), .o (.dic (Kv k0 i)), .s (.int (j : Int)), .n, .n] (sFo (gT [8, 9]) (iA (eOp opIx (eV 3) (eV 7))) b_ends_1)
          (.nx [.s B.u, .s (.dic (numU (B.L.map (·.1)))), .s (.dic (numU (B.P.map (·.1)))), .o (.lst (M.map endsU)), .s (.str n), .s (p.u B.ln B.pn), .o (.dic (putsP (Kv k0 i) ps)), .s (.int (j : Int)), .n, .n]) := by
        have := s_fors (C := C) (io := []) (g := gT [8, 9]) (mi := iA (eOp opIx (eV 3) (eV 7))) (b := b_ends_1) (pe := [.s B.u, .s (.dic (numU (B.L.map (·.1)))), .s (.dic (numU (B.P.map (·.1)))), .o (.lst (M.map endsU)), .s (.str n), .s (p.u B.ln B.pn), .o (.dic (Kv k0 i)), .s (.int (j : Int)), .n, .n])
          (xs := ps) (f := pairU) (S := fun m => [.s B.u, .s (.dic (numU (B.L.map (·.1)))), .s (.dic (numU (B.P.map (·.1)))), .o (.lst (M.map endsU)), .s (.str n), .s (p.u B.ln B.pn), .o (.dic (putsP (Kv k0 i) (ps.take m))), .s (.int (j : Int)), .n, .n]) (by rw [hps]; (repeat first | fail "p" | with_reducible exact ix | fail)) (by omega) (by
            show Fgt _ [_, _, _, _, _, _, .o (.dic (Kv k0 i)), _, _, _]; (repeat first | fail "p" | fail)) (fun m pr qm => by
            obtain ⟨g', dm⟩ := (dI.puts (f := B.ef j) (o.ef_lt j)).2 m
            have sz : (putsP (Kv k0 i) (ps.take m)).length < sizeLine := sz_lt (by rw [hps]; have := dm.len; omega)
            refine ⟨_, by (repeat first | fail "p" | fail), ?_⟩
            apply bod_nx
            · unfold b_ends_1; (repeat first | fail "p" | fail)
            · rw [putsP_snoc qm]; (repeat first | fail "p" | fail))
        rwa [List.take_length] at this
      rw [← hps]
      apply bod_nx
      · unfold b_ends_2; (repeat first | fail "p" | with_reducible exact LI | fail)
      · (repeat first | fail "p" | fail)
    have fin : B.ends.take (k + 1) = M ++ [endL B.L.length (B.ef k)] := by
      rw [hM]
      refine take_snoc_g ?_
      unfold Bk.ends
      rw [List.getElem?_map, get_getD (fun _ => none) (by rw [Bk.efs_len]; omega)]; rfl
    have TL : ∀ k0, DRep B.L.length k0 (ownE p) → ∃ pe2, Xs C [] [.s B.u, .s (.dic (numU (B.L.map (·.1)))), .s (.dic (numU (B.P.map (·.1)))), .o (.lst (M.map endsU)), .s (.str n), .s (p.u B.ln B.pn), .o (.dic (Kv k0 p.js.length)), .n, .n, .n] (sEx (eBk okL mApp (eV 3) (aC (eLc [8] (gN 8) (iA (eBf bSr2 (aC (eV 6) aN))) tY (eTup (aC (eV 8) (aC (eOp opIx (eV 6) (eV 8)) aN)))) aN))) (.nx pe2) ∧ Fgt pe2 [.s B.u, .s (.dic (numU (B.L.map (·.1)))), .s (.dic (numU (B.P.map (·.1)))), .o (.lst ((B.ends.take (k + 1)).map endsU)), .n, .n, .n, .n, .n, .n] := fun k0 d => by
      have dF := kvD k0 d p.js.length (Nat.le_refl _)
      rw [gfin] at dF
      obtain ⟨ks, e1, e2, e3⟩ := dF.srt
      have ul : (upK B.L.length (B.ef k)).length ≤ 8 := by
        unfold upK
        have := List.length_filter_le (fun z => (B.ef k z).isSome) (List.range B.L.length)
        rw [List.length_range] at this
        omega
      have sr : B1 bSr2 [.dic (Kv k0 p.js.length)] (.lst ((upK B.L.length (B.ef k)).map fun z : Nat => .int (z : Int))) := by
        have := (bf_sr2d e1 (by omega)).b1
        rw [e3, List.map_map] at this
        exact this
      have sz : (M.map endsU).length < sizeLine := sz_lt (by rw [List.length_map]; omega)
      have vl : ∀ z ∈ upK B.L.length (B.ef k), valU (Kv k0 p.js.length) (.inl (z : Int)) = some (.int ((B.ef k z).getD 0)) := fun z hz => by
        rw [dF.val z]
        unfold upK at hz
        rw [List.mem_filter] at hz
        obtain ⟨v, e⟩ := Option.isSome_iff_exists.mp hz.2
        rw [e]; rfl
      apply Exists.intro
      apply And.intro
      · (repeat first | fail "p" | with_reducible exact sr | with_reducible exact o_ixd rfl (vl _ (by assumption)) | fail)
      · rw [fin, map_snoc, show endsU (endL B.L.length (B.ef k)) = .lst ((upK B.L.length (B.ef k)).map fun z : Nat => .tup [.int (z : Int), .int ((B.ef k z).getD 0)]) by rw [endL_up]; show U.lst _ = U.lst _; rw [List.map_map]; rfl]
        (repeat first | fail "p" | fail)
    rw [← hM]
    by_cases hr : p.tag = "raise"
    · obtain ⟨l, t, b, rfl⟩ := raise_of hr
      have hv := o.hand op.1
      have d0 : DRep B.L.length (putKU [] (.inl (l : Int)) (.int t)) (ownE (.raise l t b)) := DRep.nil.put op.1
      have LP := LP _ d0
      obtain ⟨pe2, TL, fg⟩ := TL _ d0
      refine ⟨pe2, .inl ?_, fg⟩
      unfold b_ends_3
      (repeat first | fail "p" | with_reducible exact o_ixd rfl hv | with_reducible exact LP | with_reducible exact TL | fail)
    · have d0 : DRep B.L.length [] (ownE p) := by
        have : ownE p = fun _ => none := by
          cases p with
          | raise => exact absurd rfl hr
          | _ => rfl
        rw [this]; exact DRep.nil
      have LP := LP _ d0
      obtain ⟨pe2, TL, fg⟩ := TL _ d0
      refine ⟨pe2, .inl ?_, fg⟩
      unfold b_ends_3
      (repeat first | fail "p" | with_reducible exact LP | with_reducible exact TL | fail)
  (repeat first | fail "p" | fail)
  show U.lst ((B.ends.take B.P.length).map endsU) = U.lst _
  rw [List.take_of_length_le (by unfold Bk.ends; rw [List.length_map, Bk.efs_len]; exact Nat.le_refl _)]
/-! sizes of ints -/
structure Lt2 (i : Int) (a : Nat) : Prop where
  h : i.natAbs < 2 ^ a
theorem log2_le {n a : Nat} (h : n < 2 ^ a) : n.log2 ≤ a := by
  by_cases h0 : n = 0
  · subst h0; simp
  · exact Nat.le_of_lt ((Nat.log2_lt h0).mpr h)
theorem mulOk_of {i j : Int} {a b : Nat} (hi : Lt2 i a) (hj : Lt2 j b) (h : a + b < 100000000) : mulOk i j = true := by
  unfold mulOk
  have h1 := log2_le hi.h
  have h2 := log2_le hj.h
  exact decide_eq_true (by omega)
theorem Lt2.mono {i : Int} {a b : Nat} (h : Lt2 i a) (q : a ≤ b) : Lt2 i b := ⟨Nat.lt_of_lt_of_le h.h (Nat.pow_le_pow_right (by decide) q)⟩
theorem Lt2.mul {i j : Int} {a b : Nat} (hi : Lt2 i a) (hj : Lt2 j b) : Lt2 (i * j) (a + b) := ⟨by rw [Int.natAbs_mul, Nat.pow_add]; exact Nat.mul_lt_mul'' hi.h hj.h⟩
theorem Lt2.sub {i j : Int} {a : Nat} (hi : Lt2 i a) (hj : Lt2 j a) : Lt2 (i - j) (a + 1) := ⟨by
  have h1 := hi.h
  have h2 := hj.h
  rw [Nat.pow_succ]
  omega⟩
theorem Lt2.div {i j : Int} {a : Nat} (hi : Lt2 i a) : Lt2 (i / j) a := ⟨by
  refine Nat.lt_of_le_of_lt ?_ hi.h
  exact Int.natAbs_ediv_le_natAbs i j⟩
theorem Lt2.of_bits {i : Int} {a : Nat} (h : Builtin.Int.intBits i ≤ a) : Lt2 i a := by
  refine ⟨?_⟩
  unfold Builtin.Int.intBits at h
  split at h
  · rename_i h0
    have : i.natAbs = 0 := by simpa using h0
    rw [this]
    exact Nat.pos_of_ne_zero (by simp)
  · rename_i h0
    have hn : i.natAbs ≠ 0 := by simpa using h0
    exact (Nat.log2_lt hn).mp (by omega)
theorem divOk_of {j : Int} {a : Nat} (h0 : j ≠ 0) (h : Lt2 j a) (ha : a < 9000) : divOk j = true := by
  unfold divOk
  rw [decide_eq_true h0, decide_eq_true (Nat.lt_of_le_of_lt (log2_le h.h) ha)]; rfl
theorem mulOk_sm {i j : Int} (hi : i.natAbs ≤ 10 ^ 300) (hj : j.natAbs ≤ 10 ^ 300) : mulOk i j = true := mulOk_of (a := 1000) (b := 1000) ⟨Nat.lt_of_le_of_lt hi (by decide)⟩ ⟨Nat.lt_of_le_of_lt hj (by decide)⟩ (by decide)
theorem divOk_sm {j : Int} (h0 : j ≠ 0) (hj : j.natAbs ≤ 10 ^ 300) : divOk j = true := divOk_of h0 (a := 1000) ⟨Nat.lt_of_le_of_lt hj (by decide)⟩ (by decide)
/-- a script's cell, 0 behind the last -/
def cellA (ns : List Int) (k : Nat) : Int := ns.getD k 0
theorem cellA_lt {ns : List Int} (hb : ∀ z ∈ ns, Builtin.Int.intBits z ≤ 1048576) (k : Nat) : Lt2 (cellA ns k) 1048576 := by
  unfold cellA
  rw [List.getD_eq_getElem?_getD]
  cases e : ns[k]? with
  | none => exact ⟨by simp; exact Nat.pos_of_ne_zero (by simp)⟩
  | some z => exact Lt2.of_bits (hb z (List.mem_of_getElem? e))
theorem lenFz {ns : List Int} : B1 bLen [.fz (ns.map U.int)] (.int ns.length) := by have := b_lenz (us := ns.map U.int); rwa [List.length_map] at this
theorem ixFz {ns : List Int} {k : Nat} (h : k < ns.length) : O2 opIx (.fz (ns.map U.int)) (.int (k : Int)) (.int (ns.getD k 0)) := o_ixz (at_nat (by rw [List.getElem?_map, get_getD 0 h]; rfl))
theorem fuT (n : Nat) : 1000 < (ctx T n).fuel := by
  have : (ctx T n).fuel = FUEL := by cases n <;> rfl
  rw [this]; unfold FUEL; omega
/-! lengths, moved, ends of a sound book, as calls -/
theorem calls29 {B : Bk} (o : Sound B) (n : Nat) : Ff ((ctx T (n + 5)).call 72) [B.u] (intsU B.lens) ∧ Ff ((ctx T (n + 5)).call 63) [B.u] (.lst (B.mvs.map intsU)) ∧ Ff ((ctx T (n + 5)).call 76) [B.u] (.lst (B.ends.map endsU)) := by
  have c61 : ∀ n, C61 (ctx T (n + 1)) B := fun n => ⟨fuT _, numbers_of_u (C := ctx T n) (fun x => o_ixt rfl) o.ln (by have := o.l1; omega) (fuT n), numbers_of_u (C := ctx T n) (fun x => o_ixt rfl) o.pn (by have := o.p1; omega) (fuT n), fun k x q => by
    have kl := (List.getElem?_eq_some_iff.mp q).1
    have op := o.pt k x q
    exact named_u (C := ctx T n) (fuT n) op.js_len fun j hj => o.num (by have := op.js_lt j hj; omega)⟩
  have c63 : ∀ n, Ff ((ctx T (n + 2)).call 63) [B.u] (.lst (B.mvs.map intsU)) := fun n => moved_u (C := ctx T (n + 1)) o.toOk (c61 n)
  refine ⟨?_, c63 (n + 3), ends_u (C := ctx T (n + 4)) o.toOk (c61 (n + 3))⟩
  refine lengths_u (C := ctx T (n + 4)) o ⟨c61 (n + 3), (c63 (n + 2)).fu, fun p nl k acc op bd => ?_, fun js row jl ne dj => ?_⟩
  · have := length_of_u (C := ctx T (n + 3)) (ln := B.ln) (pn := B.pn) (below := p.js.map fun j => acc.getD j 0) op (by simp) (fun x hx => by
      obtain ⟨j, hj, rfl⟩ := List.mem_map.mp hx
      exact bd j hj)
    rw [lenB_eq, List.map_map] at this
    exact this
  · have := look_at_side_u (C := ctx T (n + 3)) (n := B.L.length) (book := B.u) (ls := B.L.map limbU) (Ms := js.map B.mv) (row := row) (o_ixt rfl) (by simp) o.l1.2 (by simpa using jl) (fuT _) (fun M hM => by
      obtain ⟨j, hj, rfl⟩ := List.mem_map.mp hM
      exact ne j hj) (by rw [List.pairwise_map]; exact dj)
    rw [List.map_map] at this
    exact this
theorem len_call {B : Bk} (o : Sound B) (n : Nat) : Ff ((ctx T (n + 5)).call 72) [B.u] (intsU B.lens) := (calls29 o n).1
/-! books are clean and small -/
inductive Sm : Nat → U → Prop
  | int {n : Nat} {i : Int} : Sm n (.int i)
  | str {n : Nat} {x : Str} : Sm n (.str x)
  | tup {n : Nat} {us : List U} : us.length ≤ 500 → (∀ u ∈ us, Sm n u) → Sm (n + 1) (.tup us)
  | lst {n : Nat} {us : List U} : us.length ≤ 500 → (∀ u ∈ us, Sm n u) → Sm (n + 1) (.lst us)
section
variable {B : Bk}
theorem Ok.ln_ok (o : Ok B) {l : Nat} (h : l < B.L.length) : PyData.strOk (B.ln l) = true := (o.ls _ (List.mem_of_getElem? (Bk.L_at h))).1
theorem Ok.pn_ok (o : Ok B) {j : Nat} (h : j < B.P.length) : PyData.strOk (B.pn j) = true := o.ps _ (List.mem_of_getElem? (Bk.P_at h))
theorem Ok.u_cl (o : Ok B) {k : Nat} {p : Pt} (h : k ≤ B.P.length) (op : PtOk B.L.length k p) : Cl 2 (p.u B.ln B.pn) := by
  have itq : ∀ js : List Nat, (∀ j ∈ js, j < k) → Cl 1 (.tup (js.map fun j => U.str (B.pn j))) := fun js hj => .tup fun u hu => by
    obtain ⟨j, hm, rfl⟩ := List.mem_map.mp hu; exact .str (o.pn_ok (by have := hj j hm; omega))
  have all : ∀ us : List U, (∀ u ∈ us, Cl 1 u) → Cl 2 (.tup us) := fun us h => .tup h
  cases p <;> refine all _ (fun u hu => ?_) <;> simp only [Pt.tag, Pt.its, List.mem_cons, List.not_mem_nil, or_false] at hu
  · have hl := o.ln_ok op.1
    rcases hu with rfl | rfl | rfl | rfl <;> first | exact .int | exact .str hl | exact .str (by decide +kernel)
  · rcases hu with rfl | rfl <;> first | exact .int | exact .str (by decide +kernel)
  · have hw := op.1
    rcases hu with rfl | rfl | rfl <;> first | exact .int | exact .str hw | exact .str (by decide +kernel)
  · have hj := op.2.2
    rcases hu with rfl | rfl <;> first | exact itq _ hj | exact .str (by decide +kernel)
  · have hj := op.2.2
    rcases hu with rfl | rfl <;> first | exact itq _ hj | exact .str (by decide +kernel)
  · have hn := o.pn_ok (Nat.lt_of_lt_of_le op.2.2 h)
    rcases hu with rfl | rfl | rfl <;> first | exact .int | exact .str hn | exact .str (by decide +kernel)
theorem Ok.cl (o : Ok B) : Cl 5 B.u := .tup fun u hu => by
  simp only [List.mem_cons, List.not_mem_nil, or_false] at hu
  rcases hu with rfl | rfl
  · refine .lst fun u hu => ?_
    obtain ⟨x, hx, rfl⟩ := List.mem_map.mp hu
    have hs := (o.ls x hx).1
    exact .tup fun v hv => by
      simp only [List.mem_cons, List.not_mem_nil, or_false] at hv
      rcases hv with rfl | rfl <;> first | exact .int | exact .str hs
  · refine .lst fun u hu => ?_
    obtain ⟨x, hx, rfl⟩ := List.mem_map.mp hu
    have hs := o.ps x hx
    obtain ⟨k, q⟩ := List.mem_iff_getElem?.mp hx
    have kl := (List.getElem?_eq_some_iff.mp q).1
    have uc := o.u_cl (Nat.le_of_lt kl) (o.pt k x q)
    exact .tup fun v hv => by
      simp only [List.mem_cons, List.not_mem_nil, or_false] at hv
      rcases hv with rfl | rfl
      · exact .str hs
      · exact uc
end
/-! x[k] = a, x a dict, a changes other things -/
/-! heights at a beat, plain -/
def rampV (s g b j : Int) : Int := s + (g - s) * j / b
def setH (hs : List Int) (ps : List (Int × Int)) : List Int := ps.foldl (fun hs p => hs.set p.1.toNat p.2) hs
def Bk.leave (B : Bk) (k : Nat) (hs : List Int) : List Int := setH hs (endL B.L.length (B.ef k))
abbrev PutT := Int → List Int → List Int
def idP : PutT := fun _ hs => hs
def rowH (B : Bk) (f : Nat → PutT) : List Nat → PutT
  | [], _, hs => hs
  | j :: js, beat, hs => if beat < B.lg j then f j beat hs else rowH B f js (beat - B.lg j) (B.leave j hs)
def sideH (B : Bk) (f : Nat → PutT) (js : List Nat) : PutT := fun beat hs => js.foldl (fun hs j => if beat < B.lg j then f j beat hs else B.leave j hs) hs
def pF (B : Bk) (acc : List PutT) : Pt → PutT
  | .raise l t b => fun beat hs => hs.set l (rampV (hs.getD l 0) t b beat)
  | .side js => sideH B (fun j => acc.getD j idP) js
  | .row js => rowH B (fun j => acc.getD j idP) js
  | .again _ j => fun beat hs => acc.getD j idP (beat % B.lg j) (if 0 < beat / B.lg j then B.leave j hs else hs)
  | _ => idP
def Bk.put (B : Bk) (k : Nat) : PutT := (tab (pF B) B.pts).getD k idP
def Bk.hs0 (B : Bk) : List Int := B.L.map (·.2)
def Bk.stand (B : Bk) (beat : Int) : List Int := if beat = B.lg (B.P.length - 1) then B.leave (B.P.length - 1) B.hs0 else B.put (B.P.length - 1) beat B.hs0
structure HsOk (n : Nat) (hs : List Int) : Prop where
  len : hs.length = n
  bd : ∀ h ∈ hs, 0 ≤ h ∧ h ≤ 10 ^ 18
theorem HsOk.set {n : Nat} {hs : List Int} (o : HsOk n hs) {i : Nat} {h : Int} (b : 0 ≤ h ∧ h ≤ 10 ^ 18) : HsOk n (hs.set i h) := ⟨by rw [List.length_set]; exact o.len, fun x hx => (List.mem_or_eq_of_mem_set hx).elim (o.bd x) fun e => e ▸ b⟩
theorem HsOk.at_ {n : Nat} {hs : List Int} (o : HsOk n hs) {i : Nat} (h : i < n) : hs[i]? = some (hs.getD i 0) ∧ 0 ≤ hs.getD i 0 ∧ hs.getD i 0 ≤ 10 ^ 18 := by
  have q := get_getD (xs := hs) 0 (by rw [o.len]; exact h)
  exact ⟨q, o.bd _ (List.mem_of_getElem? q)⟩
section
variable {B : Bk}
end
/-! words at a beat, plain and the code -/
def rowW (B : Bk) (f : Nat → Int → List Str) : List Nat → Int → List Str
  | [], _ => []
  | j :: js, beat => (if 0 ≤ beat then f j beat else []) ++ rowW B f js (beat - B.lg j)
def wF (B : Bk) (acc : List (Int → List Str)) (p : Pt) : Int → List Str := fun beat => if lenF B.lens p ≤ beat then [] else match p with
  | .ring w _ => if beat = 0 then [w] else []
  | .row js => rowW B (fun j => acc.getD j fun _ => []) js beat
  | .side js => js.flatMap fun j => acc.getD j (fun _ => []) beat
  | .again _ j => acc.getD j (fun _ => []) (beat % B.lg j)
  | _ => []
def Bk.words (B : Bk) (k : Nat) : Int → List Str := (tab (wF B) B.pts).getD k fun _ => []
def Bk.rings (B : Bk) (beat : Int) : List Str := if beat = B.lg (B.P.length - 1) then [] else B.words (B.P.length - 1) beat
section
variable {B : Bk}
theorem rowW_congr {f g : Nat → Int → List Str} : ∀ {js : List Nat} {beat : Int}, (∀ j ∈ js, f j = g j) → rowW B f js beat = rowW B g js beat
  | [], _, _ => rfl
  | j :: js, beat, e => by
    unfold rowW
    rw [e j (List.mem_cons_self ..), rowW_congr fun i hi => e i (List.mem_cons_of_mem _ hi)]
theorem wF_congr {a a' : List (Int → List Str)} {p : Pt} (h : ∀ j ∈ p.js, a.getD j (fun _ => []) = a'.getD j fun _ => []) : wF B a p = wF B a' p := by
  funext beat
  unfold wF
  split
  · rfl
  · cases p with
    | row js => exact rowW_congr h
    | side js => show js.flatMap _ = js.flatMap _; rw [List.flatMap_def, List.flatMap_def, List.map_congr_left fun j hj => by rw [h j hj]]
    | again z j => show a.getD j _ _ = _; rw [h j (List.mem_singleton.mpr rfl)]
    | _ => rfl
theorem Ok.words_eq (o : Ok B) {k : Nat} (h : k < B.P.length) (beat : Int) : B.words k beat = if B.lg k ≤ beat then [] else match B.pt k with
  | .ring w _ => if beat = 0 then [w] else []
  | .row js => rowW B B.words js beat
  | .side js => js.flatMap fun j => B.words j beat
  | .again _ j => B.words j (beat % B.lg j)
  | _ => [] := by
  have e : B.words k = wF B (tab (wF B) B.pts) (B.pt k) := by
    unfold Bk.words
    rw [getD_of (tab_at (Bk.pt_at (Bk.P_at h)).2.2)]
    exact wF_congr fun j hj => getD_take ((o.pt_ok h).js_lt j hj)
  rw [e]
  unfold wF
  rw [← o.lg_eq h]
  rfl
theorem rowW_neg {f : Nat → Int → List Str} (l1 : ∀ j, 0 ≤ B.lg j) : ∀ {js : List Nat} {beat : Int}, beat < 0 → rowW B f js beat = []
  | [], _, _ => rfl
  | j :: js, beat, h => by
    unfold rowW
    have := l1 j
    rw [if_neg (by omega), rowW_neg l1 (by omega)]; rfl
theorem Ok.lg0 (o : Ok B) (j : Nat) : 0 ≤ B.lg j := by
  by_cases h : j < B.P.length
  · have := o.lg1 j h; omega
  · unfold Bk.lg
    rw [List.getD_eq_getElem?_getD, List.getElem?_eq_none (by rw [Bk.lens_len]; omega)]; exact Int.le_refl _
theorem uniq_self : ∀ {xs : List Int}, xs.Nodup → uniq xs = xs
  | [], _ => rfl
  | x :: xs, h => by
    rw [List.nodup_cons] at h
    unfold uniq
    rw [if_neg h.1, uniq_self h.2]
theorem Ok.mv_nd (o : Ok B) {j : Nat} (h : j < B.P.length) : (B.mv j).Nodup ∧ (B.mv j).length ≤ 8 := by
  obtain ⟨_, h2, h3⟩ := o.mv_ok (Bk.mv_at h)
  exact ⟨h2.imp fun h => by omega, h3⟩
/-- how many words there may be: one, or one a limb moved -/
theorem words_len (so : Sound B) : ∀ k, k < B.P.length → ∀ beat, (B.words k beat).length ≤ max 1 (B.mv k).length := by
  have o := so.toOk
  intro k
  induction k using Nat.strongRecOn with
  | ind k ih =>
    intro hk beat
    have op := o.pt_ok hk
    have jl := op.js_lt
    have mve := o.mv_eq hk
    rw [o.words_eq hk]
    split
    · exact Nat.zero_le _
    · have sub : ∀ j ∈ (B.pt k).js, (B.mv j).length ≤ (B.mv k).length := fun j hj => by
        refine sub_len (o.mv_nd (by have := jl j hj; omega)).1 fun z hz => ?_
        rw [mve, mvF_own, srt_mem, uniq_mem]
        exact List.mem_append_right _ (List.mem_flatMap.mpr ⟨j, hj, hz⟩)
      cases ep : B.pt k with
      | ring w b =>
        dsimp only
        split
        · show 1 ≤ _; omega
        · exact Nat.zero_le _
      | row js =>
        rw [ep] at jl sub
        dsimp only
        have key : ∀ (js : List Nat) (beat : Int), (∀ j ∈ js, j < k ∧ (B.mv j).length ≤ (B.mv k).length) → (rowW B B.words js beat).length ≤ max 1 (B.mv k).length := fun js => by
          induction js with
          | nil => intro _ _; exact Nat.zero_le _
          | cons j js ih2 =>
            intro beat h
            obtain ⟨hj, hm⟩ := h j (List.mem_cons_self ..)
            unfold rowW
            by_cases c0 : 0 ≤ beat
            · rw [if_pos c0]
              by_cases c1 : B.lg j ≤ beat
              · have e : B.words j beat = [] := by rw [o.words_eq (by omega), if_pos c1]
                rw [e, List.nil_append]
                exact ih2 _ fun i hi => h i (List.mem_cons_of_mem _ hi)
              · rw [rowW_neg o.lg0 (by omega), List.append_nil]
                have := ih j hj (by omega) beat
                omega
            · rw [if_neg c0, List.nil_append, rowW_neg o.lg0 (by have := o.lg0 j; omega)]
              exact Nat.zero_le _
        exact key js beat fun j hj => ⟨jl j hj, sub j hj⟩
      | side js =>
        rw [ep] at jl sub mve
        dsimp only
        obtain ⟨ne, dj⟩ := so.mvs k js ep hk
        have key : ∀ js : List Nat, (∀ j ∈ js, j < k ∧ B.mv j ≠ []) → (js.flatMap fun j => B.words j beat).length ≤ (js.flatMap B.mv).length := fun js => by
          induction js with
          | nil => intro _; exact Nat.zero_le _
          | cons j js ih2 =>
            intro h
            obtain ⟨hj, hn⟩ := h j (List.mem_cons_self ..)
            have h1 := ih2 fun i hi => h i (List.mem_cons_of_mem _ hi)
            have h2 := ih j hj (by omega) beat
            have h3 : 1 ≤ (B.mv j).length := List.length_pos_iff.mpr hn
            rw [List.flatMap_cons, List.flatMap_cons, List.length_append, List.length_append]
            omega
        have nd : ∀ js : List Nat, (∀ j ∈ js, j < k) → (js.Pairwise fun i j => ∀ z ∈ B.mv i, z ∉ B.mv j) → (js.flatMap B.mv).Nodup := fun js => by
          induction js with
          | nil => intro _ _; exact List.nodup_nil
          | cons j js ih2 =>
            intro h p
            rw [List.pairwise_cons] at p
            rw [List.flatMap_cons, List.nodup_append]
            refine ⟨(o.mv_nd (by have := h j (List.mem_cons_self ..); omega)).1, ih2 (fun i hi => h i (List.mem_cons_of_mem _ hi)) p.2, fun a ha b hb e => ?_⟩
            obtain ⟨i, hi, hb⟩ := List.mem_flatMap.mp hb
            exact p.1 i hi a ha (e ▸ hb)
        have h1 := key js fun j hj => ⟨jl j hj, ne j hj⟩
        have e : (B.mv k).length = (js.flatMap B.mv).length := by
          rw [mve]
          show (srtI (uniq (js.flatMap fun j => B.mvs.getD j []))).length = _
          rw [srt_len, show (js.flatMap fun j => B.mvs.getD j []) = js.flatMap B.mv from rfl, uniq_self (nd js jl dj)]
        omega
      | again z j =>
        rw [ep] at jl sub
        have hj := jl j (List.mem_singleton.mpr rfl)
        have := ih j hj (by omega) (beat % B.lg j)
        have := sub j (List.mem_singleton.mpr rfl)
        dsimp only
        omega
      | raise => exact Nat.zero_le _
      | hold => exact Nat.zero_le _
theorem words8 (so : Sound B) {k : Nat} (hk : k < B.P.length) (beat : Int) : (B.words k beat).length ≤ 8 := by
  have h1 := words_len so k hk beat
  have h2 := (so.toOk.mv_nd hk).2
  omega
end
/-! the guide made -/
abbrev gF (B : Bk) : List (Str × U) := [("forms", .lst (B.P.map fun x => x.2.u B.ln B.pn)), ("numbers", .dic (numU (B.P.map (·.1)))), ("limbs", .dic (numU (B.L.map (·.1)))), ("lengths", intsU B.lens), ("ends", .lst (B.ends.map endsU))]
abbrev gU (B : Bk) : U := .obj 1 (gF B)
/-- what stands in the guide -/
structure GIx (B : Bk) : Prop where
  lg : ∀ k, k < B.P.length → O2 opIx (intsU B.lens) (.int (k : Int)) (.int (B.lg k))
  fm : ∀ k, k < B.P.length → O2 opIx (.lst (B.P.map fun x => x.2.u B.ln B.pn)) (.int (k : Int)) ((B.pt k).u B.ln B.pn)
  nm : ∀ k, k < B.P.length → O2 opIx (.dic (numU (B.P.map (·.1)))) (.str (B.pn k)) (.int (k : Int))
  lm : ∀ l, l < B.L.length → O2 opIx (.dic (numU (B.L.map (·.1)))) (.str (B.ln l)) (.int (l : Int))
  en : ∀ k, k < B.P.length → O2 opIx (.lst (B.ends.map endsU)) (.int (k : Int)) (endsU (endL B.L.length (B.ef k)))
theorem Ok.gIx {B : Bk} (o : Ok B) : GIx B := ⟨fun k hk => o_ixl (at_nat (by rw [List.getElem?_map, Bk.lg_at hk]; rfl)), fun k hk => o_ixl (at_nat (by rw [List.getElem?_map, Bk.P_at hk]; rfl)), fun k hk => o_ixd rfl (o.num hk), fun l hl => o_ixd rfl (o.hand hl), fun k hk => o_ixl (at_nat (by
  unfold Bk.ends
  rw [List.getElem?_map, List.getElem?_map, show B.efs[k]? = some (B.ef k) from get_getD (fun _ => none) (by rw [Bk.efs_len]; exact hk)]; rfl))⟩
section
variable {B : Bk} {C : Ctx}
theorem guide_init_u (o : Ok B) (fu : 1000 < C.fuel) (c72 : Fu (C.call 72) [B.u] (intsU B.lens)) (c76 : Fu (C.call 76) [B.u] (.lst (B.ends.map endsU))) :
    FnO (runFn C f_m_Guide_init) (.o (.obj 1 []) :: [B.u].map Sl.s) .non (.o (gU B) :: [B.u].map Sl.s) := by
  have p1 := o.p1
  have l8 := o.l1
  have L1 : Xs C [0] [.o (.obj 1 [("forms", .lst (B.P.map fun x : Str × Pt => x.2.u B.ln B.pn)), ("numbers", .dic [])]), .s B.u, .n, .n, .n, .n, .n] (sFo (gT [2, 3]) (iEn (eOp opIx (eV 1) (eC (.int 1)))) b_m_Guide_init_1) (.nx [.o (.obj 1 [("forms", .lst (B.P.map fun x : Str × Pt => x.2.u B.ln B.pn)), ("numbers", .dic (numU (B.P.map (·.1))))]), .s B.u, .n, .n, .n, .n, .n]) := by
    have nd := o.pn
    have := s_fore (C := C) (io := [0]) (g := gT [2, 3]) (mi := iEn (eOp opIx (eV 1) (eC (.int 1)))) (b := b_m_Guide_init_1) (pe := [.o (.obj 1 [("forms", .lst (B.P.map fun x : Str × Pt => x.2.u B.ln B.pn)), ("numbers", .dic [])]), .s B.u, .n, .n, .n, .n, .n]) (xs := B.P) (f := partU B.ln B.pn) (S := fun j => [.o (.obj 1 [("forms", .lst (B.P.map fun x : Str × Pt => x.2.u B.ln B.pn)), ("numbers", .dic (numU ((B.P.map (·.1)).take j)))]), .s B.u, .n, .n, .n, .n, .n]) (by (repeat first | fail "p" | fail)) (by omega) (by show Fgt _ [.o (.obj 1 [_, ("numbers", .dic [])]), _, _, _, _, _, _]; (repeat first | fail "p" | fail)) (fun j x q => by
      have q2 : (B.P.map (·.1))[j]? = some x.1 := by rw [List.getElem?_map, q]; rfl
      have jl := (List.getElem?_eq_some_iff.mp q2).1
      have tl : ((B.P.map (·.1)).take j).length = j := by rw [List.length_take]; omega
      have sz : (numU ((B.P.map (·.1)).take j)).length < sizeLine := sz_lt (by rw [numU_len, tl]; simp at jl; omega)
      have := numU_put (nd_take nd q2)
      rw [tl] at this
      refine ⟨_, by (repeat first | fail "p" | fail), ?_⟩
      rw [take_snoc_g q2, ← this]
      apply bod_nx
      · unfold b_m_Guide_init_1; (repeat first | fail "p" | fail)
      · (repeat first | fail "p" | fail))
    rw [List.take_of_length_le (show (B.P.map (·.1)).length ≤ B.P.length by simp)] at this
    exact this
  have L2 : Xs C [0] [.o (.obj 1 [("forms", .lst (B.P.map fun x : Str × Pt => x.2.u B.ln B.pn)), ("numbers", .dic (numU (B.P.map (·.1)))), ("limbs", .dic [])]), .s B.u, .n, .n, .n, .n, .n] (sFo (gT [2, 4]) (iEn (eOp opIx (eV 1) (eC (.int 0)))) b_m_Guide_init_2) (.nx [.o (.obj 1 [("forms", .lst (B.P.map fun x : Str × Pt => x.2.u B.ln B.pn)), ("numbers", .dic (numU (B.P.map (·.1)))), ("limbs", .dic (numU (B.L.map (·.1))))]), .s B.u, .n, .n, .n, .n, .n]) := by
    have nd := o.ln
    have := s_fore (C := C) (io := [0]) (g := gT [2, 4]) (mi := iEn (eOp opIx (eV 1) (eC (.int 0)))) (b := b_m_Guide_init_2) (pe := [.o (.obj 1 [("forms", .lst (B.P.map fun x : Str × Pt => x.2.u B.ln B.pn)), ("numbers", .dic (numU (B.P.map (·.1)))), ("limbs", .dic [])]), .s B.u, .n, .n, .n, .n, .n]) (xs := B.L) (f := limbU) (S := fun j => [.o (.obj 1 [("forms", .lst (B.P.map fun x : Str × Pt => x.2.u B.ln B.pn)), ("numbers", .dic (numU (B.P.map (·.1)))), ("limbs", .dic (numU ((B.L.map (·.1)).take j)))]), .s B.u, .n, .n, .n, .n, .n]) (by (repeat first | fail "p" | fail)) (by omega) (by show Fgt _ [.o (.obj 1 [_, _, ("limbs", .dic [])]), _, _, _, _, _, _]; (repeat first | fail "p" | fail)) (fun j x q => by
      have q2 : (B.L.map (·.1))[j]? = some x.1 := by rw [List.getElem?_map, q]; rfl
      have jl := (List.getElem?_eq_some_iff.mp q2).1
      have tl : ((B.L.map (·.1)).take j).length = j := by rw [List.length_take]; omega
      have sz : (numU ((B.L.map (·.1)).take j)).length < sizeLine := sz_lt (by rw [numU_len, tl]; simp at jl; omega)
      have := numU_put (nd_take nd q2)
      rw [tl] at this
      refine ⟨_, by (repeat first | fail "p" | fail), ?_⟩
      rw [take_snoc_g q2, ← this]
      apply bod_nx
      · unfold b_m_Guide_init_2; (repeat first | fail "p" | fail)
      · (repeat first | fail "p" | fail))
    rw [List.take_of_length_le (show (B.L.map (·.1)).length ≤ B.L.length by simp)] at this
    exact this
  show FnO _ [.o (.obj 1 []), .s B.u] _ _
  refine Z.fo_of (io := [0]) rfl (by simp only [List.map_cons, List.map_nil, List.length_cons, List.length_nil, List.cons_append, List.nil_append, Nat.reduceAdd, Nat.reduceSub, List.replicate_succ, List.replicate_zero]; exact rfl) ?_
  (repeat first | fail "p" | with_reducible exact c72 | with_reducible exact c76 | with_reducible exact L1 | with_reducible exact L2 | fail)
  exact outs0 (us := [B.u]) rfl
theorem look_u (o : Ok B) {beat : Int} (b0 : 0 ≤ beat) (b1 : beat ≤ B.lg (B.P.length - 1)) : Fu (runFn C f_m_Guide_look_at) [gU B, .int beat] (.bl (decide (beat = B.lg (B.P.length - 1)))) := by
  have p1 := o.p1
  have ix : O2 opIx (intsU B.lens) (.int (-1)) (.int (B.lg (B.P.length - 1))) := o_ixl (at_m1 (by
    rw [List.getLast?_eq_getElem?, List.length_map, Bk.lens_len, List.getElem?_map, Bk.lg_at (by omega)]; rfl))
  have c1 : O2 opLt (.int beat) (.int 0) (.bl false) := by have := o_lt (p := beat) (q := 0); rwa [decide_eq_false (by omega)] at this
  have c2 : O2 opGt (.int beat) (.int (B.lg (B.P.length - 1))) (.bl false) := by have := o_gt (p := beat) (q := B.lg (B.P.length - 1)); rwa [decide_eq_false (by omega)] at this
  refine fu_of rfl (by simp only [List.map_cons, List.map_nil, List.length_cons, List.length_nil, List.cons_append, List.nil_append, Nat.reduceAdd, Nat.reduceSub, List.replicate_succ, List.replicate_zero]; exact rfl) ?_
  (repeat first | fail "p" | with_reducible exact ix | with_reducible exact c1 | with_reducible exact c2 | fail)
end
theorem guide_new {B : Bk} (o : Sound B) (n : Nat) : Ff ((ctx T (n + 7)).make 1) [B.u] (gU B) := by
  obtain ⟨c72, _, c76⟩ := calls29 o n
  exact ff_make T (guide_init_u (C := ctx T (n + 5)) o.toOk (fuT _) c72.fu c76.fu)
/-! words at a beat: the code -/
section
variable {B : Bk} {C : Ctx}
def WordsF (B : Bk) (C : Ctx) (k : Nat) : Prop := ∀ beat, 0 ≤ beat → Fu (C.meth 1 4) [gU B, .int (k : Nat), .int beat] (.lst ((B.words k beat).map U.str))
def btR (B : Bk) (js : List Nat) (beat : Int) : Int := js.foldl (fun b j => b - B.lg j) beat
theorem rowW_snoc {f : Nat → Int → List Str} {j : Nat} : ∀ {js : List Nat} {beat : Int}, rowW B f (js ++ [j]) beat = rowW B f js beat ++ (if 0 ≤ btR B js beat then f j (btR B js beat) else [])
  | [], beat => by show _ ++ [] = [] ++ _; rw [List.append_nil, List.nil_append]; rfl
  | i :: js, beat => by
    show _ ++ rowW B f (js ++ [j]) (beat - B.lg i) = (_ ++ rowW B f js (beat - B.lg i)) ++ _
    rw [rowW_snoc, List.append_assoc]; rfl
theorem words_u (so : Sound B) (fu : 1000 < C.fuel) {k : Nat} (hk : k < B.P.length) (wf : ∀ j, j < k → WordsF B C j) {beat : Int} (b0 : 0 ≤ beat) : Fu (runFn C f_m_Guide_words) [gU B, .int (k : Nat), .int beat] (.lst ((B.words k beat).map U.str)) := by
  have o := so.toOk
  have op := o.pt_ok hk
  have jl := op.js_lt
  have g := o.gIx
  have fm := g.fm k hk
  have lgk := g.lg k hk
  have we := o.words_eq hk beat
  by_cases c : B.lg k ≤ beat
  · rw [if_pos c] at we
    rw [we]
    have ge : O2 opGe (.int beat) (.int (B.lg k)) (.bl true) := by have := o_ge (p := beat) (q := B.lg k); rwa [decide_eq_true c] at this
    generalize (B.pt k).u B.ln B.pn = xu at fm
    show Fu _ _ (.lst [])
    refine fu_of rfl (by simp only [List.map_cons, List.map_nil, List.length_cons, List.length_nil, List.cons_append, List.nil_append, Nat.reduceAdd, Nat.reduceSub, List.replicate_succ, List.replicate_zero]; exact rfl) ?_
    (repeat first | fail "p" | with_reducible exact fm | with_reducible exact lgk | with_reducible exact ge | fail)
  rw [if_neg c] at we
  have ge : O2 opGe (.int beat) (.int (B.lg k)) (.bl false) := by have := o_ge (p := beat) (q := B.lg k); rwa [decide_eq_false c] at this
  rw [we]
  cases ep : B.pt k with
  | raise l t b =>
    rw [ep] at fm
    have fm : O2 opIx (.lst (B.P.map fun x => x.2.u B.ln B.pn)) (.int (k : Int)) (.tup [.str "raise", .str (B.ln l), .int t, .int b]) := fm
    show Fu _ _ (.lst [])
    refine fu_of rfl (by simp only [List.map_cons, List.map_nil, List.length_cons, List.length_nil, List.cons_append, List.nil_append, Nat.reduceAdd, Nat.reduceSub, List.replicate_succ, List.replicate_zero]; exact rfl) ?_; (repeat first | fail "p" | with_reducible exact fm | with_reducible exact lgk | with_reducible exact ge | fail)
  | hold b =>
    rw [ep] at fm
    have fm : O2 opIx (.lst (B.P.map fun x => x.2.u B.ln B.pn)) (.int (k : Int)) (.tup [.str "hold", .int b]) := fm
    show Fu _ _ (.lst [])
    refine fu_of rfl (by simp only [List.map_cons, List.map_nil, List.length_cons, List.length_nil, List.cons_append, List.nil_append, Nat.reduceAdd, Nat.reduceSub, List.replicate_succ, List.replicate_zero]; exact rfl) ?_; (repeat first | fail "p" | with_reducible exact fm | with_reducible exact lgk | with_reducible exact ge | fail)
  | ring w b =>
    rw [ep] at fm
    have fm : O2 opIx (.lst (B.P.map fun x => x.2.u B.ln B.pn)) (.int (k : Int)) (.tup [.str "ring", .str w, .int b]) := fm
    dsimp only
    by_cases c0 : beat = 0
    · rw [if_pos c0]
      show Fu _ _ (.lst [.str w])
      refine fu_of rfl (by simp only [List.map_cons, List.map_nil, List.length_cons, List.length_nil, List.cons_append, List.nil_append, Nat.reduceAdd, Nat.reduceSub, List.replicate_succ, List.replicate_zero]; exact rfl) ?_; (repeat first | fail "p" | with_reducible exact fm | with_reducible exact lgk | with_reducible exact ge | fail)
    · rw [if_neg c0]
      show Fu _ _ (.lst [])
      refine fu_of rfl (by simp only [List.map_cons, List.map_nil, List.length_cons, List.length_nil, List.cons_append, List.nil_append, Nat.reduceAdd, Nat.reduceSub, List.replicate_succ, List.replicate_zero]; exact rfl) ?_; (repeat first | fail "p" | with_reducible exact fm | with_reducible exact lgk | with_reducible exact ge | fail)
  | again z j =>
    rw [ep] at fm jl
    have hj := jl j (List.mem_singleton.mpr rfl)
    have lj := o.lg1 j (by omega)
    have nm := g.nm j (by omega)
    have ixl := g.lg j (by omega)
    have md : O2 opMod (.int beat) (.int (B.lg j)) (.int (beat % B.lg j)) := o_mod (by omega)
    have F := wf j hj (beat % B.lg j) (Int.emod_nonneg _ (by omega))
    have fm : O2 opIx (.lst (B.P.map fun x => x.2.u B.ln B.pn)) (.int (k : Int)) (.tup [.str "again", .int z, .str (B.pn j)]) := fm
    refine fu_of rfl (by simp only [List.map_cons, List.map_nil, List.length_cons, List.length_nil, List.cons_append, List.nil_append, Nat.reduceAdd, Nat.reduceSub, List.replicate_succ, List.replicate_zero]; exact rfl) ?_; (repeat first | fail "p" | with_reducible exact fm | with_reducible exact lgk | with_reducible exact ge | with_reducible exact nm | with_reducible exact ixl | with_reducible exact md | with_reducible exact F | fail)
  | row js =>
    rw [ep] at fm jl op
    have j8 : js.length ≤ 8 := op.2.1
    have jl : ∀ j ∈ js, j < k := jl
    have fm : O2 opIx (.lst (B.P.map fun x => x.2.u B.ln B.pn)) (.int (k : Int)) (.tup [.str "row", .tup (js.map fun j => .str (B.pn j))]) := fm
    have bd : ∀ i, (rowW B B.words (js.take i) beat).length ≤ 8 * i := fun i => by
      induction i with
      | zero => exact Nat.le_refl _
      | succ i ih =>
        by_cases hi : i < js.length
        · rw [take_snoc_g (List.getElem?_eq_getElem hi), rowW_snoc, List.length_append]
          have := jl _ (List.getElem_mem hi)
          split
          · have := words8 so (k := js[i]) (by omega) (btR B (js.take i) beat); omega
          · simp; omega
        · rw [List.take_of_length_le (by omega)]
          rw [List.take_of_length_le (by omega)] at ih
          omega
    have L : Xs C [] [.s (gU B), .s (.int (k : Nat)), .s (.int beat), .s (.tup [.str "row", .tup (js.map fun j => .str (B.pn j))]), .n, .o (.lst []), .n] (sFo (gN 6) (iA (eOp opIx (eV 3) (eC (.int 1)))) b_m_Guide_words_1)
        (.nx [.s (gU B), .s (.int (k : Nat)), .s (.int (btR B js beat)), .s (.tup [.str "row", .tup (js.map fun j => .str (B.pn j))]), .n, .o (.lst ((rowW B B.words js beat).map U.str)), .n]) := by
      have := s_fors (C := C) (io := []) (g := gN 6) (mi := iA (eOp opIx (eV 3) (eC (.int 1)))) (b := b_m_Guide_words_1) (pe := [.s (gU B), .s (.int (k : Nat)), .s (.int beat), .s (.tup [.str "row", .tup (js.map fun j => .str (B.pn j))]), .n, .o (.lst []), .n]) (xs := js) (f := fun j => .str (B.pn j)) (S := fun i => [.s (gU B), .s (.int (k : Nat)), .s (.int (btR B (js.take i) beat)), .s (.tup [.str "row", .tup (js.map fun j => .str (B.pn j))]), .n, .o (.lst ((rowW B B.words (js.take i) beat).map U.str)), .n]) (by (repeat first | fail "p" | fail)) (by omega) (by show Fgt _ [_, _, .s (.int beat), _, _, .o (.lst []), _]; (repeat first | fail "p" | fail)) (fun i j q => by
        have hjk := jl j (List.mem_of_getElem? q)
        have il := (List.getElem?_eq_some_iff.mp q).1
        have nm := g.nm j (by omega)
        have ixl := g.lg j (by omega)
        have b1 := bd i
        have w8 := words8 so (k := j) (by omega) (btR B (js.take i) beat)
        have e1 : btR B (js.take (i + 1)) beat = btR B (js.take i) beat - B.lg j := by unfold btR; rw [take_snoc_g q, List.foldl_append]; rfl
        rw [e1, take_snoc_g q, rowW_snoc]
        obtain ⟨bt, hbt⟩ : ∃ bt, bt = btR B (js.take i) beat := ⟨_, rfl⟩
        obtain ⟨V, hV⟩ : ∃ V, V = rowW B B.words (js.take i) beat := ⟨_, rfl⟩
        rw [← hV] at b1
        rw [← hbt] at w8
        rw [← hbt, ← hV]
        by_cases cb : 0 ≤ bt
        · rw [if_pos cb]
          have F := wf j hjk bt cb
          have sz : (V.map U.str).length + ((B.words j bt).map U.str).length ≤ sizeLine := sz_le (by rw [List.length_map, List.length_map]; omega)
          rw [List.map_append]
          generalize (B.words j bt).map U.str = W at F sz ⊢
          refine ⟨_, by (repeat first | fail "p" | fail), ?_⟩
          apply bod_nx
          · unfold b_m_Guide_words_1; (repeat first | fail "p" | with_reducible exact nm | with_reducible exact ixl | with_reducible exact F | fail)
          · (repeat first | fail "p" | fail)
        · rw [if_neg cb, List.append_nil]
          refine ⟨_, by (repeat first | fail "p" | fail), ?_⟩
          apply bod_nx
          · unfold b_m_Guide_words_1; (repeat first | fail "p" | with_reducible exact nm | with_reducible exact ixl | fail)
          · (repeat first | fail "p" | fail))
      rw [List.take_length] at this
      exact this
    refine fu_of rfl (by simp only [List.map_cons, List.map_nil, List.length_cons, List.length_nil, List.cons_append, List.nil_append, Nat.reduceAdd, Nat.reduceSub, List.replicate_succ, List.replicate_zero]; exact rfl) ?_; (repeat first | fail "p" | with_reducible exact fm | with_reducible exact lgk | with_reducible exact ge | with_reducible exact L | fail)
  | side js =>
    rw [ep] at fm jl op
    have j4 : js.length ≤ 4 := op.2.1
    have jl : ∀ j ∈ js, j < k := jl
    have fm : O2 opIx (.lst (B.P.map fun x => x.2.u B.ln B.pn)) (.int (k : Int)) (.tup [.str "side", .tup (js.map fun j => .str (B.pn j))]) := fm
    have bd : ∀ i, ((js.take i).flatMap fun j => B.words j beat).length ≤ 8 * i := fun i => by
      induction i with
      | zero => exact Nat.le_refl _
      | succ i ih =>
        by_cases hi : i < js.length
        · rw [take_snoc_g (List.getElem?_eq_getElem hi), List.flatMap_append, List.length_append]
          have := jl _ (List.getElem_mem hi)
          have := words8 so (k := js[i]) (by omega) beat
          rw [List.flatMap_cons, List.flatMap_nil, List.append_nil]; omega
        · rw [List.take_of_length_le (by omega)]
          rw [List.take_of_length_le (by omega)] at ih
          omega
    have L : Xs C [] [.s (gU B), .s (.int (k : Nat)), .s (.int beat), .s (.tup [.str "side", .tup (js.map fun j => .str (B.pn j))]), .n, .o (.lst []), .n] (sFo (gN 6) (iA (eOp opIx (eV 3) (eC (.int 1)))) b_m_Guide_words_1)
        (.nx [.s (gU B), .s (.int (k : Nat)), .s (.int beat), .s (.tup [.str "side", .tup (js.map fun j => .str (B.pn j))]), .n, .o (.lst ((js.flatMap fun j => B.words j beat).map U.str)), .n]) := by
      have := s_fors (C := C) (io := []) (g := gN 6) (mi := iA (eOp opIx (eV 3) (eC (.int 1)))) (b := b_m_Guide_words_1) (pe := [.s (gU B), .s (.int (k : Nat)), .s (.int beat), .s (.tup [.str "side", .tup (js.map fun j => .str (B.pn j))]), .n, .o (.lst []), .n]) (xs := js) (f := fun j => .str (B.pn j)) (S := fun i => [.s (gU B), .s (.int (k : Nat)), .s (.int beat), .s (.tup [.str "side", .tup (js.map fun j => .str (B.pn j))]), .n, .o (.lst (((js.take i).flatMap fun j => B.words j beat).map U.str)), .n]) (by (repeat first | fail "p" | fail)) (by omega) (by show Fgt _ [_, _, _, _, _, .o (.lst []), _]; (repeat first | fail "p" | fail)) (fun i j q => by
        have hjk := jl j (List.mem_of_getElem? q)
        have il := (List.getElem?_eq_some_iff.mp q).1
        have nm := g.nm j (by omega)
        have b1 := bd i
        have w8 := words8 so (k := j) (by omega) beat
        have e1 : ((js.take (i + 1)).flatMap fun j => B.words j beat).map U.str = ((js.take i).flatMap fun j => B.words j beat).map U.str ++ (B.words j beat).map U.str := by
          rw [take_snoc_g q, List.flatMap_append, List.map_append]; simp
        rw [e1]
        obtain ⟨V, hV⟩ : ∃ V, V = (js.take i).flatMap fun j => B.words j beat := ⟨_, rfl⟩
        rw [← hV] at b1
        rw [← hV]
        have F := wf j hjk beat b0
        have sz : (V.map U.str).length + ((B.words j beat).map U.str).length ≤ sizeLine := sz_le (by rw [List.length_map, List.length_map]; omega)
        generalize (B.words j beat).map U.str = W at F sz ⊢
        refine ⟨_, by (repeat first | fail "p" | fail), ?_⟩
        apply bod_nx
        · unfold b_m_Guide_words_1; (repeat first | fail "p" | with_reducible exact nm | with_reducible exact F | fail)
        · (repeat first | fail "p" | fail))
      rw [List.take_length] at this
      exact this
    refine fu_of rfl (by simp only [List.map_cons, List.map_nil, List.length_cons, List.length_nil, List.cons_append, List.nil_append, Nat.reduceAdd, Nat.reduceSub, List.replicate_succ, List.replicate_zero]; exact rfl) ?_; (repeat first | fail "p" | with_reducible exact fm | with_reducible exact lgk | with_reducible exact ge | with_reducible exact L | fail)
theorem words_all (so : Sound B) : ∀ k, k < B.P.length → ∀ n, k + 2 ≤ n → WordsF B (ctx T n) k := by
  intro k
  induction k using Nat.strongRecOn with
  | ind k ih =>
    intro hk n hn beat b0
    obtain ⟨n, rfl⟩ : ∃ i, n = i + 1 := ⟨n - 1, by omega⟩
    exact words_u (C := ctx T n) so (fuT n) hk (fun j hj => ih j hj (by omega) n (by omega)) b0
theorem rings_u (so : Sound B) {n : Nat} (hn : 100 ≤ n) {beat : Int} (b0 : 0 ≤ beat) (b1 : beat ≤ B.lg (B.P.length - 1)) : Fu (runFn (ctx T n) f_rings) [B.u, .int beat] (.lst ((B.rings beat).map U.str)) := by
  have o := so.toOk
  have p1 := o.p1
  obtain ⟨m, rfl⟩ : ∃ m, n = m + 7 := ⟨n - 7, by omega⟩
  have G := guide_new so m
  have LK : Fu ((ctx T (m + 7)).meth 1 1) [gU B, .int beat] (.bl (decide (beat = B.lg (B.P.length - 1)))) := look_u (C := ctx T (m + 6)) o b0 b1
  have W := words_all so (B.P.length - 1) (by omega) (m + 7) (by omega) beat b0
  have ln : B1 bLen [.lst (B.P.map (partU B.ln B.pn))] (.int (B.P.length : Int)) := by have := b_lenl (us := B.P.map (partU B.ln B.pn)); rwa [List.length_map] at this
  have sb : O2 opSub (.int (B.P.length : Int)) (.int 1) (.int ((B.P.length - 1 : Nat) : Int)) := by
    have := o_sub (p := (B.P.length : Int)) (q := 1)
    rwa [show (B.P.length : Int) - 1 = ((B.P.length - 1 : Nat) : Int) by omega] at this
  unfold Bk.rings
  by_cases c : beat = B.lg (B.P.length - 1)
  · rw [decide_eq_true c] at LK
    rw [if_pos c]
    show Fu _ _ (.lst [])
    refine fu_of rfl (by simp only [List.map_cons, List.map_nil, List.length_cons, List.length_nil, List.cons_append, List.nil_append, Nat.reduceAdd, Nat.reduceSub, List.replicate_succ, List.replicate_zero]; exact rfl) ?_; (repeat first | fail "p" | with_reducible exact G.fu | with_reducible exact G | with_reducible exact LK | fail)
  · rw [decide_eq_false c] at LK
    rw [if_neg c]
    refine fu_of rfl (by simp only [List.map_cons, List.map_nil, List.length_cons, List.length_nil, List.cons_append, List.nil_append, Nat.reduceAdd, Nat.reduceSub, List.replicate_succ, List.replicate_zero]; exact rfl) ?_; (repeat first | fail "p" | with_reducible exact G.fu | with_reducible exact G | with_reducible exact LK | with_reducible exact ln | with_reducible exact sb | with_reducible exact W | fail)
end
/-! rings counted ahead of a beat, plain -/
def occ (f : Int → Int) : Nat → Int
  | 0 => 0
  | n + 1 => occ f n + f n
theorem occ_add {f : Int → Int} (a : Nat) : ∀ b : Nat, occ f (a + b) = occ f a + occ (fun x => f (a + x)) b
  | 0 => by show occ f a = occ f a + 0; omega
  | b + 1 => by
    show occ f (a + b) + f ((a + b : Nat) : Int) = occ f a + (occ (fun x => f (a + x)) b + f ((a : Int) + (b : Nat)))
    rw [occ_add a b, Int.natCast_add]; omega
theorem occ_congr {f g : Int → Int} : ∀ {n : Nat}, (∀ x : Int, 0 ≤ x → x < n → f x = g x) → occ f n = occ g n
  | 0, _ => rfl
  | n + 1, h => by
    show occ f n + f n = occ g n + g n
    rw [occ_congr fun x h0 h1 => h x h0 (by omega), h n (by omega) (by omega)]
theorem occ_plus {f g : Int → Int} : ∀ {n : Nat}, occ (fun x => f x + g x) n = occ f n + occ g n
  | 0 => rfl
  | n + 1 => by
    show occ (fun x => f x + g x) n + (f n + g n) = (occ f n + f n) + (occ g n + g n)
    rw [occ_plus]; omega
theorem occ_zero {f : Int → Int} : ∀ {n : Nat}, (∀ x : Int, 0 ≤ x → x < n → f x = 0) → occ f n = 0
  | 0, _ => rfl
  | n + 1, h => by
    show occ f n + f n = 0
    rw [occ_zero fun x h0 h1 => h x h0 (by omega), h n (by omega) (by omega)]; rfl
theorem occ_mono {f : Int → Int} (h : ∀ x, 0 ≤ f x) {a b : Nat} (ab : a ≤ b) : occ f a ≤ occ f b := by
  obtain ⟨c, rfl⟩ : ∃ c, b = a + c := ⟨b - a, by omega⟩
  induction c with
  | zero => exact Int.le_refl _
  | succ c ih =>
    have := ih (by omega)
    have h1 := h ((a + c : Nat) : Int)
    show occ f a ≤ occ f (a + c) + f ((a + c : Nat) : Int)
    omega
theorem occ_le {f : Int → Int} {m : Int} (h : ∀ x, f x ≤ m) : ∀ n : Nat, occ f n ≤ m * n
  | 0 => by show (0 : Int) ≤ m * ((0 : Nat) : Int); omega
  | n + 1 => by
    have := occ_le h n
    have h1 := h n
    show occ f n + f n ≤ m * ((n + 1 : Nat) : Int)
    rw [show ((n + 1 : Nat) : Int) = (n : Int) + 1 by omega, Int.mul_add, Int.mul_one]; omega
/-- behind a, all is nought -/
theorem occ_stop {f : Int → Int} {a n : Nat} (h : ∀ x : Int, (a : Int) ≤ x → f x = 0) (an : a ≤ n) : occ f n = occ f a := by
  obtain ⟨c, rfl⟩ : ∃ c, n = a + c := ⟨n - a, by omega⟩
  rw [occ_add, occ_zero (f := fun x => f (a + x)) fun x h0 _ => h ((a : Int) + x) (by omega)]; omega
/-- moved behind a: nought ahead of it -/
theorem occ_shift {f : Int → Int} {a : Nat} (h : ∀ x : Int, x < 0 → f x = 0) (n : Nat) : occ (fun x => f (x - a)) n = occ f (n - a) := by
  by_cases c : n ≤ a
  · rw [show n - a = 0 by omega, occ_zero fun x h0 h1 => h _ (by omega)]; rfl
  · obtain ⟨b, rfl⟩ : ∃ b, n = a + b := ⟨n - a, by omega⟩
    rw [occ_add, occ_zero (n := a) fun x h0 h1 => h _ (by omega), show a + b - a = b by omega, Int.zero_add]
    exact occ_congr fun x h0 h1 => by show f ((a : Int) + x - a) = f x; rw [show (a : Int) + x - a = x by omega]
/-- turns of a -/
theorem occ_turns {f g : Int → Int} {a : Nat} (a1 : 1 ≤ a) (h : ∀ x : Int, 0 ≤ x → f x = g (x % a)) : ∀ t r : Nat, occ f (t * a + r) = t * occ g a + occ f r := by
  intro t
  induction t with
  | zero => intro r; show occ f (0 * a + r) = _; rw [Nat.zero_mul, Nat.zero_add]; show _ = (0 : Int) * _ + _; rw [Int.zero_mul, Int.zero_add]
  | succ t ih =>
    intro r
    have e1 : occ (fun x => f (a + x)) (t * a + r) = occ f (t * a + r) := occ_congr fun x h0 _ => by
      rw [h x h0, h ((a : Int) + x) (by omega), Int.add_comm, Int.add_emod_right]
    have e2 : occ f a = occ g a := occ_congr fun x h0 h1 => by rw [h x h0, Int.emod_eq_of_lt h0 h1]
    rw [show (t + 1) * a + r = a + (t * a + r) by rw [Nat.add_mul, Nat.one_mul]; omega, occ_add, e1, ih, e2, show ((t + 1 : Nat) : Int) = (t : Int) + 1 by omega, Int.add_mul, Int.one_mul]
    omega
section
variable {B : Bk} {w : Str}
def cw (w : Str) (ws : List Str) : Int := (ws.count w : Nat)
theorem cw_nil : cw w [] = 0 := rfl
theorem cw_app {a b : List Str} : cw w (a ++ b) = cw w a + cw w b := by unfold cw; rw [List.count_append]; omega
theorem cw_nn (ws : List Str) : 0 ≤ cw w ws := by unfold cw; omega
/-- the rings of a word ahead of a beat of a part -/
def Bk.rgn (B : Bk) (w : Str) (k : Nat) (n : Int) : Int := occ (fun x => cw w (B.words k x)) n.toNat
def Bk.cnt (B : Bk) (w : Str) (k : Nat) : Int := B.rgn w k (B.lg k)
theorem words_over (o : Ok B) {k : Nat} (hk : k < B.P.length) {x : Int} (h : B.lg k ≤ x) : B.words k x = [] := by rw [o.words_eq hk, if_pos h]
theorem rgn_zero {k : Nat} : B.rgn w k 0 = 0 := rfl
theorem rgn_neg {k : Nat} {n : Int} (h : n ≤ 0) : B.rgn w k n = 0 := by unfold Bk.rgn; rw [show n.toNat = 0 by omega]; rfl
theorem rgn_succ {k : Nat} {n : Int} (h : 0 ≤ n) : B.rgn w k (n + 1) = B.rgn w k n + cw w (B.words k n) := by
  unfold Bk.rgn
  rw [show (n + 1).toNat = n.toNat + 1 by omega]
  show _ + cw w (B.words k (n.toNat : Int)) = _
  rw [Int.toNat_of_nonneg h]
theorem rgn_over (o : Ok B) {k : Nat} (hk : k < B.P.length) {n : Int} (h : B.lg k ≤ n) : B.rgn w k n = B.cnt w k := by
  have l1 := o.lg1 k hk
  unfold Bk.cnt Bk.rgn
  exact occ_stop (fun x hx => by rw [words_over o hk (by omega), cw_nil]) (by omega)
theorem rgn_mono {k : Nat} {a b : Int} (h : a ≤ b) : B.rgn w k a ≤ B.rgn w k b := occ_mono (fun x => cw_nn _) (by omega)
theorem rgn_nn {k : Nat} {a : Int} : 0 ≤ B.rgn w k a := by
  by_cases h : 0 ≤ a
  · have := rgn_mono (B := B) (w := w) (k := k) h
    rwa [rgn_zero] at this
  · rw [rgn_neg (by omega)]; exact Int.le_refl _
theorem rgn_none (o : Ok B) {k : Nat} (hk : k < B.P.length) (h : B.cnt w k = 0) (n : Int) : B.rgn w k n = 0 := by
  have h0 := rgn_nn (B := B) (w := w) (k := k) (a := n)
  by_cases c : B.lg k ≤ n
  · rw [rgn_over o hk c, h]
  · have := rgn_mono (B := B) (w := w) (k := k) (show n ≤ B.lg k by omega)
    unfold Bk.cnt at h
    omega
theorem cnt_le (so : Sound B) {k : Nat} (hk : k < B.P.length) : 0 ≤ B.cnt w k ∧ B.cnt w k ≤ 8 * B.lg k := by
  refine ⟨rgn_nn, ?_⟩
  have l1 := so.toOk.lg1 k hk
  have := occ_le (f := fun x => cw w (B.words k x)) (m := 8) (fun x => by
    have := words8 so hk x
    have h2 : (B.words k x).count w ≤ (B.words k x).length := List.count_le_length
    show ((B.words k x).count w : Int) ≤ 8
    omega) (B.lg k).toNat
  rw [Int.toNat_of_nonneg (by omega)] at this
  exact this
theorem rgn_ring (o : Ok B) {k : Nat} (hk : k < B.P.length) {v : Str} {b : Int} (e : B.pt k = .ring v b) {n : Int} (h : 0 < n) : B.rgn w k n = if v = w then 1 else 0 := by
  have l1 := o.lg1 k hk
  have h1 : ∀ x : Int, 1 ≤ x → cw w (B.words k x) = 0 := fun x hx => by
    rw [o.words_eq hk]
    split
    · rfl
    · rw [e]
      show cw w (if x = 0 then [v] else []) = 0
      rw [if_neg (by omega)]; rfl
  unfold Bk.rgn
  rw [occ_stop (a := 1) (fun x hx => h1 x (by omega)) (by omega)]
  show 0 + cw w (B.words k ((0 : Nat) : Int)) = _
  rw [o.words_eq hk, if_neg (by omega), e]
  show 0 + cw w (if ((0 : Nat) : Int) = 0 then [v] else []) = _
  rw [if_pos (show ((0 : Nat) : Int) = 0 from rfl)]
  unfold cw
  by_cases c : v = w
  · subst c; simp
  · rw [if_neg c, List.count_singleton, if_neg (by simpa using c)]; rfl
theorem rgn_raise (o : Ok B) {k : Nat} (hk : k < B.P.length) (e : (∃ l t b, B.pt k = .raise l t b) ∨ ∃ b, B.pt k = .hold b) (n : Int) : B.rgn w k n = 0 := by
  unfold Bk.rgn
  refine occ_zero fun x _ _ => ?_
  rw [o.words_eq hk]
  split
  · rfl
  · rcases e with ⟨l, t, b, e⟩ | ⟨b, e⟩ <;> rw [e] <;> rfl
/-- of parts one behind the other -/
def Bk.rgR (B : Bk) (w : Str) : List Nat → Int → Int
  | [], _ => 0
  | j :: js, n => B.rgn w j n + B.rgR w js (max 0 (n - B.lg j))
theorem rgR_occ (o : Ok B) : ∀ {js : List Nat}, (∀ j ∈ js, j < B.P.length) → ∀ n : Int, occ (fun x => cw w (rowW B B.words js x)) n.toNat = B.rgR w js n
  | [], _, n => occ_zero fun x _ _ => rfl
  | j :: js, hj, n => by
    have l0 := o.lg0 j
    unfold Bk.rgR
    rw [← rgR_occ o fun i hi => hj i (List.mem_cons_of_mem _ hi)]
    have e1 : occ (fun x => cw w (rowW B B.words (j :: js) x)) n.toNat = occ (fun x => cw w (B.words j x) + cw w (rowW B B.words js (x - (B.lg j).toNat))) n.toNat := occ_congr fun x h0 _ => by
      show cw w ((if 0 ≤ x then B.words j x else []) ++ rowW B B.words js (x - B.lg j)) = _
      rw [if_pos h0, cw_app, Int.toNat_of_nonneg l0]
    rw [e1, occ_plus, occ_shift (f := fun x => cw w (rowW B B.words js x)) (a := (B.lg j).toNat) (fun x hx => by rw [rowW_neg o.lg0 hx]; rfl), show (max 0 (n - B.lg j)).toNat = n.toNat - (B.lg j).toNat by omega]
    rfl
theorem rgn_row (o : Ok B) {k : Nat} (hk : k < B.P.length) {js : List Nat} (e : B.pt k = .row js) {n : Int} (h : n ≤ B.lg k) : B.rgn w k n = B.rgR w js n := by
  have jl := (o.pt_ok hk).js_lt
  rw [e] at jl
  rw [← rgR_occ o fun j hj => by have := jl j hj; omega]
  refine occ_congr fun x h0 h1 => ?_
  rw [o.words_eq hk, if_neg (by omega), e]
theorem rgR_over (o : Ok B) : ∀ {js : List Nat}, (∀ j ∈ js, j < B.P.length) → ∀ n : Int, (js.map B.lg).sum ≤ n → B.rgR w js n = (js.map (B.cnt w)).sum
  | [], _, _, _ => rfl
  | j :: js, hj, n, h => by
    have l1 := o.lg1 j (hj j (List.mem_cons_self ..))
    have pos : 0 ≤ (js.map B.lg).sum := by have := sum_ge (js := js) (f := B.lg) fun i hi => o.lg1 i (hj i (List.mem_cons_of_mem _ hi)); omega
    rw [List.map_cons, List.sum_cons] at h
    unfold Bk.rgR
    rw [rgn_over o (hj j (List.mem_cons_self ..)) (by omega), rgR_over o (fun i hi => hj i (List.mem_cons_of_mem _ hi)) _ (by omega), List.map_cons, List.sum_cons]
theorem side_occ : ∀ (js : List Nat) (n : Nat), occ (fun x => cw w (js.flatMap fun j => B.words j x)) n = (js.map fun j => occ (fun x => cw w (B.words j x)) n).sum
  | [], n => occ_zero fun x _ _ => rfl
  | j :: js, n => by
    rw [List.map_cons, List.sum_cons, ← side_occ js n, ← occ_plus]
    exact occ_congr fun x _ _ => by rw [List.flatMap_cons, cw_app]
theorem rgn_side (o : Ok B) {k : Nat} (hk : k < B.P.length) {js : List Nat} (e : B.pt k = .side js) {n : Int} (h : n ≤ B.lg k) : B.rgn w k n = (js.map fun j => B.rgn w j n).sum := by
  unfold Bk.rgn
  rw [← side_occ]
  refine occ_congr fun x h0 h1 => ?_
  rw [o.words_eq hk, if_neg (by omega), e]
theorem rgn_again (o : Ok B) {k : Nat} (hk : k < B.P.length) {z : Int} {j : Nat} (e : B.pt k = .again z j) {n : Int} (h0 : 0 ≤ n) (h : n ≤ B.lg k) : B.rgn w k n = n / B.lg j * B.cnt w j + B.rgn w j (n % B.lg j) := by
  have jl := (o.pt_ok hk).js_lt
  rw [e] at jl
  have hj := jl j (List.mem_singleton.mpr rfl)
  have lj := o.lg1 j (by omega)
  obtain ⟨L, hL⟩ : ∃ L : Nat, (L : Int) = B.lg j := ⟨(B.lg j).toNat, Int.toNat_of_nonneg (by omega)⟩
  have e1 : B.rgn w k n = occ (fun x => cw w (B.words j (x % L))) n.toNat := occ_congr fun x x0 x1 => by
    rw [o.words_eq hk, if_neg (by omega), e]
    show cw w (B.words j (x % B.lg j)) = _
    rw [hL]
  have en : n.toNat = (n / B.lg j).toNat * L + (n % B.lg j).toNat := by
    have d0 : 0 ≤ n / B.lg j := Int.ediv_nonneg h0 (by omega)
    have m0 := Int.emod_nonneg n (show B.lg j ≠ 0 by omega)
    have := Int.mul_ediv_add_emod n (B.lg j)
    have : ((n / B.lg j).toNat * L + (n % B.lg j).toNat : Int) = n := by
      rw [Int.toNat_of_nonneg d0, Int.toNat_of_nonneg m0, hL, Int.mul_comm]; exact this
    omega
  have m0 := Int.emod_nonneg n (show B.lg j ≠ 0 by omega)
  have m1 := Int.emod_lt_of_pos n (show 0 < B.lg j by omega)
  have d0 : 0 ≤ n / B.lg j := Int.ediv_nonneg h0 (by omega)
  rw [e1, en, occ_turns (g := fun x => cw w (B.words j x)) (a := L) (by omega) (fun x _ => rfl), Int.toNat_of_nonneg d0]
  unfold Bk.cnt Bk.rgn
  rw [show (B.lg j).toNat = L by omega]
  congr 1
  exact occ_congr fun x x0 x1 => by rw [Int.emod_eq_of_lt x0 (by omega)]
/-- whole parts -/
theorem cnt_eq (o : Ok B) {k : Nat} (hk : k < B.P.length) : B.cnt w k = match B.pt k with
    | .ring v _ => if v = w then 1 else 0
    | .row js => (js.map (B.cnt w)).sum
    | .side js => (js.map (B.cnt w)).sum
    | .again z j => B.cnt w j * z
    | _ => 0 := by
  have op := o.pt_ok hk
  have jl := op.js_lt
  have l1 := o.lg1 k hk
  have lge := o.lg_eq hk
  cases e : B.pt k with
  | raise l t b => exact rgn_raise o hk (.inl ⟨_, _, _, e⟩) _
  | hold b => exact rgn_raise o hk (.inr ⟨_, e⟩) _
  | ring v b => exact rgn_ring o hk e (by omega)
  | row js =>
    rw [e] at jl lge
    have lge : B.lg k = (js.map B.lg).sum := lge
    show B.rgn w k (B.lg k) = _
    rw [rgn_row o hk e (Int.le_refl _), rgR_over o (fun j hj => by have := jl j hj; omega) _ (by omega)]
  | side js =>
    rw [e] at jl lge
    have lge : B.lg k = (maxL (js.map B.lg)).getD 0 := lge
    show B.rgn w k (B.lg k) = _
    rw [rgn_side o hk e (Int.le_refl _)]
    congr 1
    refine List.map_congr_left fun j hj => rgn_over o (by have := jl j hj; omega) ?_
    have ne : js.map B.lg ≠ [] := fun q => by rw [List.map_eq_nil_iff.mp q] at hj; cases hj
    obtain ⟨mm, q1, _, q3⟩ := maxL_ex ne
    rw [lge, q1]
    exact q3 _ (List.mem_map.mpr ⟨j, hj, rfl⟩)
  | again z j =>
    rw [e] at jl lge op
    have hj := jl j (List.mem_singleton.mpr rfl)
    have lj := o.lg1 j (by omega)
    have lge : B.lg k = z * B.lg j := lge
    show B.rgn w k (B.lg k) = _
    rw [rgn_again o hk e (by omega) (Int.le_refl _), lge, Int.mul_ediv_cancel _ (by omega), Int.mul_emod_left, rgn_zero, Int.add_zero, Int.mul_comm]
end
/-! the classes that have a field of the counter's names -/
abbrev cFo : List Nat := [6, 1]
abbrev cNa : List Nat := [6]
abbrev cCo : List Nat := [6]
/-! rings counted: the code -/
abbrev natsL (js : List Nat) : U := .lst (js.map fun j : Nat => U.int (j : Int))
abbrev nmdU (B : Bk) : U := .lst (B.P.map fun x => natsL x.2.js)
section
variable {B : Bk} {C : Ctx}
theorem ip_body {BU : U} {ln pn : Nat → Str} {nm : Str} {p : Pt} {j : Int} {K : List (Key × U)} {Ts : List U} (fu : 1000 < C.fuel) (l8 : p.js.length ≤ 8) (hv : ∀ i ∈ p.js, valU K (.inr (pn i)) = some (.int i)) (sT : Ts.length < sizeLine) (sK : K.length < sizeLine) :
    Xs C [] [.s BU, .o (.dic K), .o (.lst Ts), .s (.int j), .s (.tup [.str nm, p.u ln pn]), .n, .n, .n] b_inner_parts_1 (.nx [.s BU, .o (.dic (putKU K (.inr nm) (.int j))), .o (.lst (Ts ++ [natsL p.js])), .s (.int j), .s (.tup [.str nm, p.u ln pn]), .s (p.u ln pn), .s (natsL p.js), .n]) := by
  cases p with
  | raise => dsimp only [Pt.u, Pt.tag, Pt.its, Pt.js]; show Xs _ _ _ _ (.nx [_, _, .o (.lst (Ts ++ [.lst []])), _, _, _, .s (.lst []), _]); unfold b_inner_parts_1; (repeat first | fail "p" | fail)
  | hold => dsimp only [Pt.u, Pt.tag, Pt.its, Pt.js]; show Xs _ _ _ _ (.nx [_, _, .o (.lst (Ts ++ [.lst []])), _, _, _, .s (.lst []), _]); unfold b_inner_parts_1; (repeat first | fail "p" | fail)
  | ring => dsimp only [Pt.u, Pt.tag, Pt.its, Pt.js]; show Xs _ _ _ _ (.nx [_, _, .o (.lst (Ts ++ [.lst []])), _, _, _, .s (.lst []), _]); unfold b_inner_parts_1; (repeat first | fail "p" | fail)
  | row js =>
    dsimp only [Pt.u, Pt.tag, Pt.its, Pt.js] at l8 hv ⊢
    unfold b_inner_parts_1; (repeat first | fail "p" | with_reducible exact o_ixd rfl (hv _ (by assumption)) | fail)
  | side js =>
    dsimp only [Pt.u, Pt.tag, Pt.its, Pt.js] at l8 hv ⊢
    unfold b_inner_parts_1; (repeat first | fail "p" | with_reducible exact o_ixd rfl (hv _ (by assumption)) | fail)
  | again z i =>
    have := hv i (by simp [Pt.js])
    dsimp only [Pt.u, Pt.tag, Pt.its, Pt.js]
    show Xs _ _ _ _ (.nx [_, _, .o (.lst (Ts ++ [.lst [.int (i : Int)]])), _, _, _, .s (.lst [.int (i : Int)]), _])
    unfold b_inner_parts_1; (repeat first | fail "p" | with_reducible exact o_ixd rfl this | fail)
theorem inner_parts_u (o : Ok B) (fu : 1000 < C.fuel) : Fu (runFn C f_inner_parts) [B.u] (nmdU B) := by
  have p1 := o.p1
  have nd := o.pn
  have L : Xs C [] [.s B.u, .o (.dic []), .o (.lst []), .n, .n, .n, .n, .n] (sFo (gT [3, 4]) (iEn (eOp opIx (eV 0) (eC (.int 1)))) b_inner_parts_1) (.nx [.s B.u, .o (.dic (numU (B.P.map (·.1)))), .o (nmdU B), .n, .n, .n, .n, .n]) := by
    have := s_fore (C := C) (io := []) (g := gT [3, 4]) (mi := iEn (eOp opIx (eV 0) (eC (.int 1)))) (b := b_inner_parts_1) (pe := [.s B.u, .o (.dic []), .o (.lst []), .n, .n, .n, .n, .n]) (xs := B.P) (f := partU B.ln B.pn) (S := fun j => [.s B.u, .o (.dic (numU ((B.P.map (·.1)).take j))), .o (.lst ((B.P.take j).map fun x => natsL x.2.js)), .n, .n, .n, .n, .n]) (by (repeat first | fail "p" | fail)) (by omega) (by show Fgt _ [_, .o (.dic []), .o (.lst []), _, _, _, _, _]; (repeat first | fail "p" | fail)) (fun j x q => by
      have q2 : (B.P.map (·.1))[j]? = some x.1 := by rw [List.getElem?_map, q]; rfl
      have jl := (List.getElem?_eq_some_iff.mp q).1
      have tl : ((B.P.map (·.1)).take j).length = j := by rw [List.length_take, List.length_map]; omega
      have sz : (numU ((B.P.map (·.1)).take j)).length < sizeLine := sz_lt (by rw [numU_len, tl]; omega)
      have op := o.pt j x q
      have X := ip_body (C := C) (BU := B.u) (ln := B.ln) (pn := B.pn) (nm := x.1) (p := x.2) (j := (j : Int)) (K := numU ((B.P.map (·.1)).take j)) (Ts := (B.P.take j).map fun x => natsL x.2.js) fu op.js_len (fun i hi => by
        have il := op.js_lt i hi
        refine numU_val (nd.sublist (List.take_sublist _ _)) ?_
        rw [List.getElem?_take, if_pos il, List.getElem?_map, Bk.P_at (by omega)]; rfl) (sz_lt (by rw [List.length_map, List.length_take]; omega)) sz
      have e := numU_put (nd_take nd q2)
      rw [tl] at e
      rw [e, ← take_snoc_g q2] at X
      have e2 : (B.P.take j).map (fun x => natsL x.2.js) ++ [natsL x.2.js] = (B.P.take (j + 1)).map fun x => natsL x.2.js := by rw [take_snoc_g q, List.map_append]; rfl
      rw [e2] at X
      generalize B.u = BU at X ⊢
      refine ⟨[.s BU, .o (.dic (numU ((B.P.map (·.1)).take j))), .o (.lst ((B.P.take j).map fun x => natsL x.2.js)), .s (.int (j : Int)), .s (.tup [.str x.1, x.2.u B.ln B.pn]), .n, .n, .n], by (repeat first | fail "p" | fail), ?_⟩
      apply bod_nx
      · exact X
      · (repeat first | fail "p" | fail))
    rw [List.take_of_length_le (show (B.P.map (·.1)).length ≤ B.P.length by simp), List.take_of_length_le (Nat.le_refl _)] at this
    exact this
  generalize B.u = BU at L ⊢
  refine fu_of rfl (by simp only [List.map_cons, List.map_nil, List.length_cons, List.length_nil, List.cons_append, List.nil_append, Nat.reduceAdd, Nat.reduceSub, List.replicate_succ, List.replicate_zero]; exact rfl) ?_
  (repeat first | fail "p" | with_reducible exact L | fail)
/-! the counter -/
variable {w : Str}
def Bk.cnts (B : Bk) (w : Str) : List Int := (List.range B.P.length).map (B.cnt w)
abbrev rgF (B : Bk) (w : Str) (cs : List Int) : List (Str × U) := [("forms", .lst (B.P.map fun x => x.2.u B.ln B.pn)), ("named", nmdU B), ("long", intsU B.lens), ("counts", intsU cs)]
abbrev rgU (B : Bk) (w : Str) : U := .obj 6 (rgF B w (B.cnts w))
theorem cnts_len : (B.cnts w).length = B.P.length := by unfold Bk.cnts; rw [List.length_map, List.length_range]
theorem cnts_at {k : Nat} (hk : k < B.P.length) : (B.cnts w)[k]? = some (B.cnt w k) := by unfold Bk.cnts; rw [List.getElem?_map, List.getElem?_range hk]; rfl
structure RgIx (B : Bk) (w : Str) : Prop where
  lg : ∀ k, k < B.P.length → O2 opIx (intsU B.lens) (.int (k : Int)) (.int (B.lg k))
  fm : ∀ k, k < B.P.length → O2 opIx (.lst (B.P.map fun x => x.2.u B.ln B.pn)) (.int (k : Int)) ((B.pt k).u B.ln B.pn)
  nm : ∀ k, k < B.P.length → O2 opIx (nmdU B) (.int (k : Int)) (natsL (B.pt k).js)
  cn : ∀ k, k < B.P.length → O2 opIx (intsU (B.cnts w)) (.int (k : Int)) (.int (B.cnt w k))
theorem Ok.rgIx (o : Ok B) : RgIx B w := ⟨fun k hk => o_ixl (at_nat (by rw [List.getElem?_map, Bk.lg_at hk]; rfl)), fun k hk => o_ixl (at_nat (by rw [List.getElem?_map, Bk.P_at hk]; rfl)), fun k hk => o_ixl (at_nat (by rw [List.getElem?_map, Bk.P_at hk]; rfl)), fun k hk => o_ixl (at_nat (by rw [List.getElem?_map, cnts_at hk]; rfl))⟩
theorem cnt_mul (so : Sound B) {k j : Nat} {z : Int} (hk : k < B.P.length) (e : B.pt k = .again z j) : mulOk (B.cnt w j) z = true := by
  have op := so.toOk.pt_ok hk
  rw [e] at op
  have c := cnt_le (w := w) so (k := j) (by have := op.2.2; omega)
  have l := so.lgb j (by have := op.2.2; omega)
  have z1 := op.2.1
  have z0 := op.1
  exact mulOk_sm (by omega) (by omega)
/-- one turn of the counter's making -/
theorem ri_body (so : Sound B) (fu : 1000 < C.fuel) {BU : U} {k : Nat} (hk : k < B.P.length) :
    ∃ pe2, Xs C [0] [.o (.obj 6 (rgF B w ((B.cnts w).take k))), .s BU, .s (.str w), .s (.int (k : Nat)), .n, .n, .n] b_m_Rings_init_1 (.nx pe2) ∧ Fgt pe2 [.o (.obj 6 (rgF B w ((B.cnts w).take (k + 1)))), .s BU, .s (.str w), .n, .n, .n, .n] := by
  have o := so.toOk
  have op := o.pt_ok hk
  have jl := op.js_lt
  have I := o.rgIx (w := w)
  have fm := I.fm k hk
  have nm := I.nm k hk
  have tk : (B.cnts w).take (k + 1) = (B.cnts w).take k ++ [B.cnt w k] := take_snoc_g (cnts_at hk)
  have cn : ∀ i, i ∈ (B.pt k).js → O2 opIx (intsU ((B.cnts w).take k)) (.int (i : Int)) (.int (B.cnt w i)) := fun i hi => o_ixl (at_nat (by
    have := jl i hi
    rw [List.getElem?_map, List.getElem?_take, if_pos this, cnts_at (by omega)]; rfl))
  have tkl : ((B.cnts w).take k).length < 1000 := by rw [List.length_take]; have := o.p1; omega
  have szc : (((B.cnts w).take k).map U.int).length < sizeLine := sz_lt (by rw [List.length_map]; omega)
  have ce := cnt_eq (w := w) o hk
  have ea : ((B.cnts w).take k ++ [B.cnt w k]).map U.int = ((B.cnts w).take k).map U.int ++ [.int (B.cnt w k)] := by rw [List.map_append]; rfl
  rw [tk]
  unfold rgF
  show ∃ pe2, _ ∧ Fgt pe2 [.o (.obj 6 [_, _, _, ("counts", .lst (((B.cnts w).take k ++ [B.cnt w k]).map U.int))]), _, _, _, _, _, _]
  rw [ea]
  generalize hF : (U.lst (B.P.map fun x => x.2.u B.ln B.pn)) = FU at fm
  generalize hN : nmdU B = NU at nm
  generalize hL : intsU B.lens = LU
  generalize hT : (B.cnts w).take k = cs at cn tkl szc
  have SM : ∀ js : List Nat, js.length ≤ 8 → O2 opIx NU (.int (k : Int)) (natsL js) → (∀ i, i ∈ js → O2 opIx (intsU cs) (.int (i : Int)) (.int (B.cnt w i))) → Xp C [.o (.obj 6 [("forms", FU), ("named", NU), ("long", LU), ("counts", intsU cs)]), .s BU, .s (.str w), .s (.int (k : Nat)), .n, .n, .n] (eBf bSum (aC (eLc [6] (gN 6) (iA (eOp opIx (eFld cNa (eV 0) "named") (eV 3))) tY (eOp opIx (eFld cCo (eV 0) "counts") (eV 6))) aN)) (.int (js.map (B.cnt w)).sum) := fun js l8 nm cn => by
    have LC : Xf C [.o (.obj 6 [("forms", FU), ("named", NU), ("long", LU), ("counts", intsU cs)]), .s BU, .s (.str w), .s (.int (k : Nat)), .n, .n, .n] (eLc [6] (gN 6) (iA (eOp opIx (eFld cNa (eV 0) "named") (eV 3))) tY (eOp opIx (eFld cCo (eV 0) "counts") (eV 6))) (intsU (js.map (B.cnt w))) := by
      show Xf _ _ _ (.lst ((js.map (B.cnt w)).map U.int))
      rw [show (js.map (B.cnt w)).map U.int = js.map fun i => U.int (B.cnt w i) by rw [List.map_map]; rfl]
      apply f_lcm (f := fun j : Nat => U.int (j : Int)) (xs := js)
      case hi => (repeat first | fail "p" | with_reducible exact nm | fail)
      case hw => (repeat first | fail "p" | fail)
      case hn => exact sz_le (by omega)
      case fu => omega
      case hs => intro i hi; have := cn i hi; exact ⟨_, by (repeat first | fail "p" | fail), by (repeat first | fail "p" | with_reducible exact this | fail)⟩
    have LC := LC.p
    (repeat first | fail "p" | with_reducible exact LC | fail)
  cases ep : B.pt k with
  | raise l t b =>
    rw [ep] at fm nm ce
    have ce : B.cnt w k = 0 := ce
    rw [ce]
    have fm : O2 opIx FU (.int (k : Int)) (.tup [.str "raise", .str (B.ln l), .int t, .int b]) := fm
    have S := SM [] (by decide) nm (fun i h => by cases h)
    rw [show (([] : List Nat).map (B.cnt w)).sum = 0 from rfl] at S
    exact ⟨_, by unfold b_m_Rings_init_1; (repeat first | fail "p" | with_reducible exact fm | with_reducible exact S | fail), by (repeat first | fail "p" | fail)⟩
  | hold b =>
    rw [ep] at fm nm ce
    have ce : B.cnt w k = 0 := ce
    rw [ce]
    have fm : O2 opIx FU (.int (k : Int)) (.tup [.str "hold", .int b]) := fm
    have S := SM [] (by decide) nm (fun i h => by cases h)
    rw [show (([] : List Nat).map (B.cnt w)).sum = 0 from rfl] at S
    exact ⟨_, by unfold b_m_Rings_init_1; (repeat first | fail "p" | with_reducible exact fm | with_reducible exact S | fail), by (repeat first | fail "p" | fail)⟩
  | ring v b =>
    rw [ep] at fm nm ce
    have ce : B.cnt w k = if v = w then 1 else 0 := ce
    have fm : O2 opIx FU (.int (k : Int)) (.tup [.str "ring", .str v, .int b]) := fm
    have S := SM [] (by decide) nm (fun i h => by cases h)
    rw [show (([] : List Nat).map (B.cnt w)).sum = 0 from rfl] at S
    rw [ce, show (if v = w then (1 : Int) else 0) = if decide (v = w) = true then 1 else 0 by simp only [decide_eq_true_eq]]
    exact ⟨_, by unfold b_m_Rings_init_1; (repeat first | fail "p" | with_reducible exact fm | with_reducible exact S | fail), by (repeat first | fail "p" | fail)⟩
  | row js =>
    rw [ep] at fm nm ce cn op
    have ce : B.cnt w k = (js.map (B.cnt w)).sum := ce
    have fm : O2 opIx FU (.int (k : Int)) (.tup [.str "row", .tup (js.map fun j => .str (B.pn j))]) := fm
    have S := SM js op.2.1 nm cn
    rw [ce]
    exact ⟨_, by unfold b_m_Rings_init_1; (repeat first | fail "p" | with_reducible exact fm | with_reducible exact S | fail), by (repeat first | fail "p" | fail)⟩
  | side js =>
    rw [ep] at fm nm ce cn op
    have ce : B.cnt w k = (js.map (B.cnt w)).sum := ce
    have fm : O2 opIx FU (.int (k : Int)) (.tup [.str "side", .tup (js.map fun j => .str (B.pn j))]) := fm
    have S := SM js (by have := op.2.1; omega) nm cn
    rw [ce]
    exact ⟨_, by unfold b_m_Rings_init_1; (repeat first | fail "p" | with_reducible exact fm | with_reducible exact S | fail), by (repeat first | fail "p" | fail)⟩
  | again z j =>
    have mk := cnt_mul (w := w) so hk ep
    rw [ep] at fm nm ce cn
    have ce : B.cnt w k = B.cnt w j * z := ce
    have fm : O2 opIx FU (.int (k : Int)) (.tup [.str "again", .int z, .str (B.pn j)]) := fm
    have S := SM [j] (show 1 ≤ 8 by decide) nm cn
    rw [show ([j].map (B.cnt w)).sum = B.cnt w j by simp] at S
    rw [ce]
    exact ⟨_, by unfold b_m_Rings_init_1; (repeat first | fail "p" | with_reducible exact fm | with_reducible exact S | fail), by (repeat first | fail "p" | fail)⟩
theorem rings_init_u (so : Sound B) (fu : 1000 < C.fuel) (c72 : Fu (C.call 72) [B.u] (intsU B.lens)) (c89 : Fu (C.call 89) [B.u] (nmdU B)) : FnO (runFn C f_m_Rings_init) (.o (.obj 6 []) :: [B.u, .str w].map Sl.s) .non (.o (rgU B w) :: [B.u, .str w].map Sl.s) := by
  have p1 := so.toOk.p1
  have L : Xs C [0] [.o (.obj 6 (rgF B w [])), .s B.u, .s (.str w), .n, .n, .n, .n] (sFo (gN 3) (iR1 (eBf bLen (aC (eFld cFo (eV 0) "forms") aN))) b_m_Rings_init_1) (.nx [.o (rgU B w), .s B.u, .s (.str w), .n, .n, .n, .n]) := by
    have lf : B1 bLen [.lst (B.P.map fun x => x.2.u B.ln B.pn)] (.int (B.P.length : Int)) := by
      have := b_lenl (us := B.P.map fun x => x.2.u B.ln B.pn); rwa [List.length_map] at this
    have := s_forn (C := C) (io := [0]) (g := gN 3) (mi := iR1 (eBf bLen (aC (eFld cFo (eV 0) "forms") aN))) (b := b_m_Rings_init_1) (pe := [.o (.obj 6 (rgF B w [])), .s B.u, .s (.str w), .n, .n, .n, .n]) (n := B.P.length) (fun k => [.o (.obj 6 (rgF B w ((B.cnts w).take k))), .s B.u, .s (.str w), .n, .n, .n, .n]) (by generalize B.u = BU; (repeat first | fail "p" | with_reducible exact lf | fail)) (by omega) (by show Fgt _ [.o (.obj 6 (rgF B w [])), _, _, _, _, _, _]; generalize B.u = BU; (repeat first | fail "p" | fail)) (fun k hk => by
      obtain ⟨pe2, X, F⟩ := ri_body (w := w) so fu (BU := B.u) hk
      refine ⟨[.o (.obj 6 (rgF B w ((B.cnts w).take k))), .s B.u, .s (.str w), .s (.int (k : Nat)), .n, .n, .n], by generalize B.u = BU; (repeat first | fail "p" | fail), bod_nx X F⟩)
    rw [List.take_of_length_le (show (B.cnts w).length ≤ B.P.length by rw [cnts_len]; exact Nat.le_refl _)] at this
    exact this
  show FnO _ [.o (.obj 6 []), .s B.u, .s (.str w)] _ _
  have L : Xs C [0] [.o (.obj 6 [("forms", .lst (B.P.map fun x => x.2.u B.ln B.pn)), ("named", nmdU B), ("long", intsU B.lens), ("counts", .lst [])]), .s B.u, .s (.str w), .n, .n, .n, .n] (sFo (gN 3) (iR1 (eBf bLen (aC (eFld cFo (eV 0) "forms") aN))) b_m_Rings_init_1) (.nx [.o (rgU B w), .s B.u, .s (.str w), .n, .n, .n, .n]) := L
  have LC : Xf C [.o (.obj 6 []), .s B.u, .s (.str w), .n, .n, .n, .n] (eLc [5] (gN 5) (iA (eOp opIx (eV 1) (eC (.int 1)))) tY (eOp opIx (eV 5) (eC (.int 1)))) (.lst (B.P.map fun x => x.2.u B.ln B.pn)) := by
    apply f_lcm (f := partU B.ln B.pn) (xs := B.P)
    case hi => (repeat first | fail "p" | fail)
    case hw => (repeat first | fail "p" | fail)
    case hn => exact sz_le (by omega)
    case fu => omega
    case hs => intro x hx; exact ⟨_, by (repeat first | fail "p" | fail), by (repeat first | fail "p" | fail)⟩
  refine Z.fo_of (io := [0]) rfl (by simp only [List.map_cons, List.map_nil, List.length_cons, List.length_nil, List.cons_append, List.nil_append, Nat.reduceAdd, Nat.reduceSub, List.replicate_succ, List.replicate_zero]; exact rfl) ?_
  (repeat first | fail "p" | with_reducible exact c72 | with_reducible exact c89 | with_reducible exact LC | with_reducible exact L | fail)
  exact outs0 (us := [B.u, .str w]) rfl
/-! counted ahead of a beat -/
def RgF (B : Bk) (w : Str) (C : Ctx) (k : Nat) : Prop := ∀ n : Int, 0 ≤ n → Fu (C.meth 6 19) [rgU B w, .int (k : Nat), .int n] (.int (B.rgn w k n))
def mR (B : Bk) (js : List Nat) (n : Int) : Int := js.foldl (fun m j => max 0 (m - B.lg j)) n
theorem mR_nn : ∀ {js : List Nat} {n : Int}, 0 ≤ n → 0 ≤ mR B js n
  | [], _, h => h
  | j :: js, n, h => by
    show 0 ≤ mR B js (max 0 (n - B.lg j))
    exact mR_nn (by omega)
theorem mR_snoc {js : List Nat} {j : Nat} {n : Int} : mR B (js ++ [j]) n = max 0 (mR B js n - B.lg j) := by unfold mR; rw [List.foldl_append]; rfl
theorem rgR_snoc {j : Nat} : ∀ {js : List Nat} {n : Int}, B.rgR w (js ++ [j]) n = B.rgR w js n + B.rgn w j (mR B js n)
  | [], n => by
    show B.rgn w j n + 0 = 0 + B.rgn w j n
    omega
  | i :: js, n => by
    show B.rgn w i n + B.rgR w (js ++ [j]) (max 0 (n - B.lg i)) = B.rgn w i n + B.rgR w js (max 0 (n - B.lg i)) + B.rgn w j (mR B js (max 0 (n - B.lg i)))
    rw [rgR_snoc]; omega
theorem bi0 : B1 bInt [.bl false] (.int 0) := b_intb
theorem bi1 : B1 bInt [.bl true] (.int 1) := b_intb
theorem part_rung_u (so : Sound B) (fu : 1000 < C.fuel) {k : Nat} (hk : k < B.P.length) (rf : ∀ j, j < k → RgF B w C j) {n : Int} (n0 : 0 ≤ n) : Fu (runFn C f_m_Rings_part_rung) [rgU B w, .int (k : Nat), .int n] (.int (B.rgn w k n)) := by
  have o := so.toOk
  have op := o.pt_ok hk
  have jl := op.js_lt
  have I := o.rgIx (w := w)
  have fm := I.fm k hk
  have nm := I.nm k hk
  have lgk := I.lg k hk
  have cnk := I.cn k hk
  have l1 := o.lg1 k hk
  have cb := cnt_le (w := w) so hk
  have lb := so.lgb k hk
  by_cases z0 : n = 0
  · subst z0
    have ge : O2 opGe (.int 0) (.int (B.lg k)) (.bl false) := by have := o_ge (p := 0) (q := B.lg k); rwa [decide_eq_false (by omega)] at this
    have mk : O2 opMul (.int (B.cnt w k)) (.int (if decide ((0 : Int) < 0) = true then 1 else 0)) (.int 0) := by
      rw [if_neg (by decide)]
      have := o_mul (p := B.cnt w k) (q := 0) (mulOk_sm (by omega) (by omega)); rwa [Int.mul_zero] at this
    rw [rgn_zero]
    unfold rgU
    refine fu_of rfl (by simp only [List.map_cons, List.map_nil, List.length_cons, List.length_nil, List.cons_append, List.nil_append, Nat.reduceAdd, Nat.reduceSub, List.replicate_succ, List.replicate_zero]; exact rfl) ?_
    (repeat first | fail "p" | with_reducible exact lgk | with_reducible exact cnk | with_reducible exact ge | with_reducible exact mk | fail)
  have np : 0 < n := by omega
  have m1 : O2 opMul (.int (B.cnt w k)) (.int (if decide (0 < n) = true then 1 else 0)) (.int (B.cnt w k)) := by
    rw [if_pos (decide_eq_true np)]
    have := o_mul (p := B.cnt w k) (q := 1) (mulOk_sm (by omega) (by omega)); rwa [Int.mul_one] at this
  by_cases c : B.lg k ≤ n
  · have ge : O2 opGe (.int n) (.int (B.lg k)) (.bl true) := by have := o_ge (p := n) (q := B.lg k); rwa [decide_eq_true c] at this
    rw [rgn_over o hk c]
    unfold rgU
    refine fu_of rfl (by simp only [List.map_cons, List.map_nil, List.length_cons, List.length_nil, List.cons_append, List.nil_append, Nat.reduceAdd, Nat.reduceSub, List.replicate_succ, List.replicate_zero]; exact rfl) ?_
    (repeat first | fail "p" | with_reducible exact lgk | with_reducible exact cnk | with_reducible exact ge | with_reducible exact m1 | fail)
  have ge : O2 opGe (.int n) (.int (B.lg k)) (.bl false) := by have := o_ge (p := n) (q := B.lg k); rwa [decide_eq_false c] at this
  by_cases cz : B.cnt w k = 0
  · rw [cz] at cnk m1
    rw [rgn_none o hk cz]
    unfold rgU
    refine fu_of rfl (by simp only [List.map_cons, List.map_nil, List.length_cons, List.length_nil, List.cons_append, List.nil_append, Nat.reduceAdd, Nat.reduceSub, List.replicate_succ, List.replicate_zero]; exact rfl) ?_
    (repeat first | fail "p" | with_reducible exact lgk | with_reducible exact cnk | with_reducible exact ge | with_reducible exact m1 | fail)
  have ce := cnt_eq (w := w) o hk
  cases ep : B.pt k with
  | raise l t b => rw [ep] at ce; exact absurd ce cz
  | hold b => rw [ep] at ce; exact absurd ce cz
  | ring v b =>
    rw [ep] at ce fm nm
    have vw : v = w := by
      by_cases h : v = w
      · exact h
      · have ce : B.cnt w k = if v = w then 1 else 0 := ce
        rw [if_neg h] at ce; exact absurd ce cz
    have fm : O2 opIx (.lst (B.P.map fun x => x.2.u B.ln B.pn)) (.int (k : Int)) (.tup [.str "ring", .str v, .int b]) := fm
    have nm : O2 opIx (nmdU B) (.int (k : Int)) (.lst []) := nm
    rw [rgn_ring o hk ep np, if_pos vw]
    have be : O2 opEq (.str "ring") (.str "ring") (.bl true) := by have := o_eqs (z := ("ring" : Str)) (w := "ring"); rwa [decide_eq_true rfl] at this
    have L : Xs C [] [.s (rgU B w), .s (.int (k : Nat)), .s (.int n), .n, .n, .s (.int 1), .n] (sFo (gN 6) (iA (eOp opIx (eFld cNa (eV 0) "named") (eV 1))) b_m_Rings_part_rung_1) (.nx [.s (rgU B w), .s (.int (k : Nat)), .s (.int n), .n, .n, .s (.int 1), .n]) :=
      s_fors (C := C) (io := []) (g := gN 6) (mi := iA (eOp opIx (eFld cNa (eV 0) "named") (eV 1))) (b := b_m_Rings_part_rung_1) (pe := [.s (rgU B w), .s (.int (k : Nat)), .s (.int n), .n, .n, .s (.int 1), .n]) (xs := ([] : List Nat)) (f := fun j : Nat => U.int (j : Int)) (fun i => [.s (rgU B w), .s (.int (k : Nat)), .s (.int n), .n, .n, .s (.int 1), .n]) (by unfold rgU; show Xi _ _ _ []; (repeat first | fail "p" | with_reducible exact nm | fail)) (by show 0 < _; omega) (by unfold rgU; (repeat first | fail "p" | fail)) (fun i j q => by cases q)
    unfold rgU at L ⊢
    refine fu_of rfl (by simp only [List.map_cons, List.map_nil, List.length_cons, List.length_nil, List.cons_append, List.nil_append, Nat.reduceAdd, Nat.reduceSub, List.replicate_succ, List.replicate_zero]; exact rfl) ?_
    (repeat first | fail "p" | with_reducible exact lgk | with_reducible exact cnk | with_reducible exact ge | with_reducible exact fm | with_reducible exact be | with_reducible exact bi1 | with_reducible exact L | fail)
  | again z j =>
    have jl' := jl
    rw [ep] at fm nm jl' op
    have hj := jl' j (List.mem_singleton.mpr rfl)
    have lj := o.lg1 j (by omega)
    have lbj := so.lgb j (by omega)
    have cbj := cnt_le (w := w) so (k := j) (by omega)
    have fm : O2 opIx (.lst (B.P.map fun x => x.2.u B.ln B.pn)) (.int (k : Int)) (.tup [.str "again", .int z, .str (B.pn j)]) := fm
    have nm : O2 opIx (nmdU B) (.int (k : Int)) (.lst [.int (j : Int)]) := nm
    have i0 : O2 opIx (.lst [.int (j : Int)]) (.int 0) (.int (j : Int)) := o_ixl (at_int (by decide) rfl)
    have lgj := I.lg j (by omega)
    have cnj := I.cn j (by omega)
    have dv : B1 bDvm [.int n, .int (B.lg j)] (.tup [.int (n / B.lg j), .int (n % B.lg j)]) := b_dvm (by omega) (divOk_sm (by omega) (by omega))
    have q0 : 0 ≤ n / B.lg j := Int.ediv_nonneg n0 (by omega)
    have q1 : n / B.lg j ≤ n := Int.ediv_le_self _ n0
    have mk : mulOk (n / B.lg j) (B.cnt w j) = true := mulOk_sm (by omega) (by omega)
    have F := rf j hj (n % B.lg j) (Int.emod_nonneg _ (by omega))
    rw [rgn_again o hk ep n0 (by omega)]
    unfold rgU at F ⊢
    refine fu_of rfl (by simp only [List.map_cons, List.map_nil, List.length_cons, List.length_nil, List.cons_append, List.nil_append, Nat.reduceAdd, Nat.reduceSub, List.replicate_succ, List.replicate_zero]; exact rfl) ?_
    (repeat first | fail "p" | with_reducible exact lgk | with_reducible exact cnk | with_reducible exact ge | with_reducible exact fm | with_reducible exact nm | with_reducible exact i0 | with_reducible exact lgj | with_reducible exact cnj | with_reducible exact dv | with_reducible exact F | fail)
  | row js =>
    have jl' := jl
    rw [ep] at fm nm jl' op
    have jl' : ∀ j ∈ js, j < k := jl'
    have l8 : js.length ≤ 8 := op.2.1
    have fm : O2 opIx (.lst (B.P.map fun x => x.2.u B.ln B.pn)) (.int (k : Int)) (.tup [.str "row", .tup (js.map fun j => .str (B.pn j))]) := fm
    have nm : O2 opIx (nmdU B) (.int (k : Int)) (.lst (js.map fun j : Nat => U.int (j : Int))) := nm
    rw [rgn_row o hk ep (by omega)]
    have be : O2 opEq (.str "row") (.str "ring") (.bl false) := by have := o_eqs (z := ("row" : Str)) (w := "ring"); rwa [decide_eq_false (by decide)] at this
    have L : Xs C [] [.s (rgU B w), .s (.int (k : Nat)), .s (.int n), .n, .n, .s (.int 0), .n] (sFo (gN 6) (iA (eOp opIx (eFld cNa (eV 0) "named") (eV 1))) b_m_Rings_part_rung_1) (.nx [.s (rgU B w), .s (.int (k : Nat)), .s (.int (mR B js n)), .n, .n, .s (.int (B.rgR w js n)), .n]) := by
      have := s_fors (C := C) (io := []) (g := gN 6) (mi := iA (eOp opIx (eFld cNa (eV 0) "named") (eV 1))) (b := b_m_Rings_part_rung_1) (pe := [.s (rgU B w), .s (.int (k : Nat)), .s (.int n), .n, .n, .s (.int 0), .n]) (xs := js) (f := fun j : Nat => U.int (j : Int)) (fun i => [.s (rgU B w), .s (.int (k : Nat)), .s (.int (mR B (js.take i) n)), .n, .n, .s (.int (B.rgR w (js.take i) n)), .n]) (by unfold rgU; (repeat first | fail "p" | with_reducible exact nm | fail)) (by omega) (by show Fgt _ [_, _, .s (.int n), _, _, .s (.int 0), _]; unfold rgU; (repeat first | fail "p" | fail)) (fun i j q => by
        have hj := jl' j (List.mem_of_getElem? q)
        have lgj := I.lg j (by omega)
        have F := rf j hj (mR B (js.take i) n) (mR_nn n0)
        rw [take_snoc_g q, mR_snoc, rgR_snoc]
        unfold rgU at F ⊢
        refine ⟨_, by (repeat first | fail "p" | fail), ?_⟩
        apply bod_nx
        · unfold b_m_Rings_part_rung_1; (repeat first | fail "p" | with_reducible exact F | with_reducible exact fm | with_reducible exact lgj | fail)
        · (repeat first | fail "p" | fail))
      rw [List.take_of_length_le (Nat.le_refl _)] at this
      exact this
    unfold rgU at L ⊢
    refine fu_of rfl (by simp only [List.map_cons, List.map_nil, List.length_cons, List.length_nil, List.cons_append, List.nil_append, Nat.reduceAdd, Nat.reduceSub, List.replicate_succ, List.replicate_zero]; exact rfl) ?_
    (repeat first | fail "p" | with_reducible exact lgk | with_reducible exact cnk | with_reducible exact ge | with_reducible exact fm | with_reducible exact be | with_reducible exact bi0 | with_reducible exact L | fail)
  | side js =>
    have jl' := jl
    rw [ep] at fm nm jl' op
    have jl' : ∀ j ∈ js, j < k := jl'
    have l8 : js.length ≤ 4 := op.2.1
    have fm : O2 opIx (.lst (B.P.map fun x => x.2.u B.ln B.pn)) (.int (k : Int)) (.tup [.str "side", .tup (js.map fun j => .str (B.pn j))]) := fm
    have nm : O2 opIx (nmdU B) (.int (k : Int)) (.lst (js.map fun j : Nat => U.int (j : Int))) := nm
    rw [rgn_side o hk ep (by omega)]
    have be : O2 opEq (.str "side") (.str "ring") (.bl false) := by have := o_eqs (z := ("side" : Str)) (w := "ring"); rwa [decide_eq_false (by decide)] at this
    have L : Xs C [] [.s (rgU B w), .s (.int (k : Nat)), .s (.int n), .n, .n, .s (.int 0), .n] (sFo (gN 6) (iA (eOp opIx (eFld cNa (eV 0) "named") (eV 1))) b_m_Rings_part_rung_1) (.nx [.s (rgU B w), .s (.int (k : Nat)), .s (.int n), .n, .n, .s (.int (js.map fun j => B.rgn w j n).sum), .n]) := by
      have := s_fors (C := C) (io := []) (g := gN 6) (mi := iA (eOp opIx (eFld cNa (eV 0) "named") (eV 1))) (b := b_m_Rings_part_rung_1) (pe := [.s (rgU B w), .s (.int (k : Nat)), .s (.int n), .n, .n, .s (.int 0), .n]) (xs := js) (f := fun j : Nat => U.int (j : Int)) (fun i => [.s (rgU B w), .s (.int (k : Nat)), .s (.int n), .n, .n, .s (.int ((js.take i).map fun j => B.rgn w j n).sum), .n]) (by unfold rgU; (repeat first | fail "p" | with_reducible exact nm | fail)) (by omega) (by show Fgt _ [_, _, _, _, _, .s (.int 0), _]; unfold rgU; (repeat first | fail "p" | fail)) (fun i j q => by
        have hj := jl' j (List.mem_of_getElem? q)
        have lgj := I.lg j (by omega)
        have F := rf j hj n n0
        rw [take_snoc_g q, List.map_append, List.sum_append, show (([j] : List Nat).map fun j => B.rgn w j n).sum = B.rgn w j n by simp]
        unfold rgU at F ⊢
        refine ⟨_, by (repeat first | fail "p" | fail), ?_⟩
        apply bod_nx
        · unfold b_m_Rings_part_rung_1; (repeat first | fail "p" | with_reducible exact F | with_reducible exact fm | with_reducible exact lgj | fail)
        · (repeat first | fail "p" | fail))
      rw [List.take_of_length_le (Nat.le_refl _)] at this
      exact this
    unfold rgU at L ⊢
    refine fu_of rfl (by simp only [List.map_cons, List.map_nil, List.length_cons, List.length_nil, List.cons_append, List.nil_append, Nat.reduceAdd, Nat.reduceSub, List.replicate_succ, List.replicate_zero]; exact rfl) ?_
    (repeat first | fail "p" | with_reducible exact lgk | with_reducible exact cnk | with_reducible exact ge | with_reducible exact fm | with_reducible exact be | with_reducible exact bi0 | with_reducible exact L | fail)
theorem all_rung (so : Sound B) : ∀ k, k < B.P.length → ∀ n, k + 1 ≤ n → RgF B w (ctx T n) k := by
  intro k
  induction k using Nat.strongRecOn with
  | ind k ih =>
    intro hk n hn m m0
    obtain ⟨n, rfl⟩ : ∃ i, n = i + 1 := ⟨n - 1, by omega⟩
    exact part_rung_u (C := ctx T n) so (fuT n) hk (fun j hj => ih j hj (by omega) n (by omega)) m0
theorem ahead_call (so : Sound B) {n : Nat} (hn : 71 ≤ n) {x : Int} (x0 : 0 ≤ x) : Fu ((ctx T n).meth 6 9) [rgU B w, .int x] (.int (B.rgn w (B.P.length - 1) x)) := by
  obtain ⟨n, rfl⟩ : ∃ i, n = i + 1 := ⟨n - 1, by omega⟩
  have p1 := so.toOk.p1
  have F := all_rung (w := w) so (B.P.length - 1) (by omega) n (by omega) x x0
  have ln : B1 bLen [.lst (B.P.map fun x => x.2.u B.ln B.pn)] (.int (B.P.length : Int)) := by
    have := b_lenl (us := B.P.map fun x => x.2.u B.ln B.pn); rwa [List.length_map] at this
  have sb : O2 opSub (.int (B.P.length : Int)) (.int 1) (.int ((B.P.length - 1 : Nat) : Int)) := by
    have := o_sub (p := (B.P.length : Int)) (q := 1)
    rwa [show (B.P.length : Int) - 1 = ((B.P.length - 1 : Nat) : Int) by omega] at this
  show Fu (runFn (ctx T n) f_m_Rings_ahead) _ _
  unfold rgU at F ⊢
  refine fu_of rfl (by simp only [List.map_cons, List.map_nil, List.length_cons, List.length_nil, List.cons_append, List.nil_append, Nat.reduceAdd, Nat.reduceSub, List.replicate_succ, List.replicate_zero]; exact rfl) ?_
  (repeat first | fail "p" | with_reducible exact F | with_reducible exact ln | with_reducible exact sb | fail)
theorem rings_make (so : Sound B) {n : Nat} (hn : 10 ≤ n) : Ff ((ctx T n).make 6) [B.u, .str w] (rgU B w) := by
  obtain ⟨m, rfl⟩ : ∃ m, n = m + 7 := ⟨n - 7, by omega⟩
  exact ff_make T (rings_init_u (C := ctx T (m + 5)) so (fuT _) (len_call so m).fu (inner_parts_u (C := ctx T (m + 4)) so.toOk (fuT _)))
theorem ring_count_call (so : Sound B) {n : Nat} (hn : 80 ≤ n) {x : Int} (x0 : 0 ≤ x) (x1 : x ≤ B.lg (B.P.length - 1) + 1) : Fu ((ctx T n).call 93) [B.u, .str w, .int x] (.int (B.rgn w (B.P.length - 1) x)) := by
  obtain ⟨m, rfl⟩ : ∃ m, n = m + 6 := ⟨n - 6, by omega⟩
  have p1 := so.toOk.p1
  have A := ahead_call (w := w) so (n := m + 5) (by omega) x0
  have M := rings_make (w := w) so (n := m + 5) (by omega)
  have L := (len_call so m).fu
  have ix : O2 opIx (intsU B.lens) (.int (-1)) (.int (B.lg (B.P.length - 1))) := o_ixl (at_m1 (by
    rw [List.getLast?_eq_getElem?, List.length_map, Bk.lens_len, List.getElem?_map, Bk.lg_at (by omega)]; rfl))
  obtain ⟨lg, hlg⟩ : ∃ lg, lg = B.lg (B.P.length - 1) := ⟨_, rfl⟩
  rw [← hlg] at ix x1
  have LK : Fu ((ctx T (m + 5)).call 90) [.int x, .int (lg + 1)] .non := by
    show Fu (runFn (ctx T (m + 4)) f_look_at_beat) _ _
    have c1 : O2 opLt (.int x) (.int 0) (.bl false) := by have := o_lt (p := x) (q := 0); rwa [decide_eq_false (by omega)] at this
    have c2 : O2 opGt (.int x) (.int (lg + 1)) (.bl false) := by have := o_gt (p := x) (q := lg + 1); rwa [decide_eq_false (by omega)] at this
    refine fu_of rfl (by simp only [List.map_cons, List.map_nil, List.length_cons, List.length_nil, List.cons_append, List.nil_append, Nat.reduceAdd, Nat.reduceSub, List.replicate_succ, List.replicate_zero]; exact rfl) ?_
    (repeat first | fail "p" | with_reducible exact c1 | with_reducible exact c2 | fail)
  show Fu (runFn (ctx T (m + 5)) f_ring_count) _ _
  have X : Xp (ctx T (m + 5)) [.s B.u, .s (.str w), .s (.int x)] (eMeth [6] (eMake 6 (aC (eV 0) (aC (eV 1) aN))) 9 "ahead" (aC (eV 2) aN)) (.int (B.rgn w (B.P.length - 1) x)) := by
    generalize B.u = BU at M ⊢
    (repeat first | fail "p" | with_reducible exact M | with_reducible exact A | fail)
  generalize B.u = BU at L X ⊢
  refine fu_of rfl (by simp only [List.map_cons, List.map_nil, List.length_cons, List.length_nil, List.cons_append, List.nil_append, Nat.reduceAdd, Nat.reduceSub, List.replicate_succ, List.replicate_zero]; exact rfl) ?_
  (repeat first | fail "p" | with_reducible exact L | with_reducible exact ix | with_reducible exact LK | with_reducible exact X | fail)
end
/-! the beat of a ring -/
section
variable {B : Bk} {w : Str}
theorem lt_t {x m : Int} (h : x < m) : O2 opLt (.int x) (.int m) (.bl true) := by
  have := o_lt (p := x) (q := m)
  rwa [decide_eq_true h] at this
theorem lt_f {x m : Int} (h : ¬ x < m) : O2 opLt (.int x) (.int m) (.bl false) := by
  have := o_lt (p := x) (q := m)
  rwa [decide_eq_false h] at this
theorem half_bits {l h m : Int} (lh : l < h) (h0 : 0 ≤ m) (hm : m ≤ (h - l) / 2) : (if 0 < m then m.toNat.log2 + 1 else 0) < (h - l).toNat.log2 + 1 := by
  by_cases c : 0 < m
  · rw [if_pos c]
    have e : m.toNat.log2 < (h - l).toNat.log2 := by
      have n0 : (h - l).toNat ≠ 0 := by omega
      have m0 : m.toNat ≠ 0 := by omega
      have : 2 ^ (m.toNat.log2 + 1) ≤ (h - l).toNat := by
        have h1 := Nat.log2_self_le m0
        have h2 : 2 * m.toNat ≤ (h - l).toNat := by omega
        rw [Nat.pow_succ]; omega
      exact (Nat.le_log2 n0).mpr this
    omega
  · rw [if_neg c]; omega
theorem first_beyond_u (so : Sound B) {n : Nat} (hn : 71 ≤ n) {num hi : Int} (hi0 : 0 ≤ hi) (hib : hi ≤ 10 ^ 60) (hb : num < B.rgn w (B.P.length - 1) (hi + 1)) (n0 : 0 ≤ num) :
    ∃ b, (0 ≤ b ∧ b ≤ hi) ∧ B.rgn w (B.P.length - 1) b ≤ num ∧ num < B.rgn w (B.P.length - 1) (b + 1) ∧ Fu (runFn (ctx T n) f_first_beyond) [rgU B w, .int num, .int 0, .int hi] (.int b) := by
  have fu := fuT n
  obtain ⟨a', fa, ga, X⟩ := s_whs (C := ctx T n) (io := []) (t := tV (eOp opLt (eV 2) (eV 3))) (b := b_first_beyond_1) (σ := Int × Int) (pe := [.s (rgU B w), .s (.int num), .s (.int 0), .s (.int hi), .n]) (fun a => [.s (rgU B w), .s (.int num), .s (.int a.1), .s (.int a.2), .n])
    (fun a => if 0 < a.2 - a.1 then (a.2 - a.1).toNat.log2 + 1 else 0) (fun a => (0 ≤ a.1 ∧ a.1 ≤ a.2 ∧ a.2 ≤ hi) ∧ num < B.rgn w (B.P.length - 1) (a.2 + 1) ∧ B.rgn w (B.P.length - 1) a.1 ≤ num) (fun a => ¬ a.1 < a.2) (fun a ⟨⟨a0, a1, a2⟩, g1, g2⟩ => by
      obtain ⟨l, h⟩ := a
      have a0 : 0 ≤ l := a0
      have a1 : l ≤ h := a1
      have a2 : h ≤ hi := a2
      by_cases c : l < h
      · refine .inr ⟨by show Xb _ [_, _, .s (.int l), .s (.int h), _] _ _; unfold rgU; (repeat first | fail "p" | with_reducible exact lt_t c | fail), ?_⟩
        obtain ⟨m, hm⟩ : ∃ m, m = (l + h) / 2 := ⟨_, rfl⟩
        have A := ahead_call (w := w) so hn (x := m + 1) (by omega)
        have dv : O2 opDiv (.int (l + h)) (.int 2) (.int m) := by rw [hm]; exact o_div (by decide) (by decide)
        by_cases c2 : num < B.rgn w (B.P.length - 1) (m + 1)
        · refine ⟨(l, m), ⟨⟨a0, by show l ≤ m; omega, by show m ≤ hi; omega⟩, c2, g2⟩, ?_, ?_⟩
          · show (if 0 < m - l then (m - l).toNat.log2 + 1 else 0) < if 0 < h - l then (h - l).toNat.log2 + 1 else 0
            rw [if_pos (show 0 < h - l by omega)]
            exact half_bits c (by omega) (by omega)
          · show Bod _ _ [.s (rgU B w), .s (.int num), .s (.int l), .s (.int h), .n] _ [.s (rgU B w), .s (.int num), .s (.int l), .s (.int m), .n]
            have gt : O2 opGt (.int (B.rgn w (B.P.length - 1) (m + 1))) (.int num) (.bl true) := by have := o_gt (p := B.rgn w (B.P.length - 1) (m + 1)) (q := num); rwa [decide_eq_true c2] at this
            unfold rgU at A ⊢
            apply bod_nx
            · unfold b_first_beyond_1; (repeat first | fail "p" | with_reducible exact dv | with_reducible exact A | with_reducible exact gt | fail)
            · (repeat first | fail "p" | fail)
        · refine ⟨(m + 1, h), ⟨⟨by show 0 ≤ m + 1; omega, by show m + 1 ≤ h; omega, a2⟩, g1, by show B.rgn w _ (m + 1) ≤ num; omega⟩, ?_, ?_⟩
          · show (if 0 < h - (m + 1) then (h - (m + 1)).toNat.log2 + 1 else 0) < if 0 < h - l then (h - l).toNat.log2 + 1 else 0
            rw [if_pos (show 0 < h - l by omega)]
            exact half_bits c (by omega) (by omega)
          · show Bod _ _ [.s (rgU B w), .s (.int num), .s (.int l), .s (.int h), .n] _ [.s (rgU B w), .s (.int num), .s (.int (m + 1)), .s (.int h), .n]
            have gt : O2 opGt (.int (B.rgn w (B.P.length - 1) (m + 1))) (.int num) (.bl false) := by have := o_gt (p := B.rgn w (B.P.length - 1) (m + 1)) (q := num); rwa [decide_eq_false c2] at this
            unfold rgU at A ⊢
            apply bod_nx
            · unfold b_first_beyond_1; (repeat first | fail "p" | with_reducible exact dv | with_reducible exact A | with_reducible exact gt | fail)
            · (repeat first | fail "p" | fail)
      · exact .inl ⟨by show Xb _ [_, _, .s (.int l), .s (.int h), _] _ _; unfold rgU; (repeat first | fail "p" | with_reducible exact lt_f c | fail), c⟩) (a := (0, hi)) ⟨⟨Int.le_refl _, hi0, Int.le_refl _⟩, hb, by rw [rgn_zero]; exact n0⟩ (by
      show (if 0 < hi - 0 then (hi - 0).toNat.log2 + 1 else 0) < _
      have : (hi - 0).toNat.log2 ≤ 300 := by
        by_cases h0 : (hi - 0).toNat = 0
        · rw [h0]; decide
        · exact Nat.le_of_lt ((Nat.log2_lt h0).mpr (Nat.lt_of_le_of_lt (show (hi - 0).toNat ≤ 10 ^ 60 by omega) (by decide)))
      split <;> omega) (by show Fgt _ [_, _, .s (.int 0), .s (.int hi), _]; unfold rgU; (repeat first | fail "p" | fail))
  obtain ⟨l, h⟩ := a'
  obtain ⟨⟨a0, a1, a2⟩, g1, g2⟩ := ga
  have a1 : l ≤ h := a1
  have fa : ¬ l < h := fa
  have e : l = h := by omega
  subst e
  refine ⟨l, ⟨a0, a2⟩, g2, g1, ?_⟩
  have X : Xs (ctx T n) [] [.s (rgU B w), .s (.int num), .s (.int 0), .s (.int hi), .n] (sWh (tV (eOp opLt (eV 2) (eV 3))) b_first_beyond_1) (.nx [.s (rgU B w), .s (.int num), .s (.int l), .s (.int l), .n]) := X
  unfold rgU at X ⊢
  refine fu_of rfl (by simp only [List.map_cons, List.map_nil, List.length_cons, List.length_nil, List.cons_append, List.nil_append, Nat.reduceAdd, Nat.reduceSub, List.replicate_succ, List.replicate_zero]; exact rfl) ?_
  (repeat first | fail "p" | with_reducible exact X | fail)
/-- what is asked at a ring's beat -/
def RingAt (B : Bk) (w : Str) (num b : Int) : Prop := (0 ≤ b ∧ b < B.lg (B.P.length - 1)) ∧ B.rgn w (B.P.length - 1) b ≤ num ∧ num < B.rgn w (B.P.length - 1) (b + 1)
theorem ring_at_iff (so : Sound B) {x : Int} (x0 : 0 ≤ x) (x1 : x < B.lg (B.P.length - 1)) : w ∈ B.words (B.P.length - 1) x ↔ B.rgn w (B.P.length - 1) x < B.rgn w (B.P.length - 1) (x + 1) := by
  rw [rgn_succ x0]
  have : 0 < cw w (B.words (B.P.length - 1) x) ↔ w ∈ B.words (B.P.length - 1) x := by
    unfold cw
    have := List.count_pos_iff (a := w) (l := B.words (B.P.length - 1) x)
    rw [← this]; omega
  rw [← this]; omega
theorem ring_at_uniq {num a b : Int} (ha : RingAt B w num a) (hb : RingAt B w num b) : a = b := by
  obtain ⟨_, a1, a2⟩ := ha
  obtain ⟨_, b1, b2⟩ := hb
  rcases Int.lt_trichotomy a b with h | h | h
  · have := rgn_mono (B := B) (w := w) (k := B.P.length - 1) (show a + 1 ≤ b by omega); omega
  · exact h
  · have := rgn_mono (B := B) (w := w) (k := B.P.length - 1) (show b + 1 ≤ a by omega); omega
theorem ring_beat_call (so : Sound B) {n : Nat} (hn : 80 ≤ n) {num : Int} (n0 : 0 ≤ num) : if num < B.cnt w (B.P.length - 1) then ∃ b, RingAt B w num b ∧ Fu ((ctx T n).call 194) [B.u, .str w, .int num] (.int b) else Fu ((ctx T n).call 194) [B.u, .str w, .int num] .non := by
  obtain ⟨m, rfl⟩ : ∃ m, n = m + 6 := ⟨n - 6, by omega⟩
  have p1 := so.toOk.p1
  have M := rings_make (w := w) so (n := m + 5) (by omega)
  have L := (len_call so m).fu
  have ix : O2 opIx (intsU B.lens) (.int (-1)) (.int (B.lg (B.P.length - 1))) := o_ixl (at_m1 (by
    rw [List.getLast?_eq_getElem?, List.length_map, Bk.lens_len, List.getElem?_map, Bk.lg_at (by omega)]; rfl))
  have l1 := so.toOk.lg1 (B.P.length - 1) (by omega)
  have lb := so.lgb (B.P.length - 1) (by omega)
  have ov := rgn_over (w := w) so.toOk (k := B.P.length - 1) (by omega) (n := B.lg (B.P.length - 1) + 1) (by omega)
  have A := ahead_call (w := w) so (n := m + 5) (by omega) (x := B.lg (B.P.length - 1) + 1) (by omega)
  rw [ov] at A
  by_cases c : num < B.cnt w (B.P.length - 1)
  · rw [if_pos c]
    obtain ⟨b, ⟨b0, b1⟩, g1, g2, F⟩ := first_beyond_u (w := w) so (n := m + 4) (by omega) (num := num) (hi := B.lg (B.P.length - 1)) (by omega) lb (by rw [ov]; exact c) n0
    have F : Fu ((ctx T (m + 5)).call 193) [rgU B w, .int num, .int 0, .int (B.lg (B.P.length - 1))] (.int b) := F
    have bl : b < B.lg (B.P.length - 1) := by
      by_cases h : b < B.lg (B.P.length - 1)
      · exact h
      · have := rgn_over (w := w) so.toOk (k := B.P.length - 1) (by omega) (n := b) (by omega)
        omega
    refine ⟨b, ⟨⟨b0, bl⟩, g1, g2⟩, ?_⟩
    have le : O2 opLe (.int (B.cnt w (B.P.length - 1))) (.int num) (.bl false) := by have := o_le (p := B.cnt w (B.P.length - 1)) (q := num); rwa [decide_eq_false (by omega)] at this
    show Fu (runFn (ctx T (m + 5)) f_ring_beat) _ _
    generalize B.lg (B.P.length - 1) = lg at *
    generalize B.u = BU at *
    generalize hR : rgU B w = RU at *
    unfold rgU at hR
    subst hR
    refine fu_of rfl (by simp only [List.map_cons, List.map_nil, List.length_cons, List.length_nil, List.cons_append, List.nil_append, Nat.reduceAdd, Nat.reduceSub, List.replicate_succ, List.replicate_zero]; exact rfl) ?_
    (repeat first | fail "p" | with_reducible exact L | with_reducible exact ix | with_reducible exact M | with_reducible exact A | with_reducible exact le | with_reducible exact F | fail)
  · rw [if_neg c]
    have le : O2 opLe (.int (B.cnt w (B.P.length - 1))) (.int num) (.bl true) := by have := o_le (p := B.cnt w (B.P.length - 1)) (q := num); rwa [decide_eq_true (by omega)] at this
    show Fu (runFn (ctx T (m + 5)) f_ring_beat) _ _
    generalize B.lg (B.P.length - 1) = lg at *
    generalize B.u = BU at *
    generalize hR : rgU B w = RU at *
    unfold rgU at hR
    subst hR
    refine fu_of rfl (by simp only [List.map_cons, List.map_nil, List.length_cons, List.length_nil, List.cons_append, List.nil_append, Nat.reduceAdd, Nat.reduceSub, List.replicate_succ, List.replicate_zero]; exact rfl) ?_
    (repeat first | fail "p" | with_reducible exact L | with_reducible exact ix | with_reducible exact M | with_reducible exact A | with_reducible exact le | fail)
/-! the beats of one play at which a word is rung -/
def addB (xs : List Int) (b : Int) : List Int := if b ∈ xs then xs else xs ++ [b]
def btsF (f : Nat → Int) (i : Nat) : List Int := (List.range i).foldl (fun xs i => addB xs (f i)) []
theorem btsF_succ {f : Nat → Int} {i : Nat} : btsF f (i + 1) = addB (btsF f i) (f i) := by unfold btsF; rw [List.range_succ, List.foldl_append]; rfl
theorem addB_mem {xs : List Int} {b x : Int} : x ∈ addB xs b ↔ x ∈ xs ∨ x = b := by
  unfold addB
  split
  · rename_i h
    exact ⟨.inl, fun e => e.elim id fun e => e ▸ h⟩
  · simp
theorem btsF_mem {f : Nat → Int} {x : Int} : ∀ {i : Nat}, x ∈ btsF f i ↔ ∃ j, j < i ∧ x = f j
  | 0 => ⟨fun h => absurd h (by intro h; cases h), fun ⟨j, h, _⟩ => absurd h (Nat.not_lt_zero _)⟩
  | i + 1 => by
    rw [btsF_succ, addB_mem, btsF_mem]
    constructor
    · rintro (⟨j, h, e⟩ | e)
      · exact ⟨j, by omega, e⟩
      · exact ⟨i, by omega, e⟩
    · rintro ⟨j, h, e⟩
      by_cases c : j = i
      · subst c; exact .inr e
      · exact .inl ⟨j, by omega, e⟩
theorem btsF_len {f : Nat → Int} : ∀ {i : Nat}, (btsF f i).length ≤ i
  | 0 => Nat.le_refl _
  | i + 1 => by
    rw [btsF_succ]
    have := btsF_len (f := f) (i := i)
    unfold addB
    split
    · omega
    · rw [List.length_append]; show _ + 1 ≤ _; omega
/-- a list of the beats of one play at which a word is rung -/
structure Rung (B : Bk) (w : Str) (R : List Int) : Prop where
  len : R.length ≤ 12
  mem : ∀ x, x ∈ R ↔ (0 ≤ x ∧ x < B.lg (B.P.length - 1)) ∧ w ∈ B.words (B.P.length - 1) x
theorem beats_of_call (so : Sound B) (m12 : B.cnt w (B.P.length - 1) ≤ 12) : ∃ R, Rung B w R ∧ ∀ n, 81 ≤ n → Ff ((ctx T n).call 234) [B.u, .str w] (intsU R) := by
  have p1 := so.toOk.p1
  have ix : O2 opIx (intsU B.lens) (.int (-1)) (.int (B.lg (B.P.length - 1))) := o_ixl (at_m1 (by
    rw [List.getLast?_eq_getElem?, List.length_map, Bk.lens_len, List.getElem?_map, Bk.lg_at (by omega)]; rfl))
  have l1 := so.toOk.lg1 (B.P.length - 1) (by omega)
  have c0 := (cnt_le (w := w) so (k := B.P.length - 1) (by omega)).1
  obtain ⟨c, hc⟩ : ∃ c : Nat, (c : Int) = B.cnt w (B.P.length - 1) := ⟨(B.cnt w (B.P.length - 1)).toNat, Int.toNat_of_nonneg c0⟩
  have ex : ∀ i : Nat, ∃ b, i < c → RingAt B w i b := fun i => by
    by_cases h : i < c
    · have := ring_beat_call (w := w) so (n := 80) (by omega) (num := i) (by omega)
      rw [if_pos (by omega)] at this
      obtain ⟨b, q, _⟩ := this
      exact ⟨b, fun _ => q⟩
    · exact ⟨0, fun q => absurd q h⟩
  obtain ⟨f, hr⟩ : ∃ f : Nat → Int, ∀ i, i < c → RingAt B w i (f i) := ⟨fun i => Classical.choose (ex i), fun i => Classical.choose_spec (ex i)⟩
  refine ⟨btsF f c, ⟨Nat.le_trans btsF_len (by omega), fun x => ?_⟩, fun n hn => ?_⟩
  · rw [btsF_mem]
    constructor
    · rintro ⟨j, hj, rfl⟩
      obtain ⟨b, g1, g2⟩ := hr j hj
      exact ⟨b, (ring_at_iff so b.1 b.2).mpr (by omega)⟩
    · rintro ⟨⟨x0, x1⟩, hw⟩
      have h := (ring_at_iff so x0 x1).mp hw
      have h0 := rgn_nn (B := B) (w := w) (k := B.P.length - 1) (a := x)
      have h1 := rgn_mono (B := B) (w := w) (k := B.P.length - 1) (show x + 1 ≤ B.lg (B.P.length - 1) by omega)
      have h1 : B.rgn w (B.P.length - 1) (x + 1) ≤ B.cnt w (B.P.length - 1) := h1
      have hi : (B.rgn w (B.P.length - 1) x).toNat < c := by omega
      have q := hr _ hi
      rw [Int.toNat_of_nonneg h0] at q
      exact ⟨_, hi, ring_at_uniq ⟨⟨x0, x1⟩, Int.le_refl _, h⟩ q⟩
  · obtain ⟨m, rfl⟩ : ∃ m, n = m + 6 := ⟨n - 6, by omega⟩
    have fu := fuT (m + 5)
    have L := (len_call so m).fu
    have RC := ring_count_call (w := w) so (n := m + 5) (by omega) (x := B.lg (B.P.length - 1)) (by omega) (by omega)
    have RC : Fu ((ctx T (m + 5)).call 93) [B.u, .str w, .int (B.lg (B.P.length - 1))] (.int (c : Int)) := by rw [hc]; exact RC
    have hf : ∀ i : Nat, i < c → Fu ((ctx T (m + 5)).call 194) [B.u, .str w, .int (i : Int)] (.int (f i)) := fun i hi => by
      have := ring_beat_call (w := w) so (n := m + 5) (by omega) (num := i) (by omega)
      rw [if_pos (by omega)] at this
      obtain ⟨b, q, F⟩ := this
      rw [ring_at_uniq (hr i hi) q]; exact F
    have LL : Xs (ctx T (m + 5)) [] [.s B.u, .s (.str w), .s (.int (c : Int)), .o (.lst []), .n, .n] (sFo (gN 4) (iR1 (eV 2)) b_beats_of_1) (.nx [.s B.u, .s (.str w), .s (.int (c : Int)), .o (intsU (btsF f c)), .n, .n]) := by
      refine s_forn (C := ctx T (m + 5)) (io := []) (g := gN 4) (b := b_beats_of_1) (n := c) (fun i => [.s B.u, .s (.str w), .s (.int (c : Int)), .o (intsU (btsF f i)), .n, .n]) (by generalize B.u = BU; (repeat first | fail "p" | fail)) (by omega) (by show Fgt _ [_, _, _, .o (.lst []), _, _]; generalize B.u = BU; (repeat first | fail "p" | fail)) (fun i hi => ?_)
      have F := hf i hi
      have bl := btsF_len (f := f) (i := i)
      have sz : ((btsF f i).map U.int).length < sizeLine := sz_lt (by rw [List.length_map]; omega)
      have NI : O2 opNin (.int (f i)) (.lst ((btsF f i).map U.int)) (.bl (!decide (f i ∈ btsF f i))) := o_nii
      rw [btsF_succ]
      generalize B.u = BU at F ⊢
      unfold addB
      refine ⟨[.s BU, .s (.str w), .s (.int (c : Int)), .o (intsU (btsF f i)), .s (.int (i : Int)), .n], by (repeat first | fail "p" | fail), ?_⟩
      by_cases h : f i ∈ btsF f i
      · rw [decide_eq_true h] at NI
        rw [if_pos h]
        apply bod_nx
        · unfold b_beats_of_1; (repeat first | fail "p" | with_reducible exact F | with_reducible exact NI | fail)
        · (repeat first | fail "p" | fail)
      · rw [decide_eq_false h] at NI
        rw [if_neg h]
        show Bod _ _ _ _ [_, _, _, .o (.lst ((btsF f i ++ [f i]).map U.int)), _, _]
        rw [List.map_append]
        apply bod_nx
        · unfold b_beats_of_1; (repeat first | fail "p" | with_reducible exact F | with_reducible exact NI | fail)
        · show Fgt _ [_, _, _, .o (.lst ((btsF f i).map U.int ++ [.int (f i)])), _, _]; (repeat first | fail "p" | fail)
    have gt : O2 opGt (.int (c : Int)) (.int 12) (.bl false) := by have := o_gt (p := (c : Int)) (q := 12); rwa [decide_eq_false (by omega)] at this
    show Ff (runFn (ctx T (m + 5)) f_beats_of) _ _
    generalize B.lg (B.P.length - 1) = lg at *
    generalize B.u = BU at L RC LL ⊢
    refine ff_of rfl (by simp only [List.map_cons, List.map_nil, List.length_cons, List.length_nil, List.cons_append, List.nil_append, Nat.reduceAdd, Nat.reduceSub, List.replicate_succ, List.replicate_zero]; exact rfl) ?_
    (repeat first | fail "p" | with_reducible exact L | with_reducible exact ix | with_reducible exact RC | with_reducible exact gt | with_reducible exact LL | fail)
end
/-! whole steps: the greatest divisor, and how many times one it is -/
theorem mulOk_b {x y : Int} (hx : x.natAbs ≤ 10 ^ 200) (hy : y.natAbs ≤ 10 ^ 200) : mulOk x y = true := by
  have lb : ∀ x : Int, x.natAbs ≤ 10 ^ 200 → x.natAbs.log2 ≤ 700 := fun x h => by
    by_cases h0 : x.natAbs = 0
    · rw [h0]; decide
    · exact Nat.le_of_lt ((Nat.log2_lt h0).mpr (Nat.lt_of_le_of_lt h (by decide +kernel)))
  have h1 := lb x hx
  have h2 := lb y hy
  unfold mulOk
  exact decide_eq_true (by omega)
theorem divOk_b {x : Int} (h0 : x ≠ 0) (hx : x.natAbs ≤ 10 ^ 200) : divOk x = true := by
  have : x.natAbs.log2 < 9000 := Nat.lt_of_lt_of_le ((Nat.log2_lt (by omega)).mpr (Nat.lt_of_le_of_lt hx (show 10 ^ 200 < 2 ^ 700 by decide +kernel))) (by decide)
  unfold divOk
  rw [decide_eq_true h0, decide_eq_true this]; rfl
structure StepOk (a0 b0 a b t l : Int) : Prop where
  a1 : 1 ≤ a
  b0' : 0 ≤ b
  ab : a ≤ max a0 b0 ∧ b ≤ max a0 b0
  pr : a * b ≤ a0 * b0
  dv : ∀ d : Int, (d ∣ a ∧ d ∣ b) ↔ (d ∣ a0 ∧ d ∣ b0)
  ta : b0 ∣ a - t * a0
  lb : b0 ∣ b - l * a0
  sz : (l.natAbs : Int) * a + (t.natAbs : Int) * b = b0
  sg : t * l ≤ 0
theorem StepOk.init {a0 b0 : Int} (ha : 1 ≤ a0) (hb : 1 ≤ b0) : StepOk a0 b0 a0 b0 1 0 :=
  ⟨ha, by omega, ⟨by omega, by omega⟩, Int.le_refl _, fun d => Iff.rfl, ⟨0, by rw [Int.one_mul, Int.sub_self, Int.mul_zero]⟩, ⟨1, by rw [Int.zero_mul, Int.sub_zero, Int.mul_one]⟩, by show (0 : Int) * a0 + 1 * b0 = b0; rw [Int.zero_mul, Int.one_mul, Int.zero_add], by decide⟩
theorem StepOk.l_le {a0 b0 a b t l : Int} (s : StepOk a0 b0 a b t l) : (l.natAbs : Int) ≤ b0 ∧ (b ≠ 0 → (t.natAbs : Int) ≤ b0) := by
  have h1 := s.sz
  have h2 : (l.natAbs : Int) * 1 ≤ (l.natAbs : Int) * a := Int.mul_le_mul_of_nonneg_left s.a1 (by omega)
  have h3 : 0 ≤ (t.natAbs : Int) * b := Int.mul_nonneg (by omega) s.b0'
  refine ⟨by omega, fun hb => ?_⟩
  have h4 : (t.natAbs : Int) * 1 ≤ (t.natAbs : Int) * b := Int.mul_le_mul_of_nonneg_left (by have := s.b0'; omega) (by omega)
  omega
theorem abs_sub_mul {t l q : Int} (h : t * l ≤ 0) (hq : 0 ≤ q) : ((t - q * l).natAbs : Int) = (t.natAbs : Int) + q * (l.natAbs : Int) := by
  by_cases l0 : l = 0
  · subst l0; simp
  by_cases lp : 0 < l
  · have tn : t ≤ 0 := by
      by_cases c : t ≤ 0
      · exact c
      · have := Int.mul_pos (show 0 < t by omega) lp; omega
    have h1 : 0 ≤ q * l := Int.mul_nonneg hq (by omega)
    rw [show (l.natAbs : Int) = l by omega]
    omega
  · have tn : 0 ≤ t := by
      by_cases c : 0 ≤ t
      · exact c
      · have := Int.mul_pos (show 0 < -t by omega) (show 0 < -l by omega)
        rw [Int.neg_mul_neg] at this; omega
    have h1 : 0 ≤ q * (-l) := Int.mul_nonneg hq (by omega)
    rw [Int.mul_neg] at h1
    rw [show (l.natAbs : Int) = -l by omega, Int.mul_neg]
    omega
theorem StepOk.step {a0 b0 a b t l : Int} (s : StepOk a0 b0 a b t l) (hb : 0 < b) : StepOk a0 b0 b (a % b) l (t - a / b * l) := by
  have r0 := Int.emod_nonneg a (show b ≠ 0 by omega)
  have r1 := Int.emod_lt_of_pos a hb
  have q0 : 0 ≤ a / b := Int.ediv_nonneg (by have := s.a1; omega) (by omega)
  have e := Int.mul_ediv_add_emod a b
  have ra : a % b ≤ a := by have := Int.mul_nonneg (show 0 ≤ b by omega) q0; omega
  refine ⟨by omega, r0, ⟨s.ab.2, by have := s.ab.1; omega⟩, ?_, fun d => ?_, s.lb, ?_, ?_, ?_⟩
  · have := s.pr
    have h : b * (a % b) ≤ b * a := Int.mul_le_mul_of_nonneg_left ra (by omega)
    rw [Int.mul_comm b a] at h
    omega
  · rw [← s.dv d]
    constructor
    · rintro ⟨h1, h2⟩
      refine ⟨?_, h1⟩
      rw [← e]
      exact Int.dvd_add (Int.dvd_mul_of_dvd_left h1) h2
    · rintro ⟨h1, h2⟩
      refine ⟨h2, ?_⟩
      rw [show a % b = a - b * (a / b) by omega]
      exact Int.dvd_sub h1 (Int.dvd_mul_of_dvd_left h2)
  · have h : a % b - (t - a / b * l) * a0 = (a - t * a0) - a / b * (b - l * a0) := by
      rw [show a % b = a - b * (a / b) by omega, Int.sub_mul, Int.mul_sub, Int.mul_assoc, Int.mul_comm b]
      omega
    rw [h]
    exact Int.dvd_sub s.ta (Int.dvd_mul_of_dvd_right s.lb)
  · rw [abs_sub_mul s.sg q0]
    have h := s.sz
    have h2 : ((t.natAbs : Int) + a / b * (l.natAbs : Int)) * b + (l.natAbs : Int) * (a % b) = (l.natAbs : Int) * (b * (a / b) + a % b) + (t.natAbs : Int) * b := by
      rw [Int.add_mul, Int.mul_add, Int.mul_comm (a / b) (l.natAbs : Int), Int.mul_assoc, Int.mul_comm (a / b) b]
      omega
    rw [h2, e]; exact h
  · rw [Int.mul_sub]
    have h1 : 0 ≤ a / b * (l * l) := Int.mul_nonneg q0 (by
      rcases Int.le_total 0 l with h | h
      · exact Int.mul_nonneg h h
      · have := Int.mul_nonneg (show 0 ≤ -l by omega) (show 0 ≤ -l by omega); rwa [Int.neg_mul_neg] at this)
    have h2 := s.sg
    rw [show l * (a / b * l) = a / b * (l * l) by rw [← Int.mul_assoc, Int.mul_comm l, Int.mul_assoc], Int.mul_comm l t]
    omega
/-- how far from the end -/
def stepM (a b : Int) : Nat := if b = 0 then 0 else (a * b).toNat.log2 + 1 + if a < b then 1 else 0
theorem stepM_lt {a b : Int} (ha : 1 ≤ a) (hb : 0 < b) : stepM b (a % b) < stepM a b := by
  have r0 := Int.emod_nonneg a (show b ≠ 0 by omega)
  have r1 := Int.emod_lt_of_pos a hb
  unfold stepM
  rw [if_neg (show b ≠ 0 by omega)]
  by_cases c : a < b
  · rw [Int.emod_eq_of_lt (by omega) c, if_neg (by omega), if_neg (by omega), if_pos c, Int.mul_comm b a]; omega
  · by_cases rz : a % b = 0
    · rw [if_pos rz]; omega
    · rw [if_neg rz, if_neg (by omega), if_neg c]
      have q1 : 1 ≤ a / b := by
        have := Int.le_ediv_of_mul_le hb (show 1 * b ≤ a by omega); exact this
      have e := Int.mul_ediv_add_emod a b
      have h1 : b * 1 ≤ b * (a / b) := Int.mul_le_mul_of_nonneg_left q1 (by omega)
      have h2 : b * (2 * (a % b)) ≤ b * a := Int.mul_le_mul_of_nonneg_left (by omega) (by omega)
      have p0 : 0 < b * (a % b) := Int.mul_pos hb (by omega)
      have h3 : b * (2 * (a % b)) = 2 * (b * (a % b)) := by rw [← Int.mul_assoc, Int.mul_comm b 2, Int.mul_assoc]
      rw [h3, Int.mul_comm b a] at h2
      have : (b * (a % b)).toNat.log2 < (a * b).toNat.log2 := by
        have m0 : (b * (a % b)).toNat ≠ 0 := by omega
        have h4 := Nat.log2_self_le m0
        have : 2 ^ ((b * (a % b)).toNat.log2 + 1) ≤ (a * b).toNat := by rw [Nat.pow_succ]; omega
        exact (Nat.le_log2 (by omega)).mpr this
      omega
theorem whole_steps_u {C : Ctx} (fu : 1000 < C.fuel) {a0 b0 : Int} (ha : 1 ≤ a0 ∧ a0 ≤ 10 ^ 130) (hb : 1 ≤ b0 ∧ b0 ≤ 10 ^ 60) :
    ∃ g t, 1 ≤ g ∧ g ∣ a0 ∧ g ∣ b0 ∧ b0 ∣ g - t * a0 ∧ t.natAbs ≤ 10 ^ 200 ∧ Fu (runFn C f_whole_steps) [.int a0, .int b0] (.tup [.int g, .int t]) := by
  obtain ⟨s', fa, ⟨ga, gt⟩, X⟩ := s_whs (C := C) (io := []) (t := tV (eOp opGt (eV 1) (eC (.int 0)))) (b := b_whole_steps_1) (σ := Int × Int × Int × Int) (pe := [.s (.int a0), .s (.int b0), .s (.int 1), .s (.int 0), .n, .n]) (fun s => [.s (.int s.1), .s (.int s.2.1), .s (.int s.2.2.1), .s (.int s.2.2.2), .n, .n])
    (fun s => stepM s.1 s.2.1) (fun s => StepOk a0 b0 s.1 s.2.1 s.2.2.1 s.2.2.2 ∧ s.2.2.1.natAbs ≤ 10 ^ 200) (fun s => s.2.1 = 0) (fun s ⟨g, tb⟩ => by
      obtain ⟨a, b, t, l⟩ := s
      have g : StepOk a0 b0 a b t l := g
      have b0' := g.b0'
      by_cases c : 0 < b
      · have gt : O2 opGt (.int b) (.int 0) (.bl true) := by have := o_gt (p := b) (q := 0); rwa [decide_eq_true c] at this
        refine .inr ⟨by show Xb _ [.s (.int a), .s (.int b), .s (.int t), .s (.int l), .n, .n] _ _; (repeat first | fail "p" | with_reducible exact gt | fail), (b, a % b, l, t - a / b * l), ⟨g.step c, ?_⟩, stepM_lt g.a1 c, ?_⟩
        · have := g.l_le.1
          show l.natAbs ≤ 10 ^ 200
          omega
        · show Bod _ _ [.s (.int a), .s (.int b), .s (.int t), .s (.int l), .n, .n] _ [.s (.int b), .s (.int (a % b)), .s (.int l), .s (.int (t - a / b * l)), .n, .n]
          have hab := g.ab
          have a1 := g.a1
          have dv : B1 bDvm [.int a, .int b] (.tup [.int (a / b), .int (a % b)]) := b_dvm (by omega) (divOk_b (by omega) (by omega))
          have q0 : 0 ≤ a / b := Int.ediv_nonneg (by omega) (by omega)
          have q1 : a / b ≤ a := Int.ediv_le_self _ (by omega)
          have ll := g.l_le.1
          have mk : mulOk (a / b) l = true := mulOk_b (by omega) (by omega)
          apply bod_nx
          · unfold b_whole_steps_1; (repeat first | fail "p" | with_reducible exact dv | fail)
          · (repeat first | fail "p" | fail)
      · have gt : O2 opGt (.int b) (.int 0) (.bl false) := by have := o_gt (p := b) (q := 0); rwa [decide_eq_false c] at this
        exact .inl ⟨by show Xb _ [.s (.int a), .s (.int b), .s (.int t), .s (.int l), .n, .n] _ _; (repeat first | fail "p" | with_reducible exact gt | fail), by show b = 0; omega⟩) (a := (a0, b0, 1, 0)) ⟨StepOk.init ha.1 hb.1, by show 1 ≤ 10 ^ 200; decide⟩ (by
      show stepM a0 b0 < _
      unfold stepM
      rw [if_neg (by omega)]
      have p0 : 0 < a0 * b0 := Int.mul_pos (by omega) (by omega)
      have p1 : a0 * b0 ≤ 10 ^ 130 * 10 ^ 60 := Int.mul_le_mul ha.2 hb.2 (by omega) (by decide)
      have : (a0 * b0).toNat.log2 < 700 := (Nat.log2_lt (by omega)).mpr (Nat.lt_of_le_of_lt (show (a0 * b0).toNat ≤ 10 ^ 190 by omega) (by decide +kernel))
      split <;> omega) (by show Fgt _ [.s (.int a0), .s (.int b0), .s (.int 1), .s (.int 0), .n, .n]; (repeat first | fail "p" | fail))
  obtain ⟨a, b, t, l⟩ := s'
  have ga : StepOk a0 b0 a b t l := ga
  have fa : b = 0 := fa
  subst fa
  have d := (ga.dv a).mp ⟨Int.dvd_refl _, Int.dvd_zero _⟩
  refine ⟨a, t, ga.a1, d.1, d.2, ga.ta, gt, ?_⟩
  have X : Xs C [] [.s (.int a0), .s (.int b0), .s (.int 1), .s (.int 0), .n, .n] (sWh (tV (eOp opGt (eV 1) (eC (.int 0)))) b_whole_steps_1) (.nx [.s (.int a), .s (.int 0), .s (.int t), .s (.int l), .n, .n]) := X
  refine fu_of rfl (by simp only [List.map_cons, List.map_nil, List.length_cons, List.length_nil, List.cons_append, List.nil_append, Nat.reduceAdd, Nat.reduceSub, List.replicate_succ, List.replicate_zero]; exact rfl) ?_
  (repeat first | fail "p" | with_reducible exact X | fail)
/-! two rows of beats joined -/
abbrev joU (r : Option (Int × Int)) : U := match r with
  | none => .non
  | some p => .tup [.int p.1, .int p.2]
def Joined (f1 w1 o ow : Int) : Option (Int × Int) → Prop
  | none => ∀ x : Int, ¬ (x % w1 = f1 ∧ x % ow = o)
  | some p => (0 ≤ p.1 ∧ p.1 < p.2) ∧ p.2 ≤ w1 * ow ∧ ∀ x : Int, (x % w1 = f1 ∧ x % ow = o) ↔ x % p.2 = p.1
theorem mod_iff {x f w : Int} (hf : 0 ≤ f ∧ f < w) : x % w = f ↔ w ∣ x - f := by
  constructor
  · intro h
    have e := Int.mul_ediv_add_emod x w
    exact ⟨x / w, by omega⟩
  · rintro ⟨k, hk⟩
    rw [show x = f + w * k by omega, Int.add_mul_emod_self_left]
    exact Int.emod_eq_of_lt hf.1 hf.2
theorem join_none {f1 w1 o ow g : Int} (h1 : 0 ≤ f1 ∧ f1 < w1) (h2 : 0 ≤ o ∧ o < ow) (d1 : g ∣ w1) (d2 : g ∣ ow) (ne : (o - f1) % g ≠ 0) : ∀ x : Int, ¬ (x % w1 = f1 ∧ x % ow = o) := fun x ⟨e1, e2⟩ => by
  have q1 := Int.dvd_trans d1 ((mod_iff h1).mp e1)
  have q2 := Int.dvd_trans d2 ((mod_iff h2).mp e2)
  have := Int.dvd_sub q1 q2
  rw [show x - f1 - (x - o) = o - f1 by omega] at this
  exact ne (Int.emod_eq_zero_of_dvd this)
theorem join_some {f1 w1 o ow g t : Int} (h1 : 0 ≤ f1 ∧ f1 < w1) (h2 : 0 ≤ o ∧ o < ow) (g1 : 1 ≤ g) (d1 : g ∣ w1) (d2 : g ∣ ow) (dt : ow ∣ g - t * w1) (e0 : (o - f1) % g = 0) :
    0 < ow / g ∧ Joined f1 w1 o ow (some ((f1 + w1 * ((o - f1) / g * t % (ow / g))) % (w1 * (ow / g)), w1 * (ow / g))) := by
  obtain ⟨w', hw⟩ := d1
  obtain ⟨o', ho⟩ := d2
  obtain ⟨k, hk⟩ := dt
  obtain ⟨d, hd⟩ := Int.dvd_of_emod_eq_zero e0
  have eo : ow / g = o' := by rw [ho, Int.mul_ediv_cancel_left _ (by omega)]
  have ed : (o - f1) / g = d := by rw [hd, Int.mul_ediv_cancel_left _ (by omega)]
  have o1 : 0 < o' := by
    have : 0 < g * o' := by omega
    exact Int.pos_of_mul_pos_right this (by omega)
  have w1' : 0 < w' := by
    have : 0 < g * w' := by omega
    exact Int.pos_of_mul_pos_right this (by omega)
  rw [eo, ed]
  have bez : 1 - t * w' = o' * k := by
    have : g * (1 - t * w') = g * (o' * k) := by
      rw [Int.mul_sub, Int.mul_one, ← Int.mul_assoc, Int.mul_comm g t, Int.mul_assoc, ← hw, hk, ho, Int.mul_assoc]
    exact Int.eq_of_mul_eq_mul_left (by omega) this
  obtain ⟨s, hs⟩ : ∃ s, s = d * t % o' := ⟨_, rfl⟩
  rw [← hs]
  have s0 : 0 ≤ s := by rw [hs]; exact Int.emod_nonneg _ (by omega)
  have s1 : s < o' := by rw [hs]; exact Int.emod_lt_of_pos _ o1
  have es := Int.mul_ediv_add_emod (d * t) o'
  rw [← hs] at es
  obtain ⟨W, hW⟩ : ∃ W, W = w1 * o' := ⟨_, rfl⟩
  have Wp : 0 < W := by rw [hW]; exact Int.mul_pos (by omega) o1
  rw [← hW]
  refine ⟨o1, ⟨Int.emod_nonneg _ (by omega), Int.emod_lt_of_pos _ Wp⟩, ?_, fun x => ?_⟩
  · show W ≤ w1 * ow
    rw [hW, ho]
    refine Int.mul_le_mul_of_nonneg_left ?_ (by omega)
    have := Int.mul_le_mul_of_nonneg_right g1 (show 0 ≤ o' by omega)
    omega
  · obtain ⟨z, hz⟩ : ∃ z, z = f1 + w1 * s := ⟨_, rfl⟩
    rw [← hz]
    have zW := mod_iff (x := x) (f := z % W) (w := W) ⟨Int.emod_nonneg _ (by omega), Int.emod_lt_of_pos _ Wp⟩
    show _ ↔ x % W = z % W
    have zo : ow ∣ z - o := by
      -- w1 s - g d = g (w' s - d)
      have e1 : z - o = g * (w' * s - d) := by
        rw [Int.mul_sub, ← Int.mul_assoc, ← hw, ← hd, hz]; omega
      have e2 : w' * s - d = o' * (-(w' * (d * t / o')) - k * d) := by
        have q : s = d * t - o' * (d * t / o') := by omega
        have q2 : w' * (d * t) - d = -(o' * k * d) := by
          rw [← bez, Int.sub_mul, Int.one_mul, show w' * (d * t) = t * w' * d by rw [Int.mul_comm d t, ← Int.mul_assoc, Int.mul_comm w' t]]; omega
        rw [q, Int.mul_sub, Int.mul_sub, Int.mul_neg, ← Int.mul_assoc w' o', Int.mul_comm w' o', Int.mul_assoc o' w', ← Int.mul_assoc o' k d]
        omega
      rw [e1, e2, ho, ← Int.mul_assoc]
      exact Int.dvd_mul_right _ _
    have dW1 : w1 ∣ W := by rw [hW]; exact Int.dvd_mul_right _ _
    have dWo : ow ∣ W := ⟨w', by rw [hW, hw, ho, Int.mul_assoc, Int.mul_comm w' o', ← Int.mul_assoc]⟩
    rw [mod_iff h1, mod_iff h2]
    constructor
    · rintro ⟨⟨a, ha⟩, q2⟩
      have q3 : ow ∣ x - z := by have := Int.dvd_sub q2 zo; rwa [show x - o - (z - o) = x - z by omega] at this
      obtain ⟨b, hb⟩ := q3
      have ea : x - z = w1 * (a - s) := by rw [Int.mul_sub]; omega
      have ab : w' * (a - s) = o' * b := by
        have : g * (w' * (a - s)) = g * (o' * b) := by rw [← Int.mul_assoc, ← hw, ← ea, hb, ho, Int.mul_assoc]
        exact Int.eq_of_mul_eq_mul_left (by omega) this
      have da : o' ∣ a - s := by
        refine ⟨t * b + k * (a - s), ?_⟩
        have : (a - s) = (1 - t * w') * (a - s) + t * (w' * (a - s)) := by rw [Int.sub_mul, Int.one_mul, Int.mul_assoc]; omega
        rw [bez, ab] at this
        rw [Int.mul_add, ← Int.mul_assoc o' k, ← Int.mul_assoc o' t, Int.mul_comm o' t, Int.mul_assoc t]
        omega
      obtain ⟨c, hc⟩ := da
      have : x - z = W * c := by rw [ea, hc, hW, Int.mul_assoc]
      rw [show x = z + W * c by omega, Int.add_mul_emod_self_left]
    · intro h
      have q : W ∣ x - z := by
        have e1 := Int.mul_ediv_add_emod x W
        have e2 := Int.mul_ediv_add_emod z W
        exact ⟨x / W - z / W, by rw [Int.mul_sub]; omega⟩
      refine ⟨?_, ?_⟩
      · have := Int.dvd_add (Int.dvd_trans dW1 q) (show w1 ∣ z - f1 from ⟨s, by omega⟩)
        rwa [show x - z + (z - f1) = x - f1 by omega] at this
      · have := Int.dvd_add (Int.dvd_trans dWo q) zo
        rwa [show x - z + (z - o) = x - o by omega] at this
def StepsF (C : Ctx) : Prop := ∀ a0 b0 : Int, 1 ≤ a0 ∧ a0 ≤ 10 ^ 130 → 1 ≤ b0 ∧ b0 ≤ 10 ^ 60 → ∃ g t, 1 ≤ g ∧ g ∣ a0 ∧ g ∣ b0 ∧ b0 ∣ g - t * a0 ∧ t.natAbs ≤ 10 ^ 200 ∧ Fu (C.call 159) [.int a0, .int b0] (.tup [.int g, .int t])
theorem joined_u {C : Ctx} (sf : StepsF C) {f1 w1 o ow : Int} (h1 : 0 ≤ f1 ∧ f1 < w1 ∧ w1 ≤ 10 ^ 130) (h2 : 0 ≤ o ∧ o < ow ∧ ow ≤ 10 ^ 60) : ∃ r, Joined f1 w1 o ow r ∧ Fu (runFn C f_joined) [.int f1, .int w1, .int o, .int ow] (joU r) := by
  obtain ⟨g, t, g1, d1, d2, dt, tb, F⟩ := sf w1 ow ⟨by omega, h1.2.2⟩ ⟨by omega, h2.2.2⟩
  have gb : g ≤ ow := Int.le_of_dvd (by omega) d2
  have md : O2 opMod (.int (o - f1)) (.int g) (.int ((o - f1) % g)) := o_mod (by omega)
  by_cases e0 : (o - f1) % g = 0
  · obtain ⟨op, J⟩ := join_some ⟨h1.1, h1.2.1⟩ ⟨h2.1, h2.2.1⟩ g1 d1 d2 dt e0
    refine ⟨_, J, ?_⟩
    have dv : O2 opDiv (.int (o - f1)) (.int g) (.int ((o - f1) / g)) := o_div (divOk_sm (by omega) (by omega)) (by omega)
    have dv2 : O2 opDiv (.int ow) (.int g) (.int (ow / g)) := o_div (divOk_sm (by omega) (by omega)) (by omega)
    have q0 := Int.natAbs_ediv_le_natAbs (o - f1) g
    have q1 := Int.natAbs_ediv_le_natAbs ow g
    have mk1 : mulOk ((o - f1) / g) t = true := mulOk_sm (by omega) (by omega)
    have mk2 : mulOk w1 (ow / g) = true := mulOk_sm (by omega) (by omega)
    obtain ⟨s, hs⟩ : ∃ s, s = (o - f1) / g * t % (ow / g) := ⟨_, rfl⟩
    have s0 : 0 ≤ s := by rw [hs]; exact Int.emod_nonneg _ (by omega)
    have s1 : s < ow / g := by rw [hs]; exact Int.emod_lt_of_pos _ op
    have mk3 : mulOk w1 s = true := mulOk_sm (by omega) (by omega)
    have ms : O2 opMod (.int ((o - f1) / g * t)) (.int (ow / g)) (.int s) := by rw [hs]; exact o_mod op
    rw [← hs]
    obtain ⟨W, hW⟩ : ∃ W, W = w1 * (ow / g) := ⟨_, rfl⟩
    have Wp : 0 < W := by rw [hW]; exact Int.mul_pos (by omega) op
    have mW : O2 opMul (.int w1) (.int (ow / g)) (.int W) := by rw [hW]; exact o_mul mk2
    have mz : O2 opMod (.int (f1 + w1 * s)) (.int W) (.int ((f1 + w1 * s) % W)) := o_mod Wp
    rw [← hW]
    rw [e0] at md
    show Fu _ _ (.tup [_, _])
    refine fu_of rfl (by simp only [List.map_cons, List.map_nil, List.length_cons, List.length_nil, List.cons_append, List.nil_append, Nat.reduceAdd, Nat.reduceSub, List.replicate_succ, List.replicate_zero]; exact rfl) ?_
    (repeat first | fail "p" | with_reducible exact F | with_reducible exact md | with_reducible exact dv | with_reducible exact dv2 | with_reducible exact ms | with_reducible exact mW | with_reducible exact mz | fail)
  · refine ⟨none, join_none ⟨h1.1, h1.2.1⟩ ⟨h2.1, h2.2.1⟩ d1 d2 e0, ?_⟩
    have ne : O2 opNe (.int ((o - f1) % g)) (.int 0) (.bl true) := by have := o_ne (p := (o - f1) % g) (q := 0); rwa [decide_eq_false e0] at this
    show Fu _ _ .non
    refine fu_of rfl (by simp only [List.map_cons, List.map_nil, List.length_cons, List.length_nil, List.cons_append, List.nil_append, Nat.reduceAdd, Nat.reduceSub, List.replicate_succ, List.replicate_zero]; exact rfl) ?_
    (repeat first | fail "p" | with_reducible exact F | with_reducible exact md | with_reducible exact ne | fail)
/-! the meeting of books played for ever -/
structure Mb where
  B : Bk
  w : Str
  R : List Int
def Mb.lg (b : Mb) : Int := b.B.lg (b.B.P.length - 1)
structure MbOk (b : Mb) : Prop where
  so : Sound b.B
  ru : Rung b.B b.w b.R
theorem MbOk.lb {b : Mb} (o : MbOk b) : 1 ≤ b.lg ∧ b.lg ≤ 10 ^ 60 := by
  have p1 := o.so.toOk.p1
  exact ⟨o.so.toOk.lg1 _ (by omega), o.so.lgb _ (by omega)⟩
theorem MbOk.rb {b : Mb} (o : MbOk b) : ∀ x ∈ b.R, 0 ≤ x ∧ x < b.lg := fun x hx => ((o.ru.mem x).mp hx).1
/-- a beat at which all ring -/
def AllAt (bs : List Mb) (x : Int) : Prop := ∀ b ∈ bs, x % b.lg ∈ b.R
structure RowsOk (bs : List Mb) (rows : List (Int × Int)) : Prop where
  bd : ∀ p ∈ rows, (0 ≤ p.1 ∧ p.1 < p.2) ∧ p.2 ≤ (10 ^ 60) ^ bs.length
  len : rows.length ≤ 12 ^ bs.length
  iff : ∀ x, (∃ p ∈ rows, x % p.2 = p.1) ↔ AllAt bs x
theorem RowsOk.init : RowsOk [] [(0, 1)] := ⟨fun p hp => by
  rw [List.mem_singleton.mp hp]; exact ⟨⟨by decide, by decide⟩, by decide⟩, Nat.le_refl _, fun x => ⟨fun _ b hb => (by cases hb), fun _ => ⟨_, List.mem_singleton.mpr rfl, Int.emod_one x⟩⟩⟩
/-- all rows joined with the beats of one more book -/
def bothF (J : Int × Int → Int → Option (Int × Int)) (R : List Int) (rows : List (Int × Int)) : List (Option (Int × Int)) := rows.flatMap fun p => R.map (J p)
theorem RowsOk.step {bs : List Mb} {rows : List (Int × Int)} {b : Mb} {J : Int × Int → Int → Option (Int × Int)} (r : RowsOk bs rows) (o : MbOk b) (hJ : ∀ p ∈ rows, ∀ x ∈ b.R, Joined p.1 p.2 x b.lg (J p x)) : RowsOk (bs ++ [b]) ((bothF J b.R rows).filterMap id) := by
  have mem : ∀ q, q ∈ (bothF J b.R rows).filterMap id ↔ ∃ p ∈ rows, ∃ x ∈ b.R, J p x = some q := fun q => by
    unfold bothF
    simp only [List.mem_filterMap, List.mem_flatMap, List.mem_map, id]
    constructor
    · rintro ⟨_, ⟨p, hp, x, hx, rfl⟩, e⟩; exact ⟨p, hp, x, hx, e⟩
    · rintro ⟨p, hp, x, hx, e⟩; exact ⟨_, ⟨p, hp, x, hx, rfl⟩, e⟩
  have lb := o.lb
  refine ⟨fun q hq => ?_, ?_, fun x => ?_⟩
  · obtain ⟨p, hp, x, hx, e⟩ := (mem q).mp hq
    have j := hJ p hp x hx
    rw [e] at j
    obtain ⟨j1, j2, _⟩ := j
    obtain ⟨pb, pw⟩ := r.bd p hp
    refine ⟨j1, ?_⟩
    rw [List.length_append, List.length_singleton, Int.pow_succ]
    have := Int.mul_le_mul pw lb.2 (by omega) (Int.le_of_lt (Int.pow_pos (by decide)))
    omega
  · rw [List.length_append, List.length_singleton, Nat.pow_succ]
    have h1 : ((bothF J b.R rows).filterMap id).length ≤ (bothF J b.R rows).length := List.length_filterMap_le _ _
    have h2 : ∀ rows : List (Int × Int), (bothF J b.R rows).length = rows.length * b.R.length := fun rows => by
      induction rows with
      | nil => show 0 = 0 * _; rw [Nat.zero_mul]
      | cons p rows ih =>
        show (b.R.map (J p) ++ bothF J b.R rows).length = _
        rw [List.length_append, ih, List.length_map, List.length_cons, Nat.add_mul, Nat.one_mul]; omega
    rw [h2] at h1
    have := Nat.mul_le_mul r.len o.ru.len
    omega
  · constructor
    · rintro ⟨q, hq, e⟩
      obtain ⟨p, hp, y, hy, ej⟩ := (mem q).mp hq
      have j := hJ p hp y hy
      rw [ej] at j
      obtain ⟨e1, e2⟩ := (j.2.2 x).mpr e
      have A := (r.iff x).mp ⟨p, hp, e1⟩
      intro c hc
      rcases List.mem_append.mp hc with h | h
      · exact A c h
      · rw [List.mem_singleton.mp h, e2]; exact hy
    · intro A
      obtain ⟨p, hp, e1⟩ := (r.iff x).mpr fun c hc => A c (List.mem_append_left _ hc)
      have hy := A b (List.mem_append_right _ (List.mem_singleton.mpr rfl))
      have j := hJ p hp _ hy
      cases e : J p (x % b.lg) with
      | none => rw [e] at j; exact absurd ⟨e1, rfl⟩ (j x)
      | some q =>
        rw [e] at j
        exact ⟨q, (mem q).mpr ⟨p, hp, _, hy, e⟩, (j.2.2 x).mp ⟨e1, rfl⟩⟩
/-- the first beat of a row from one on -/
def hereV (beat : Int) (p : Int × Int) : Int := p.1 + max 0 ((beat - p.1 + p.2 - 1) / p.2) * p.2
theorem here_ok {beat : Int} {p : Int × Int} (hb : 0 ≤ beat) (hp : 0 ≤ p.1 ∧ p.1 < p.2) : beat ≤ hereV beat p ∧ hereV beat p % p.2 = p.1 ∧ ∀ x, beat ≤ x → x % p.2 = p.1 → hereV beat p ≤ x := by
  obtain ⟨f, w⟩ := p
  have hp : 0 ≤ f ∧ f < w := hp
  unfold hereV
  show beat ≤ f + max 0 ((beat - f + w - 1) / w) * w ∧ (f + max 0 ((beat - f + w - 1) / w) * w) % w = f ∧ ∀ x, beat ≤ x → x % w = f → f + max 0 ((beat - f + w - 1) / w) * w ≤ x
  obtain ⟨q, hq⟩ : ∃ q, q = (beat - f + w - 1) / w := ⟨_, rfl⟩
  rw [← hq]
  have e := Int.mul_ediv_add_emod (beat - f + w - 1) w
  have r0 := Int.emod_nonneg (beat - f + w - 1) (show w ≠ 0 by omega)
  have r1 := Int.emod_lt_of_pos (beat - f + w - 1) (show 0 < w by omega)
  rw [← hq] at e
  refine ⟨?_, ?_, fun x hx ex => ?_⟩
  · by_cases c : 0 ≤ q
    · rw [show max 0 q = q by omega, Int.mul_comm]; omega
    · rw [show max 0 q = 0 by omega, Int.zero_mul]
      have : w * q ≤ w * (-1) := Int.mul_le_mul_of_nonneg_left (by omega) (by omega)
      omega
  · rw [Int.add_mul_emod_self_right]; exact Int.emod_eq_of_lt hp.1 hp.2
  · have ex2 := Int.mul_ediv_add_emod x w
    rw [ex] at ex2
    have t0 : 0 ≤ x / w := Int.ediv_nonneg (by omega) (by omega)
    have tq : q ≤ x / w := by
      by_cases c : q ≤ x / w
      · exact c
      · have : w * (x / w + 1) ≤ w * q := Int.mul_le_mul_of_nonneg_left (by omega) (by omega)
        rw [Int.mul_add, Int.mul_one] at this
        omega
    have : max 0 q * w ≤ x / w * w := Int.mul_le_mul_of_nonneg_right (by omega) (by omega)
    rw [Int.mul_comm (x / w) w] at this
    omega
def minO (a : Option Int) (x : Int) : Option Int := match a with
  | none => some x
  | some y => if x < y then some x else some y
def foundV (beat : Int) (rows : List (Int × Int)) : Option Int := rows.foldl (fun a p => minO a (hereV beat p)) none
theorem foundV_snoc {beat : Int} {rows : List (Int × Int)} {p : Int × Int} : foundV beat (rows ++ [p]) = minO (foundV beat rows) (hereV beat p) := by unfold foundV; rw [List.foldl_append]; rfl
theorem foundV_ok {beat : Int} : ∀ {rows : List (Int × Int)}, match foundV beat rows with
    | none => rows = []
    | some x => (∃ p ∈ rows, x = hereV beat p) ∧ ∀ p ∈ rows, x ≤ hereV beat p := by
  intro rows
  induction rows using snoc_ind with
  | h0 => rfl
  | h1 rows p ih =>
    rw [foundV_snoc]
    revert ih
    cases foundV beat rows with
    | none =>
      intro ih
      have ih : rows = [] := ih
      subst ih
      exact ⟨⟨p, by simp, rfl⟩, fun q hq => by rw [List.mem_singleton.mp hq]; exact Int.le_refl _⟩
    | some y =>
      rintro ⟨⟨q, hq, e⟩, mn⟩
      unfold minO
      by_cases c : hereV beat p < y
      · simp only [if_pos c]
        refine ⟨⟨p, by simp, rfl⟩, fun r hr => ?_⟩
        rcases List.mem_append.mp hr with h | h
        · have := mn r h; omega
        · rw [List.mem_singleton.mp h]; exact Int.le_refl _
      · simp only [if_neg c]
        refine ⟨⟨q, List.mem_append_left _ hq, e⟩, fun r hr => ?_⟩
        rcases List.mem_append.mp hr with h | h
        · exact mn r h
        · rw [List.mem_singleton.mp h]; omega
/-- what meeting tells -/
def Meets (bs : List Mb) (beat : Int) : Option Int → Prop
  | none => ∀ x, ¬ AllAt bs x
  | some x => beat ≤ x ∧ AllAt bs x ∧ ∀ y, beat ≤ y → AllAt bs y → x ≤ y
theorem meets_ok {bs : List Mb} {rows : List (Int × Int)} {beat : Int} (r : RowsOk bs rows) (hb : 0 ≤ beat) : Meets bs beat (foundV beat rows) := by
  have f := foundV_ok (beat := beat) (rows := rows)
  revert f
  cases foundV beat rows with
  | none =>
    intro f x A
    have f : rows = [] := f
    obtain ⟨p, hp, _⟩ := (r.iff x).mpr A
    rw [f] at hp; cases hp
  | some x =>
    rintro ⟨⟨p, hp, rfl⟩, mn⟩
    have h := here_ok hb (r.bd p hp).1
    refine ⟨h.1, (r.iff _).mp ⟨p, hp, h.2.1⟩, fun y hy A => ?_⟩
    obtain ⟨q, hq, e⟩ := (r.iff y).mpr A
    have := mn q hq
    have := (here_ok hb (r.bd q hq).1).2.2 y hy e
    omega
/-! the meeting: the code -/
theorem zip_map {α : Type} (f g : α → U) : ∀ xs : List α, zipU (xs.map f) (xs.map g) = xs.map fun x => .tup [f x, g x]
  | [] => rfl
  | x :: xs => by
    have := zip_map f g xs
    unfold zipU at this ⊢
    rw [List.map_cons, List.map_cons, List.zipWith_cons_cons, this]; rfl
structure MtF (C : Ctx) : Prop where
  fu : 1000 < C.fuel
  fu2 : 2000 < C.fuel
  c72 : ∀ B : Bk, Sound B → Fu (C.call 72) [B.u] (intsU B.lens)
  jo : ∀ f1 w1 o ow : Int, 0 ≤ f1 ∧ f1 < w1 ∧ w1 ≤ 10 ^ 130 → 0 ≤ o ∧ o < ow ∧ ow ≤ 10 ^ 60 → ∃ r, Joined f1 w1 o ow r ∧ Fu (C.call 158) [.int f1, .int w1, .int o, .int ow] (joU r)
abbrev mtU (r : Option Int) : U := match r with
  | none => .non
  | some x => .int x
abbrev rowsU (rows : List (Int × Int)) : U := .lst (rows.map pairU)
section
variable {C : Ctx}
theorem meet_turn (K : MtF C) {b0 b1 b2 b3 : U} {bs : List Mb} {rows : List (Int × Int)} {b : Mb} (r : RowsOk bs rows) (o : MbOk b) (l2 : bs.length ≤ 2) :
    ∃ rows', RowsOk (bs ++ [b]) rows' ∧ Bod C [] [.s b0, .s b1, .s b2, .s b3, .s (rowsU rows), .s b.B.u, .s (intsU b.R), .n, .n, .n, .n, .n, .n, .n, .n, .n] b_meeting_2 [.s b0, .s b1, .s b2, .s b3, .s (rowsU rows'), .n, .n, .n, .n, .n, .n, .n, .n, .n, .n, .n] := by
  have lb := o.lb
  have fu := K.fu
  have FF : FUEL = FUEL := rfl
  have rl := o.ru.len
  have pw : (10 ^ 60 : Int) ^ bs.length ≤ 10 ^ 130 := by
    rcases (show bs.length = 0 ∨ bs.length = 1 ∨ bs.length = 2 by omega) with e | e | e <;> rw [e] <;> decide
  have rlen : rows.length ≤ 144 := by
    have := r.len
    rcases (show bs.length = 0 ∨ bs.length = 1 ∨ bs.length = 2 by omega) with e | e | e <;> rw [e] at this <;> omega
  have ex : ∀ (p : Int × Int) (x : Int), ∃ j, p ∈ rows → x ∈ b.R → Joined p.1 p.2 x b.lg j ∧ Fu (C.call 158) [.int p.1, .int p.2, .int x, .int b.lg] (joU j) := fun p x => by
    by_cases hp : p ∈ rows
    · by_cases hx : x ∈ b.R
      · obtain ⟨j, h⟩ := K.jo p.1 p.2 x b.lg ⟨(r.bd p hp).1.1, (r.bd p hp).1.2, by have := (r.bd p hp).2; omega⟩ ⟨(o.rb x hx).1, (o.rb x hx).2, lb.2⟩
        exact ⟨j, fun _ _ => h⟩
      · exact ⟨none, fun _ h => absurd h hx⟩
    · exact ⟨none, fun h => absurd h hp⟩
  obtain ⟨J, hJ⟩ : ∃ J : Int × Int → Int → Option (Int × Int), ∀ p x, p ∈ rows → x ∈ b.R → Joined p.1 p.2 x b.lg (J p x) ∧ Fu (C.call 158) [.int p.1, .int p.2, .int x, .int b.lg] (joU (J p x)) := ⟨fun p x => Classical.choose (ex p x), fun p x => Classical.choose_spec (ex p x)⟩
  have blen : ∀ rs : List (Int × Int), (bothF J b.R rs).length = rs.length * b.R.length := fun rs => by
    induction rs with
    | nil => show 0 = 0 * _; rw [Nat.zero_mul]
    | cons p rs ih =>
      show (b.R.map (J p) ++ bothF J b.R rs).length = _
      rw [List.length_append, ih, List.length_map, List.length_cons, Nat.add_mul, Nat.one_mul]; omega
  refine ⟨_, r.step o fun p hp x hx => (hJ p x hp hx).1, ?_⟩
  have L72 := K.c72 b.B o.so
  have ix : O2 opIx (intsU b.B.lens) (.int (-1)) (.int b.lg) := o_ixl (at_m1 (by
    have p1 := o.so.toOk.p1
    rw [List.getLast?_eq_getElem?, List.length_map, Bk.lens_len, List.getElem?_map, Bk.lg_at (by omega)]; rfl))
  have INN : Xs C [] [.s b0, .s b1, .s b2, .s b3, .s (rowsU rows), .s b.B.u, .s (intsU b.R), .s (.int b.lg), .o (.lst []), .n, .n, .n, .n, .n, .n, .n] (sFo (gT [9, 10]) (iA (eV 4)) b_meeting_1) (.nx [.s b0, .s b1, .s b2, .s b3, .s (rowsU rows), .s b.B.u, .s (intsU b.R), .s (.int b.lg), .o (.lst ((bothF J b.R rows).map joU)), .n, .n, .n, .n, .n, .n, .n]) := by
    have := s_fors (C := C) (io := []) (g := gT [9, 10]) (mi := iA (eV 4)) (b := b_meeting_1) (pe := [.s b0, .s b1, .s b2, .s b3, .s (rowsU rows), .s b.B.u, .s (intsU b.R), .s (.int b.lg), .o (.lst []), .n, .n, .n, .n, .n, .n, .n]) (xs := rows) (f := pairU) (fun i => [.s b0, .s b1, .s b2, .s b3, .s (rowsU rows), .s b.B.u, .s (intsU b.R), .s (.int b.lg), .o (.lst ((bothF J b.R (rows.take i)).map joU)), .n, .n, .n, .n, .n, .n, .n]) (by generalize b.B.u = BU; (repeat first | fail "p" | fail)) (by omega) (by show Fgt _ [_, _, _, _, _, _, _, _, .o (.lst []), _, _, _, _, _, _, _]; generalize b.B.u = BU; (repeat first | fail "p" | fail)) (fun i p q => by
      have hp := List.mem_of_getElem? q
      have il := (List.getElem?_eq_some_iff.mp q).1
      have LC : Xf C [.s b0, .s b1, .s b2, .s b3, .s (rowsU rows), .s b.B.u, .s (intsU b.R), .s (.int b.lg), .o (.lst ((bothF J b.R (rows.take i)).map joU)), .s (.int p.1), .s (.int p.2), .n, .n, .n, .n, .n] (eLc [14] (gN 14) (iA (eV 6)) tY (eCall 158 (aC (eV 9) (aC (eV 10) (aC (eV 14) (aC (eV 7) aN)))) [])) (.lst (b.R.map fun x => joU (J p x))) := by
        generalize b.B.u = BU
        apply f_lcm (f := U.int) (xs := b.R)
        case hi => (repeat first | fail "p" | fail)
        case hw => (repeat first | fail "p" | fail)
        case hn => exact sz_le (by omega)
        case fu => omega
        case hs =>
          intro x hx
          have F := (hJ p x hp hx).2
          exact ⟨_, by (repeat first | fail "p" | fail), by (repeat first | fail "p" | with_reducible exact F | fail)⟩
      have LC := LC.p.top
      have e : (bothF J b.R (rows.take (i + 1))).map joU = (bothF J b.R (rows.take i)).map joU ++ b.R.map fun x => joU (J p x) := by
        rw [take_snoc_g q]
        unfold bothF
        rw [List.flatMap_append, List.map_append, List.flatMap_singleton, List.map_map]; rfl
      have sz : ((bothF J b.R (rows.take i)).map joU).length + (b.R.map fun x => joU (J p x)).length ≤ sizeLine := sz_le (by
        rw [List.length_map, List.length_map, blen, List.length_take]
        have : min i rows.length * b.R.length ≤ 144 * 12 := Nat.mul_le_mul (by omega) rl
        omega)
      rw [e]
      generalize b.B.u = BU at LC ⊢
      refine ⟨[.s b0, .s b1, .s b2, .s b3, .s (rowsU rows), .s BU, .s (intsU b.R), .s (.int b.lg), .o (.lst ((bothF J b.R (rows.take i)).map joU)), .s (.int p.1), .s (.int p.2), .n, .n, .n, .n, .n], by (repeat first | fail "p" | fail), ?_⟩
      apply bod_nx
      · unfold b_meeting_1; exact s_ext rfl LC sz (toS (toS (toS (toS (toS (toS (toS (toS to0))))))))
      · (repeat first | fail "p" | fail))
    rw [List.take_of_length_le (Nat.le_refl _)] at this
    exact this
  have bl : (bothF J b.R rows).length ≤ 1728 := by
    rw [blen]
    exact Nat.mul_le_mul rlen rl
  have FLT : Xf C [.s b0, .s b1, .s b2, .s b3, .s (rowsU rows), .s b.B.u, .s (intsU b.R), .s (.int b.lg), .o (.lst ((bothF J b.R rows).map joU)), .n, .n, .n, .n, .n, .n, .n] (eLc [15] (gN 15) (iA (eV 8)) (tV (eOp opNotN (eV 15) (eC .non))) (eV 15)) (rowsU ((bothF J b.R rows).filterMap id)) := by
    have e : ((bothF J b.R rows).filterMap id).map pairU = ((bothF J b.R rows).filter Option.isSome).map joU := by
      generalize bothF J b.R rows = xs
      induction xs with
      | nil => rfl
      | cons x xs ih =>
        cases x with
        | none => exact ih
        | some p =>
          show pairU p :: (xs.filterMap id).map pairU = _
          rw [ih]; rfl
    show Xf _ _ _ (.lst (((bothF J b.R rows).filterMap id).map pairU))
    rw [e]
    generalize b.B.u = BU
    have bf : (bothF J b.R rows).length < C.fuel := by have := K.fu2; omega
    refine f_lcf (f := joU) (out := joU) (p := Option.isSome) (xs := bothF J b.R rows) (by (repeat first | fail "p" | fail)) (by (repeat first | fail "p" | fail)) (sz_le (by omega)) bf (fun x hx => ?_)
    cases x with
    | none => exact ⟨_, by show Tn _ _ .non _; (repeat first | fail "p" | fail), by show Xb _ _ _ false; (repeat first | fail "p" | fail), fun h => by cases h⟩
    | some p => exact ⟨_, by show Tn _ _ (.tup [.int p.1, .int p.2]) _; (repeat first | fail "p" | fail), by show Xb _ _ _ true; (repeat first | fail "p" | fail), fun _ => by (repeat first | fail "p" | fail)⟩
  have FLT := FLT.p
  generalize b.B.u = BU at L72 INN FLT ⊢
  apply bod_nx
  · unfold b_meeting_2; (repeat first | fail "p" | with_reducible exact L72 | with_reducible exact ix | with_reducible exact INN | with_reducible exact FLT | fail)
  · (repeat first | fail "p" | fail)
theorem meeting_u (K : MtF C) {bs : List Mb} (ok : ∀ b ∈ bs, MbOk b) (bo : ∀ b ∈ bs, Fu (C.call 234) [b.B.u, .str b.w] (intsU b.R)) (l3 : bs.length ≤ 3) {beat : Int} (hb : 0 ≤ beat ∧ beat ≤ 10 ^ 200) :
    ∃ r, Meets bs beat r ∧ Fu (runFn C f_meeting) [.lst (bs.map fun b => b.B.u), .lst (bs.map fun b => .str b.w), .int beat] (mtU r) := by
  have fu := K.fu
  obtain ⟨b0, hb0⟩ : ∃ b0, b0 = U.lst (bs.map fun b => b.B.u) := ⟨_, rfl⟩
  obtain ⟨b1, hb1⟩ : ∃ b1, b1 = U.lst (bs.map fun b => U.str b.w) := ⟨_, rfl⟩
  obtain ⟨b3, hb3⟩ : ∃ b3, b3 = U.lst (bs.map fun b => intsU b.R) := ⟨_, rfl⟩
  rw [← hb0, ← hb1]
  have RUNG : Xf C [.s b0, .s b1, .s (.int beat), .n, .n, .n, .n, .n, .n, .n, .n, .n, .n, .n, .n, .n] (eLc [5, 13] (gT [5, 13]) (iZp (eV 0) (eV 1)) tY (eCall 234 (aC (eV 5) (aC (eV 13) aN)) [])) b3 := by
    rw [hb3]
    apply f_lcm (f := fun b : Mb => U.tup [b.B.u, .str b.w]) (xs := bs)
    case hi =>
      rw [← zip_map (fun b : Mb => b.B.u) (fun b => U.str b.w)]
      exact j_zp (u := b0) (v := b1) (x_v rfl).top (x_v rfl).top (.inl hb0) (.inl hb1)
    case hw => (repeat first | fail "p" | fail)
    case hn => exact sz_le (by omega)
    case fu => omega
    case hs =>
      intro b hx
      have F := bo b hx
      generalize b.B.u = BU at F ⊢
      exact ⟨_, by (repeat first | fail "p" | fail), by (repeat first | fail "p" | with_reducible exact F | fail)⟩
  -- the rows, book by book
  have rows : ∀ i, i ≤ bs.length → ∃ rows, RowsOk (bs.take i) rows := fun i => by
    induction i with
    | zero => intro _; exact ⟨_, RowsOk.init⟩
    | succ i ih =>
      intro h
      obtain ⟨rs, r⟩ := ih (by omega)
      have q : bs[i]? = some bs[i] := List.getElem?_eq_getElem (by omega)
      obtain ⟨rs', r', _⟩ := meet_turn K (b0 := b0) (b1 := b1) (b2 := .int beat) (b3 := b3) r (ok _ (List.mem_of_getElem? q)) (by rw [List.length_take]; omega)
      exact ⟨rs', by rw [take_snoc_g q]; exact r'⟩
  have tr : ∃ rf : Nat → List (Int × Int), rf 0 = [(0, 1)] ∧ ∀ i, i ≤ bs.length → RowsOk (bs.take i) (rf i) ∧ ∀ b, bs[i]? = some b → Bod C [] [.s b0, .s b1, .s (.int beat), .s b3, .s (rowsU (rf i)), .s b.B.u, .s (intsU b.R), .n, .n, .n, .n, .n, .n, .n, .n, .n] b_meeting_2 [.s b0, .s b1, .s (.int beat), .s b3, .s (rowsU (rf (i + 1))), .n, .n, .n, .n, .n, .n, .n, .n, .n, .n, .n] := by
    have st : ∀ (i : Nat) (rs : List (Int × Int)), ∃ rs', RowsOk (bs.take i) rs → ∀ b, bs[i]? = some b → RowsOk (bs.take (i + 1)) rs' ∧ Bod C [] [.s b0, .s b1, .s (.int beat), .s b3, .s (rowsU rs), .s b.B.u, .s (intsU b.R), .n, .n, .n, .n, .n, .n, .n, .n, .n] b_meeting_2 [.s b0, .s b1, .s (.int beat), .s b3, .s (rowsU rs'), .n, .n, .n, .n, .n, .n, .n, .n, .n, .n, .n] := fun i rs => by
      by_cases hr : RowsOk (bs.take i) rs
      · cases q : bs[i]? with
        | none => exact ⟨[], fun _ b h => by cases h⟩
        | some b =>
          have il := (List.getElem?_eq_some_iff.mp q).1
          obtain ⟨rs', r', X⟩ := meet_turn K (b0 := b0) (b1 := b1) (b2 := .int beat) (b3 := b3) hr (ok _ (List.mem_of_getElem? q)) (by rw [List.length_take]; omega)
          exact ⟨rs', fun _ c hc => by cases hc; exact ⟨by rw [take_snoc_g q]; exact r', X⟩⟩
      · exact ⟨[], fun h => absurd h hr⟩
    obtain ⟨nx, hnx⟩ : ∃ nx : Nat → List (Int × Int) → List (Int × Int), ∀ i rs, RowsOk (bs.take i) rs → ∀ b, bs[i]? = some b → RowsOk (bs.take (i + 1)) (nx i rs) ∧ Bod C [] [.s b0, .s b1, .s (.int beat), .s b3, .s (rowsU rs), .s b.B.u, .s (intsU b.R), .n, .n, .n, .n, .n, .n, .n, .n, .n] b_meeting_2 [.s b0, .s b1, .s (.int beat), .s b3, .s (rowsU (nx i rs)), .n, .n, .n, .n, .n, .n, .n, .n, .n, .n, .n] := ⟨fun i rs => Classical.choose (st i rs), fun i rs => Classical.choose_spec (st i rs)⟩
    refine ⟨fun i => Nat.rec [(0, 1)] (fun i rs => nx i rs) i, rfl, ?_⟩
    have rk : ∀ i, i ≤ bs.length → RowsOk (bs.take i) (Nat.rec [(0, 1)] (fun i rs => nx i rs) i : List (Int × Int)) := fun i => by
      induction i with
      | zero => intro _; exact RowsOk.init
      | succ i ih =>
        intro h
        exact (hnx i _ (ih (by omega)) bs[i] (List.getElem?_eq_getElem (by omega))).1
    exact fun i hi => ⟨rk i hi, fun b q => (hnx i _ (rk i hi) b q).2⟩
  obtain ⟨rf, rf0, hrf⟩ := tr
  have LOOP : Xs C [] [.s b0, .s b1, .s (.int beat), .s b3, .s (.lst [.tup [.int 0, .int 1]]), .n, .n, .n, .n, .n, .n, .n, .n, .n, .n, .n] (sFo (gT [5, 6]) (iZp (eV 0) (eV 3)) b_meeting_2) (.nx [.s b0, .s b1, .s (.int beat), .s b3, .s (rowsU (rf bs.length)), .n, .n, .n, .n, .n, .n, .n, .n, .n, .n, .n]) := by
    refine s_fors (C := C) (io := []) (g := gT [5, 6]) (mi := iZp (eV 0) (eV 3)) (b := b_meeting_2) (xs := bs) (f := fun b : Mb => U.tup [b.B.u, intsU b.R]) (fun i => [.s b0, .s b1, .s (.int beat), .s b3, .s (rowsU (rf i)), .n, .n, .n, .n, .n, .n, .n, .n, .n, .n, .n]) ?_ (by omega) (by rw [rf0]; show Fgt _ [_, _, _, _, .s (.lst [.tup [.int 0, .int 1]]), _, _, _, _, _, _, _, _, _, _, _]; (repeat first | fail "p" | fail)) (fun i b q => ?_)
    · rw [← zip_map (fun b : Mb => b.B.u) (fun b => intsU b.R)]
      exact i_zp (u := b0) (v := b3) (x_v rfl) (x_v rfl) (.inl hb0) (.inl hb3)
    · have X := (hrf i (by have := (List.getElem?_eq_some_iff.mp q).1; omega)).2 b q
      refine ⟨_, ?_, X⟩
      generalize b.B.u = BU
      (repeat first | fail "p" | fail)
  obtain ⟨rs, hrs⟩ : ∃ rs, rs = rf bs.length := ⟨_, rfl⟩
  have ro : RowsOk bs rs := by
    have := (hrf bs.length (Nat.le_refl _)).1
    rw [List.take_of_length_le (Nat.le_refl _)] at this
    rw [hrs]; exact this
  rw [← hrs] at LOOP
  have pw : (10 ^ 60 : Int) ^ bs.length ≤ 10 ^ 180 := by
    rcases (show bs.length = 0 ∨ bs.length = 1 ∨ bs.length = 2 ∨ bs.length = 3 by omega) with e | e | e | e <;> rw [e] <;> decide
  have rlen : rs.length ≤ 1728 := by
    have := ro.len
    rcases (show bs.length = 0 ∨ bs.length = 1 ∨ bs.length = 2 ∨ bs.length = 3 by omega) with e | e | e | e <;> rw [e] at this <;> omega
  have LAST : Xs C [] [.s b0, .s b1, .s (.int beat), .s b3, .s (rowsU rs), .n, .n, .n, .n, .n, .n, .s .non, .n, .n, .n, .n] (sFo (gT [9, 10]) (iA (eV 4)) b_meeting_3) (.nx [.s b0, .s b1, .s (.int beat), .s b3, .s (rowsU rs), .n, .n, .n, .n, .n, .n, .s (mtU (foundV beat rs)), .n, .n, .n, .n]) := by
    have := s_fors (C := C) (io := []) (g := gT [9, 10]) (mi := iA (eV 4)) (b := b_meeting_3) (pe := [.s b0, .s b1, .s (.int beat), .s b3, .s (rowsU rs), .n, .n, .n, .n, .n, .n, .s .non, .n, .n, .n, .n]) (xs := rs) (f := pairU) (fun i => [.s b0, .s b1, .s (.int beat), .s b3, .s (rowsU rs), .n, .n, .n, .n, .n, .n, .s (mtU (foundV beat (rs.take i))), .n, .n, .n, .n]) (by (repeat first | fail "p" | fail)) (by have := K.fu2; omega) (by show Fgt _ [_, _, _, _, _, _, _, _, _, _, _, .s .non, _, _, _, _]; (repeat first | fail "p" | fail)) (fun i p q => by
      have hp := List.mem_of_getElem? q
      have bp := ro.bd p hp
      rw [take_snoc_g q, foundV_snoc]
      obtain ⟨f, w⟩ := p
      have bp : (0 ≤ f ∧ f < w) ∧ w ≤ (10 ^ 60) ^ bs.length := bp
      obtain ⟨h, hh⟩ : ∃ h, h = hereV beat (f, w) := ⟨_, rfl⟩
      have dv : O2 opDiv (.int (beat - f + w - 1)) (.int w) (.int ((beat - f + w - 1) / w)) := o_div (divOk_sm (by omega) (by omega)) (by omega)
      have qb := Int.natAbs_ediv_le_natAbs (beat - f + w - 1) w
      have mk : O2 opMul (.int (max 0 ((beat - f + w - 1) / w))) (.int w) (.int (max 0 ((beat - f + w - 1) / w) * w)) := o_mul (mulOk_sm (by omega) (by omega))
      have ad : O2 opAdd (.int f) (.int (max 0 ((beat - f + w - 1) / w) * w)) (.int h) := by rw [hh]; exact o_add
      rw [← hh]
      refine ⟨[.s b0, .s b1, .s (.int beat), .s b3, .s (rowsU rs), .n, .n, .n, .n, .s (.int f), .s (.int w), .s (mtU (foundV beat (rs.take i))), .n, .n, .n, .n], by (repeat first | fail "p" | fail), ?_⟩
      cases foundV beat (rs.take i) with
      | none =>
        show Bod C [] [_, _, _, _, _, _, _, _, _, _, _, .s .non, _, _, _, _] _ [_, _, _, _, _, _, _, _, _, _, _, .s (.int h), _, _, _, _]
        apply bod_nx
        · unfold b_meeting_3; (repeat first | fail "p" | with_reducible exact dv | with_reducible exact mk | with_reducible exact ad | fail)
        · (repeat first | fail "p" | fail)
      | some y =>
        unfold minO
        by_cases c : h < y
        · simp only [if_pos c]
          have lt : O2 opLt (.int h) (.int y) (.bl true) := lt_t c
          show Bod C [] [_, _, _, _, _, _, _, _, _, _, _, .s (.int y), _, _, _, _] _ [_, _, _, _, _, _, _, _, _, _, _, .s (.int h), _, _, _, _]
          apply bod_nx
          · unfold b_meeting_3; (repeat first | fail "p" | with_reducible exact dv | with_reducible exact mk | with_reducible exact ad | with_reducible exact lt | fail)
          · (repeat first | fail "p" | fail)
        · simp only [if_neg c]
          have lt : O2 opLt (.int h) (.int y) (.bl false) := lt_f c
          show Bod C [] [_, _, _, _, _, _, _, _, _, _, _, .s (.int y), _, _, _, _] _ [_, _, _, _, _, _, _, _, _, _, _, .s (.int y), _, _, _, _]
          apply bod_nx
          · unfold b_meeting_3; (repeat first | fail "p" | with_reducible exact dv | with_reducible exact mk | with_reducible exact ad | with_reducible exact lt | fail)
          · (repeat first | fail "p" | fail))
    rw [List.take_of_length_le (Nat.le_refl _)] at this
    exact this
  refine ⟨foundV beat rs, meets_ok ro hb.1, ?_⟩
  show Fu _ _ (mtU (foundV beat rs))
  have RUNG := RUNG.p
  refine fu_of rfl (by simp only [List.map_cons, List.map_nil, List.length_cons, List.length_nil, List.cons_append, List.nil_append, Nat.reduceAdd, Nat.reduceSub, List.replicate_succ, List.replicate_zero]; exact rfl) ?_
  (repeat first | fail "p" | with_reducible exact RUNG | with_reducible exact LOOP | with_reducible exact LAST | fail)
/-! the calls -/
theorem mtF (n : Nat) : MtF (ctx T (n + 8)) := by
  have f2 : 2000 < (ctx T (n + 8)).fuel := by
    have : (ctx T (n + 8)).fuel = FUEL := rfl
    rw [this]; unfold FUEL; omega
  refine ⟨fuT _, f2, fun B so => (len_call so (n + 3)).fu, fun f1 w1 o ow h1 h2 => ?_⟩
  exact joined_u (C := ctx T (n + 7)) (fun a0 b0 ha hb => whole_steps_u (C := ctx T (n + 6)) (fuT _) ha hb) h1 h2
theorem meeting_call {bs : List Mb} (ok : ∀ b ∈ bs, MbOk b) {n : Nat} (hn : 90 ≤ n) (bo : ∀ b ∈ bs, ∀ m, 81 ≤ m → Fu ((ctx T m).call 234) [b.B.u, .str b.w] (intsU b.R)) (l3 : bs.length ≤ 3) {beat : Int} (hb : 0 ≤ beat ∧ beat ≤ 10 ^ 200) :
    ∃ r, Meets bs beat r ∧ Fu ((ctx T n).call 235) [.lst (bs.map fun b => b.B.u), .lst (bs.map fun b => .str b.w), .int beat] (mtU r) := by
  obtain ⟨m, rfl⟩ : ∃ m, n = m + 9 := ⟨n - 9, by omega⟩
  exact meeting_u (C := ctx T (m + 8)) (mtF m) ok (fun b hb => bo b hb (m + 8) (by omega)) l3 hb
end
/-! words for ever; words are clean -/
theorem rings_ever_call {B : Bk} (so : Sound B) {n : Nat} (hn : 110 ≤ n) {x : Int} (x0 : 0 ≤ x) : Fu ((ctx T n).call 231) [B.u, .int x] (.lst ((B.words (B.P.length - 1) (x % B.lg (B.P.length - 1))).map U.str)) := by
  obtain ⟨m, rfl⟩ : ∃ m, n = m + 8 := ⟨n - 8, by omega⟩
  have p1 := so.toOk.p1
  have l1 := so.toOk.lg1 (B.P.length - 1) (by omega)
  have lb := so.lgb (B.P.length - 1) (by omega)
  have L := (len_call so (m + 1)).fu
  have ix : O2 opIx (intsU B.lens) (.int (-1)) (.int (B.lg (B.P.length - 1))) := o_ixl (at_m1 (by
    rw [List.getLast?_eq_getElem?, List.length_map, Bk.lens_len, List.getElem?_map, Bk.lg_at (by omega)]; rfl))
  have r0 := Int.emod_nonneg x (show B.lg (B.P.length - 1) ≠ 0 by omega)
  have r1 := Int.emod_lt_of_pos x (show 0 < B.lg (B.P.length - 1) by omega)
  have R := rings_u so (n := m + 6) (by omega) r0 (Int.le_of_lt r1)
  have R : Fu ((ctx T (m + 7)).call 170) [B.u, .int (x % B.lg (B.P.length - 1))] (.lst ((B.rings (x % B.lg (B.P.length - 1))).map U.str)) := R
  rw [show B.rings (x % B.lg (B.P.length - 1)) = B.words (B.P.length - 1) (x % B.lg (B.P.length - 1)) by unfold Bk.rings; rw [if_neg (by omega)]] at R
  generalize (B.words (B.P.length - 1) (x % B.lg (B.P.length - 1))).map U.str = ws at R ⊢
  have DV : B1 bDvm [.int x, .int (B.lg (B.P.length - 1))] (.tup [.int (x / B.lg (B.P.length - 1)), .int (x % B.lg (B.P.length - 1))]) := b_dvm (by omega) (divOk_sm (by omega) (by omega))
  have lt : O2 opLt (.int x) (.int 0) (.bl false) := lt_f (by omega)
  generalize B.lg (B.P.length - 1) = lg at *
  have TO : Fu ((ctx T (m + 7)).call 229) [B.u, .int x] (.tup [.int (x / lg), .int (x % lg)]) := by
    show Fu (runFn (ctx T (m + 6)) f_turn_of) _ _
    generalize B.u = BU at L ⊢
    refine fu_of rfl (by simp only [List.map_cons, List.map_nil, List.length_cons, List.length_nil, List.cons_append, List.nil_append, Nat.reduceAdd, Nat.reduceSub, List.replicate_succ, List.replicate_zero]; exact rfl) ?_
    (repeat first | fail "p" | with_reducible exact L | with_reducible exact ix | with_reducible exact lt | with_reducible exact DV | fail)
  show Fu (runFn (ctx T (m + 7)) f_rings_ever) _ _
  generalize B.u = BU at *
  refine fu_of rfl (by simp only [List.map_cons, List.map_nil, List.length_cons, List.length_nil, List.cons_append, List.nil_append, Nat.reduceAdd, Nat.reduceSub, List.replicate_succ, List.replicate_zero]; exact rfl) ?_
  (repeat first | fail "p" | with_reducible exact TO | with_reducible exact R | fail)
/-! k58: books of two rings -/
theorem l_cell_at_u {C : Ctx} {ns : List Int} {k : Nat} : Fu (runFn C f_l_cell_at) [.fz (ns.map U.int), .int k] (.int (cellA ns k)) := by
  by_cases h : k < ns.length
  · refine fu_of rfl (by simp only [List.map_cons, List.map_nil, List.length_cons, List.length_nil, List.cons_append, List.nil_append, Nat.reduceAdd, Nat.reduceSub, List.replicate_succ, List.replicate_zero]; exact rfl) ?_; (repeat first | fail "p" | with_reducible exact lenFz | with_reducible exact ixFz h | fail)
  · rw [show cellA ns k = 0 by unfold cellA; rw [List.getD_eq_getElem?_getD, List.getElem?_eq_none (by omega)]; rfl]
    refine fu_of rfl (by simp only [List.map_cons, List.map_nil, List.length_cons, List.length_nil, List.cons_append, List.nil_append, Nat.reduceAdd, Nat.reduceSub, List.replicate_succ, List.replicate_zero]; exact rfl) ?_; (repeat first | fail "p" | with_reducible exact lenFz | fail)
def bigV (c m : Int) : Int := if c % 3 = 0 then c / 3 % 7 % m else if c % 3 = 1 then c / 3 % 1000 % m else c / 3 * 982451653 % m
theorem bigV_bd {c m : Int} (h : 0 < m) : 0 ≤ bigV c m ∧ bigV c m < m := by
  unfold bigV
  split
  · exact ⟨Int.emod_nonneg _ (by omega), Int.emod_lt_of_pos _ h⟩
  · split
    · exact ⟨Int.emod_nonneg _ (by omega), Int.emod_lt_of_pos _ h⟩
    · exact ⟨Int.emod_nonneg _ (by omega), Int.emod_lt_of_pos _ h⟩
theorem l_big_u {C : Ctx} {c m : Int} (hc : Lt2 c 1048580) (hm : 0 < m) : Fu (runFn C f_l_big) [.int c, .int m] (.int (bigV c m)) := by
  have mk : mulOk (c / 3) 982451653 = true := mulOk_of hc.div (b := 40) ⟨by decide⟩ (by decide)
  unfold bigV
  by_cases h0 : c % 3 = 0
  · rw [if_pos h0]; refine fu_of rfl (by simp only [List.map_cons, List.map_nil, List.length_cons, List.length_nil, List.cons_append, List.nil_append, Nat.reduceAdd, Nat.reduceSub, List.replicate_succ, List.replicate_zero]; exact rfl) ?_; (repeat first | fail "p" | fail)
  · rw [if_neg h0]
    by_cases h1 : c % 3 = 1
    · rw [if_pos h1]; refine fu_of rfl (by simp only [List.map_cons, List.map_nil, List.length_cons, List.length_nil, List.cons_append, List.nil_append, Nat.reduceAdd, Nat.reduceSub, List.replicate_succ, List.replicate_zero]; exact rfl) ?_; (repeat first | fail "p" | fail)
    · rw [if_neg h1]; refine fu_of rfl (by simp only [List.map_cons, List.map_nil, List.length_cons, List.length_nil, List.cons_append, List.nil_append, Nat.reduceAdd, Nat.reduceSub, List.replicate_succ, List.replicate_zero]; exact rfl) ?_; (repeat first | fail "p" | fail)
def rungP (x : Bool) : Pt := if x = true then .ring "bell" 1 else .hold 1
def bkR (a b c : Int) (x y : Bool) : Bk := ⟨[("arm", 0)], [("a", .hold a), ("b", rungP x), ("c", .hold b), ("d", rungP y), ("e", .hold c), ("play", .row [0, 1, 2, 3, 4])]⟩
section
variable {a b c : Int} {x y : Bool}
theorem ok_words : ∀ s ∈ (["arm", "a", "b", "c", "d", "e", "play", "bell"] : List Str), PyData.strOk s = true := by decide +kernel
theorem rungP_ok (k : Nat) : PtOk 1 k (rungP x) := by
  unfold rungP
  split
  · exact ⟨ok_words _ (by simp), by decide, by decide⟩
  · exact ⟨by decide, by decide⟩
theorem rungP_lg {acc : List Int} : lenF acc (rungP x) = 1 := by unfold rungP; split <;> rfl
theorem bkR_s (ha : 1 ≤ a ∧ a ≤ 10 ^ 18) (hb : 1 ≤ b ∧ b ≤ 10 ^ 18) (hc : 1 ≤ c ∧ c ≤ 10 ^ 18) : Sound (bkR a b c x y) ∧ (∀ k l, (k, l) ∈ [(0, a), (1, 1), (2, b), (3, 1), (4, c), (5, a + (1 + (b + (1 + (c + 0)))))] → (bkR a b c x y).lg k = l) := by
  have cas : ∀ k, k < 6 → k = 0 ∨ k = 1 ∨ k = 2 ∨ k = 3 ∨ k = 4 ∨ k = 5 := fun k h => by omega
  have o : Ok (bkR a b c x y) := by
    refine ⟨(show 1 ≤ 1 ∧ 1 ≤ 8 by decide), (show 1 ≤ 6 ∧ 6 ≤ 70 by decide), (show (["arm"] : List Str).Nodup by decide), (show (["a", "b", "c", "d", "e", "play"] : List Str).Nodup by decide), fun z hz => ?_, fun z hz => ?_, fun k z q => ?_⟩
    · have hz : z ∈ [(("arm" : Str), (0 : Int))] := hz
      rw [List.mem_singleton.mp hz]; exact ⟨ok_words _ (by simp), by decide, by decide⟩
    · have : z.1 ∈ (["a", "b", "c", "d", "e", "play"] : List Str) := List.mem_map.mpr ⟨z, hz, rfl⟩
      exact ok_words _ (by simp only [List.mem_cons, List.not_mem_nil, or_false] at this ⊢; rcases this with h | h | h | h | h | h <;> rw [h] <;> simp)
    · have hk : k < 6 := (List.getElem?_eq_some_iff.mp q).1
      rcases cas k hk with rfl | rfl | rfl | rfl | rfl | rfl <;> cases q
      · exact ha
      · exact rungP_ok _
      · exact hb
      · exact rungP_ok _
      · exact hc
      · exact ⟨by decide, by decide, by decide⟩
  have pl : (bkR a b c x y).P.length = 6 := rfl
  have l0 : (bkR a b c x y).lg 0 = a := by rw [o.lg_eq (by omega)]; rfl
  have l1 : (bkR a b c x y).lg 1 = 1 := by rw [o.lg_eq (by omega)]; exact rungP_lg
  have l2 : (bkR a b c x y).lg 2 = b := by rw [o.lg_eq (by omega)]; rfl
  have l3 : (bkR a b c x y).lg 3 = 1 := by rw [o.lg_eq (by omega)]; exact rungP_lg
  have l4 : (bkR a b c x y).lg 4 = c := by rw [o.lg_eq (by omega)]; rfl
  have l5 : (bkR a b c x y).lg 5 = a + (1 + (b + (1 + (c + 0)))) := by
    rw [o.lg_eq (by omega)]
    show (bkR a b c x y).lg 0 + ((bkR a b c x y).lg 1 + ((bkR a b c x y).lg 2 + ((bkR a b c x y).lg 3 + ((bkR a b c x y).lg 4 + 0)))) = _
    rw [l0, l1, l2, l3, l4]
  have al : ∀ k l, (k, l) ∈ [(0, a), (1, 1), (2, b), (3, 1), (4, c), (5, a + (1 + (b + (1 + (c + 0)))))] → (bkR a b c x y).lg k = l := fun k l h => by
    simp only [List.mem_cons, Prod.mk.injEq, List.not_mem_nil, or_false] at h
    rcases h with ⟨rfl, rfl⟩ | ⟨rfl, rfl⟩ | ⟨rfl, rfl⟩ | ⟨rfl, rfl⟩ | ⟨rfl, rfl⟩ | ⟨rfl, rfl⟩ <;> assumption
  refine ⟨⟨o, fun k hk => ?_, fun k js e hk => ?_⟩, al⟩
  · have hk : k < 6 := by omega
    rcases cas k hk with rfl | rfl | rfl | rfl | rfl | rfl <;> omega
  · have hk : k < 6 := by omega
    have rn : ∀ z : Bool, rungP z ≠ .side js := fun z h => by unfold rungP at h; split at h <;> cases h
    rcases cas k hk with rfl | rfl | rfl | rfl | rfl | rfl
    · cases e
    · exact absurd e (rn x)
    · cases e
    · exact absurd e (rn y)
    · cases e
    · cases e
/-- what is rung at a beat -/
theorem bkR_w (ha : 1 ≤ a ∧ a ≤ 10 ^ 18) (hb : 1 ≤ b ∧ b ≤ 10 ^ 18) (hc : 1 ≤ c ∧ c ≤ 10 ^ 18) {t : Int} (t0 : 0 ≤ t) (t1 : t < a + (1 + (b + (1 + (c + 0))))) : (bkR a b c x y).words 5 t = (if x = true ∧ t = a then [("bell" : Str)] else []) ++ (if y = true ∧ t = a + 1 + b then [("bell" : Str)] else []) := by
  obtain ⟨so, al⟩ := bkR_s (x := x) (y := y) ha hb hc
  have o := so.toOk
  obtain ⟨B, hB⟩ : ∃ B, B = bkR a b c x y := ⟨_, rfl⟩
  have l0 : B.lg 0 = a := hB ▸ al 0 a (by simp)
  have l1 : B.lg 1 = 1 := hB ▸ al 1 1 (by simp)
  have l2 : B.lg 2 = b := hB ▸ al 2 b (by simp)
  have l3 : B.lg 3 = 1 := hB ▸ al 3 1 (by simp)
  have l5 : B.lg 5 = a + (1 + (b + (1 + (c + 0)))) := hB ▸ al 5 _ (by simp)
  have pl : B.P.length = 6 := by rw [hB]; rfl
  have p0 : B.pt 0 = .hold a := by rw [hB]; rfl
  have p1 : B.pt 1 = rungP x := by rw [hB]; rfl
  have p2 : B.pt 2 = .hold b := by rw [hB]; rfl
  have p3 : B.pt 3 = rungP y := by rw [hB]; rfl
  have p4 : B.pt 4 = .hold c := by rw [hB]; rfl
  have p5 : B.pt 5 = .row [0, 1, 2, 3, 4] := by rw [hB]; rfl
  rw [← hB] at o ⊢
  have hw : ∀ k d, k < 6 → B.pt k = .hold d → ∀ s, B.words k s = [] := fun k d hk e s => by rw [o.words_eq (by omega), e]; split <;> rfl
  have rw_ : ∀ k (z : Bool), k < 6 → B.lg k = 1 → B.pt k = rungP z → ∀ s, (if 0 ≤ s then B.words k s else []) = if z = true ∧ s = 0 then [("bell" : Str)] else [] := fun k z hk el e s => by
    by_cases s0 : 0 ≤ s
    · rw [if_pos s0, o.words_eq (by omega), el, e]
      unfold rungP
      by_cases s1 : 1 ≤ s
      · rw [if_pos s1, if_neg (by omega)]
      · have : s = 0 := by omega
        subst this
        rw [if_neg (by decide)]
        by_cases hz : z = true
        · rw [if_pos hz, if_pos ⟨hz, rfl⟩]; rfl
        · rw [if_neg hz, if_neg fun h => hz h.1]
    · rw [if_neg s0, if_neg (by omega)]
  rw [o.words_eq (by omega), if_neg (by omega), p5]
  show (if 0 ≤ t then B.words 0 t else []) ++ ((if 0 ≤ t - B.lg 0 then B.words 1 (t - B.lg 0) else []) ++ ((if 0 ≤ t - B.lg 0 - B.lg 1 then B.words 2 (t - B.lg 0 - B.lg 1) else []) ++ ((if 0 ≤ t - B.lg 0 - B.lg 1 - B.lg 2 then B.words 3 (t - B.lg 0 - B.lg 1 - B.lg 2) else []) ++ ((if 0 ≤ t - B.lg 0 - B.lg 1 - B.lg 2 - B.lg 3 then B.words 4 (t - B.lg 0 - B.lg 1 - B.lg 2 - B.lg 3) else []) ++ [])))) = _
  rw [hw 0 a (by omega) p0, hw 2 b (by omega) p2, hw 4 c (by omega) p4, ite_self, ite_self, ite_self, rw_ 1 x (by omega) l1 p1, rw_ 3 y (by omega) l3 p3, l0, l1, l2]
  simp only [List.nil_append, List.append_nil]
  congr 1
  · by_cases h : x = true ∧ t = a
    · rw [if_pos h, if_pos ⟨h.1, by omega⟩]
    · rw [if_neg h, if_neg fun q => h ⟨q.1, by omega⟩]
  · by_cases h : y = true ∧ t = a + 1 + b
    · rw [if_pos h, if_pos ⟨h.1, by omega⟩]
    · rw [if_neg h, if_neg fun q => h ⟨q.1, by omega⟩]
theorem rungP_cnt {B : Bk} (o : Ok B) {k : Nat} (hk : k < B.P.length) {z : Bool} (e : B.pt k = rungP z) : B.cnt "bell" k ≤ 1 := by
  rw [cnt_eq o hk, e]
  unfold rungP
  by_cases hz : z = true
  · rw [if_pos hz]; show (if ("bell" : Str) = "bell" then (1 : Int) else 0) ≤ 1; rw [if_pos rfl]; decide
  · rw [if_neg hz]; show (0 : Int) ≤ 1; decide
theorem mbR (ha : 1 ≤ a ∧ a ≤ 10 ^ 18) (hb : 1 ≤ b ∧ b ≤ 10 ^ 18) (hc : 1 ≤ c ∧ c ≤ 10 ^ 18) (x y : Bool) : ∃ m : Mb, m.B = bkR a b c x y ∧ m.w = "bell" ∧ m.lg = a + (1 + (b + (1 + (c + 0)))) ∧ MbOk m ∧ (∀ t, t ∈ m.R ↔ (x = true ∧ t = a) ∨ (y = true ∧ t = a + 1 + b)) ∧ ∀ n, 81 ≤ n → Fu ((ctx T n).call 234) [m.B.u, .str m.w] (intsU m.R) := by
  obtain ⟨so, al⟩ := bkR_s (x := x) (y := y) ha hb hc
  have o := so.toOk
  have pl : (bkR a b c x y).P.length = 6 := rfl
  have cn : (bkR a b c x y).cnt "bell" 5 ≤ 12 := by
    rw [cnt_eq o (by omega)]
    show (bkR a b c x y).cnt "bell" 0 + ((bkR a b c x y).cnt "bell" 1 + ((bkR a b c x y).cnt "bell" 2 + ((bkR a b c x y).cnt "bell" 3 + ((bkR a b c x y).cnt "bell" 4 + 0)))) ≤ 12
    have h0 : (bkR a b c x y).cnt "bell" 0 = 0 := by rw [cnt_eq o (by omega)]; rfl
    have h2 : (bkR a b c x y).cnt "bell" 2 = 0 := by rw [cnt_eq o (by omega)]; rfl
    have h4 : (bkR a b c x y).cnt "bell" 4 = 0 := by rw [cnt_eq o (by omega)]; rfl
    have h1 := rungP_cnt o (k := 1) (by omega) (z := x) rfl
    have h3 := rungP_cnt o (k := 3) (by omega) (z := y) rfl
    omega
  obtain ⟨R, ru, F⟩ := beats_of_call (w := "bell") so cn
  have l5 : (bkR a b c x y).lg 5 = a + (1 + (b + (1 + (c + 0)))) := al 5 _ (by simp)
  refine ⟨⟨_, "bell", R⟩, rfl, rfl, l5, ⟨so, ru⟩, fun t => ?_, fun n hn => (F n hn).fu⟩
  show t ∈ R ↔ _
  rw [ru.mem]
  show (0 ≤ t ∧ t < (bkR a b c x y).lg 5) ∧ ("bell" : Str) ∈ (bkR a b c x y).words 5 t ↔ _
  rw [l5]
  constructor
  · rintro ⟨⟨t0, t1⟩, h⟩
    rw [bkR_w ha hb hc t0 t1] at h
    rcases List.mem_append.mp h with q | q
    · split at q
      · rename_i e; exact .inl e
      · cases q
    · split at q
      · rename_i e; exact .inr e
      · cases q
  · intro h
    have tb : 0 ≤ t ∧ t < a + (1 + (b + (1 + (c + 0)))) := by rcases h with ⟨_, rfl⟩ | ⟨_, rfl⟩ <;> omega
    refine ⟨tb, ?_⟩
    rw [bkR_w ha hb hc tb.1 tb.2]
    rcases h with h | h
    · rw [if_pos h]; simp
    · rw [if_pos h]; simp
end
/-- one book made -/
theorem l_book_u {C : Ctx} (fu : 1000 < C.fuel) {c0 c1 c2 share a b c : Int} {keep : Option Int} (hk : keep = none ∨ keep = some 0 ∨ keep = some 1) (big : ∀ z, z = c0 ∨ z = c1 ∨ z = c2 → Fu (C.call 189) [.int z, .int (10 ^ (17 : Int).toNat)] (.int (bigV z (10 ^ (17 : Int).toNat)))) (hs : 1 ≤ share)
    (ea : a = 1 + bigV c0 (10 ^ (17 : Int).toNat)) (eb : b = 1 + bigV c1 (10 ^ (17 : Int).toNat)) (ec : c = 1 + bigV c2 (10 ^ (17 : Int).toNat) + (0 - (a + (b + (1 + bigV c2 (10 ^ (17 : Int).toNat) + 0))) - 2) % share) :
    Fu (runFn C f_l_book) [.lst [.int c0, .int c1, .int c2], .int share, mtU keep] (bkR a b c (decide (keep ≠ some 1)) (decide (keep ≠ some 0))).u := by
  obtain ⟨d, hd⟩ : ∃ d, d = 1 + bigV c2 (10 ^ (17 : Int).toNat) := ⟨_, rfl⟩
  rw [← hd] at ec
  have LC : Xf C [.s (.lst [.int c0, .int c1, .int c2]), .s (.int share), .s (mtU keep), .n, .n, .n, .n] (eLc [6] (gN 6) (iA (eV 0)) tY (eOp opAdd (eC (.int 1)) (eCall 189 (aC (eV 6) (aC (eOp opPow (eC (.int 10)) (eC (.int 17))) aN)) []))) (intsU [a, b, d]) := by
    have e : intsU [a, b, d] = .lst ([c0, c1, c2].map fun z => U.int (1 + bigV z (10 ^ (17 : Int).toNat))) := by rw [ea, eb, hd]; rfl
    rw [e]
    apply f_lcm (f := U.int) (xs := [c0, c1, c2])
    case hi => show Xj _ _ _ [.int c0, .int c1, .int c2]; (repeat first | fail "p" | fail)
    case hw => (repeat first | fail "p" | fail)
    case hn => exact sz_le (show 3 ≤ 1000000 by decide)
    case fu => show 3 < _; omega
    case hs =>
      intro z hz
      have F := big z (by simp only [List.mem_cons, List.not_mem_nil, or_false] at hz; exact hz)
      generalize mtU keep = KU
      exact ⟨_, by (repeat first | fail "p" | fail), by (repeat first | fail "p" | with_reducible exact F | fail)⟩
  have SM : B1 bSum [intsU [a, b, d]] (.int (a + (b + (d + 0)))) := b_sum (ns := [a, b, d])
  have MD : O2 opMod (.int (0 - (a + (b + (d + 0))) - 2)) (.int share) (.int ((0 - (a + (b + (d + 0))) - 2) % share)) := o_mod (by omega)
  have AD : O2 opAdd (.int d) (.int ((0 - (a + (b + (d + 0))) - 2) % share)) (.int c) := by rw [ec]; exact o_add
  have i2 : O2 opIx (intsU [a, b, d]) (.int 2) (.int d) := o_ixl (at_int (by decide) rfl)
  have ST : Xs C [] [.s (.lst [.int c0, .int c1, .int c2]), .s (.int share), .s (mtU keep), .o (intsU [a, b, d]), .n, .n, .n] (sSt stD (eV 3) (eC (.int 2)) (eOp opAdd (eOp opIx (eV 3) (eC (.int 2))) (eOp opMod (eOp opSub (eOp opSub (eC (.int 0)) (eBf bSum (aC (eV 3) aN))) (eC (.int 2))) (eV 1)))) (.nx [.s (.lst [.int c0, .int c1, .int c2]), .s (.int share), .s (mtU keep), .o (intsU [a, b, c]), .n, .n, .n]) := by
    generalize mtU keep = KU
    refine s_stl (us := [.int a, .int b, .int d]) (k := 2) (n := 2) (u := .int c) rfl (by (repeat first | fail "p" | with_reducible exact i2 | with_reducible exact SM | with_reducible exact MD | with_reducible exact AD | fail)) x_ci rfl ?_
    exact toS (toS (toS to0))
  have j0 : O2 opIx (intsU [a, b, c]) (.int 0) (.int a) := o_ixl (at_int (by decide) rfl)
  have j1 : O2 opIx (intsU [a, b, c]) (.int 1) (.int b) := o_ixl (at_int (by decide) rfl)
  have j2 : O2 opIx (intsU [a, b, c]) (.int 2) (.int c) := o_ixl (at_int (by decide) rfl)
  rcases hk with rfl | rfl | rfl
  · have r0 : O2 opIx (.lst [.tup [.str "ring", .str "bell", .int 1], .tup [.str "ring", .str "bell", .int 1]]) (.int 0) (.tup [.str "ring", .str "bell", .int 1]) := o_ixl (at_int (by decide) rfl)
    have r1 : O2 opIx (.lst [.tup [.str "ring", .str "bell", .int 1], .tup [.str "ring", .str "bell", .int 1]]) (.int 1) (.tup [.str "ring", .str "bell", .int 1]) := o_ixl (at_int (by decide) rfl)
    show Fu _ [_, _, .non] (.tup [.lst [.tup [.str "arm", .int 0]], .lst [.tup [.str "a", .tup [.str "hold", .int a]], .tup [.str "b", .tup [.str "ring", .str "bell", .int 1]], .tup [.str "c", .tup [.str "hold", .int b]], .tup [.str "d", .tup [.str "ring", .str "bell", .int 1]], .tup [.str "e", .tup [.str "hold", .int c]], .tup [.str "play", .tup [.str "row", .tup [.str "a", .str "b", .str "c", .str "d", .str "e"]]]]])
    refine fu_of rfl (by simp only [List.map_cons, List.map_nil, List.length_cons, List.length_nil, List.cons_append, List.nil_append, Nat.reduceAdd, Nat.reduceSub, List.replicate_succ, List.replicate_zero]; exact rfl) ?_
    (repeat first | fail "p" | with_reducible exact LC | with_reducible exact ST | with_reducible exact j0 | with_reducible exact j1 | with_reducible exact j2 | with_reducible exact r0 | with_reducible exact r1 | fail)
  · have r0 : O2 opIx (.lst [.tup [.str "ring", .str "bell", .int 1], .tup [.str "hold", .int 1]]) (.int 0) (.tup [.str "ring", .str "bell", .int 1]) := o_ixl (at_int (by decide) rfl)
    have r1 : O2 opIx (.lst [.tup [.str "ring", .str "bell", .int 1], .tup [.str "hold", .int 1]]) (.int 1) (.tup [.str "hold", .int 1]) := o_ixl (at_int (by decide) rfl)
    have SX : Xs C [] [.s (.lst [.int c0, .int c1, .int c2]), .s (.int share), .s (.int 0), .o (intsU [a, b, c]), .o (.lst [.tup [.str "ring", .str "bell", .int 1], .tup [.str "ring", .str "bell", .int 1]]), .n, .n] (sSt stD (eV 4) (eOp opSub (eC (.int 1)) (eV 2)) (eTup (aC (eC (.str "hold")) (aC (eC (.int 1)) aN)))) (.nx [.s (.lst [.int c0, .int c1, .int c2]), .s (.int share), .s (.int 0), .o (intsU [a, b, c]), .o (.lst [.tup [.str "ring", .str "bell", .int 1], .tup [.str "hold", .int 1]]), .n, .n]) := by
      have sb : O2 opSub (.int 1) (.int 0) (.int 1) := o_sub
      refine s_stl (us := [.tup [.str "ring", .str "bell", .int 1], .tup [.str "ring", .str "bell", .int 1]]) (k := 1) (n := 1) (u := .tup [.str "hold", .int 1]) rfl (by (repeat first | fail "p" | fail)) (by (repeat first | fail "p" | with_reducible exact sb | fail)) rfl ?_
      exact toS (toS (toS (toS to0)))
    show Fu _ [_, _, .int 0] (.tup [.lst [.tup [.str "arm", .int 0]], .lst [.tup [.str "a", .tup [.str "hold", .int a]], .tup [.str "b", .tup [.str "ring", .str "bell", .int 1]], .tup [.str "c", .tup [.str "hold", .int b]], .tup [.str "d", .tup [.str "hold", .int 1]], .tup [.str "e", .tup [.str "hold", .int c]], .tup [.str "play", .tup [.str "row", .tup [.str "a", .str "b", .str "c", .str "d", .str "e"]]]]])
    refine fu_of rfl (by simp only [List.map_cons, List.map_nil, List.length_cons, List.length_nil, List.cons_append, List.nil_append, Nat.reduceAdd, Nat.reduceSub, List.replicate_succ, List.replicate_zero]; exact rfl) ?_
    (repeat first | fail "p" | with_reducible exact LC | with_reducible exact ST | with_reducible exact SX | with_reducible exact j0 | with_reducible exact j1 | with_reducible exact j2 | with_reducible exact r0 | with_reducible exact r1 | fail)
  · have r0 : O2 opIx (.lst [.tup [.str "hold", .int 1], .tup [.str "ring", .str "bell", .int 1]]) (.int 0) (.tup [.str "hold", .int 1]) := o_ixl (at_int (by decide) rfl)
    have r1 : O2 opIx (.lst [.tup [.str "hold", .int 1], .tup [.str "ring", .str "bell", .int 1]]) (.int 1) (.tup [.str "ring", .str "bell", .int 1]) := o_ixl (at_int (by decide) rfl)
    have SX : Xs C [] [.s (.lst [.int c0, .int c1, .int c2]), .s (.int share), .s (.int 1), .o (intsU [a, b, c]), .o (.lst [.tup [.str "ring", .str "bell", .int 1], .tup [.str "ring", .str "bell", .int 1]]), .n, .n] (sSt stD (eV 4) (eOp opSub (eC (.int 1)) (eV 2)) (eTup (aC (eC (.str "hold")) (aC (eC (.int 1)) aN)))) (.nx [.s (.lst [.int c0, .int c1, .int c2]), .s (.int share), .s (.int 1), .o (intsU [a, b, c]), .o (.lst [.tup [.str "hold", .int 1], .tup [.str "ring", .str "bell", .int 1]]), .n, .n]) := by
      have sb : O2 opSub (.int 1) (.int 1) (.int 0) := o_sub
      refine s_stl (us := [.tup [.str "ring", .str "bell", .int 1], .tup [.str "ring", .str "bell", .int 1]]) (k := 0) (n := 0) (u := .tup [.str "hold", .int 1]) rfl (by (repeat first | fail "p" | fail)) (by (repeat first | fail "p" | with_reducible exact sb | fail)) rfl ?_
      exact toS (toS (toS (toS to0)))
    show Fu _ [_, _, .int 1] (.tup [.lst [.tup [.str "arm", .int 0]], .lst [.tup [.str "a", .tup [.str "hold", .int a]], .tup [.str "b", .tup [.str "hold", .int 1]], .tup [.str "c", .tup [.str "hold", .int b]], .tup [.str "d", .tup [.str "ring", .str "bell", .int 1]], .tup [.str "e", .tup [.str "hold", .int c]], .tup [.str "play", .tup [.str "row", .tup [.str "a", .str "b", .str "c", .str "d", .str "e"]]]]])
    refine fu_of rfl (by simp only [List.map_cons, List.map_nil, List.length_cons, List.length_nil, List.cons_append, List.nil_append, Nat.reduceAdd, Nat.reduceSub, List.replicate_succ, List.replicate_zero]; exact rfl) ?_
    (repeat first | fail "p" | with_reducible exact LC | with_reducible exact ST | with_reducible exact SX | with_reducible exact j0 | with_reducible exact j1 | with_reducible exact j2 | with_reducible exact r0 | with_reducible exact r1 | fail)
/-! k58: the choices, and the law -/
/-- what is drawn of a book -/
structure Dr (b : Mb) (keep : Option Int) (a z l0 : Int) : Prop where
  w : b.w = "bell"
  lg : b.lg = l0
  ok : MbOk b
  mem : ∀ t, t ∈ b.R ↔ (keep ≠ some 1 ∧ t = a) ∨ (keep ≠ some 0 ∧ t = z)
  F : ∀ n, 81 ≤ n → Fu ((ctx T n).call 234) [b.B.u, .str b.w] (intsU b.R)
  rg : keep = none → ∀ t, 0 ≤ t → t < l0 → ("bell" : Str) ∈ b.B.words (b.B.P.length - 1) t → b.B.words (b.B.P.length - 1) t = [("bell" : Str)]
/-- meeting's answer is told by what is asked -/
def Meets2 (P : Int → Prop) (beat : Int) : Option Int → Prop
  | none => ∀ x, ¬ P x
  | some x => beat ≤ x ∧ P x ∧ ∀ y, beat ≤ y → P y → x ≤ y
theorem meets2_uniq {P : Int → Prop} {beat : Int} : ∀ {r s : Option Int}, Meets2 P beat r → Meets2 P beat s → r = s
  | none, none, _, _ => rfl
  | none, some y, h, k => absurd k.2.1 (h y)
  | some x, none, h, k => absurd h.2.1 (k x)
  | some x, some y, h, k => by
    have h1 := h.2.2 y k.1 k.2.1
    have h2 := k.2.2 x h.1 h.2.1
    rw [show x = y by omega]
theorem meets_2 {bs : List Mb} {beat : Int} {r : Option Int} (h : Meets bs beat r) : Meets2 (AllAt bs) beat r := by
  cases r with
  | none => exact h
  | some x => exact h
/-- the least of those told -/
def lstF (r : Nat → Option Int) (m : Nat) : Nat → Option Int
  | 0 => none
  | i + 1 => if i < m then (match r i with | none => lstF r m i | some x => minO (lstF r m i) x) else lstF r m i
theorem lstF_ok {r : Nat → Option Int} {m : Nat} : ∀ i, match lstF r m i with
    | none => ∀ j, j < i → j < m → r j = none
    | some x => (∃ j, j < i ∧ j < m ∧ r j = some x) ∧ ∀ j, j < i → j < m → ∀ y, r j = some y → x ≤ y
  | 0 => fun j h => absurd h (Nat.not_lt_zero _)
  | i + 1 => by
    have ih := lstF_ok (r := r) (m := m) i
    unfold lstF
    by_cases c : i < m
    · rw [if_pos c]
      cases e : r i with
      | none =>
        dsimp only
        revert ih
        cases lstF r m i with
        | none =>
          intro ih j hj hm
          by_cases q : j = i
          · rw [q]; exact e
          · exact ih j (by omega) hm
        | some x =>
          rintro ⟨⟨j, h1, h2, h3⟩, h4⟩
          refine ⟨⟨j, by omega, h2, h3⟩, fun k hk hm y hy => ?_⟩
          by_cases q : k = i
          · rw [q, e] at hy; cases hy
          · exact h4 k (by omega) hm y hy
      | some x =>
        dsimp only
        revert ih
        cases lstF r m i with
        | none =>
          intro ih
          refine ⟨⟨i, by omega, c, e⟩, fun k hk hm y hy => ?_⟩
          by_cases q : k = i
          · rw [q, e] at hy; cases hy; exact Int.le_refl _
          · rw [ih k (by omega) hm] at hy; cases hy
        | some z =>
          rintro ⟨⟨j, h1, h2, h3⟩, h4⟩
          unfold minO
          by_cases c2 : x < z
          · simp only [if_pos c2]
            refine ⟨⟨i, by omega, c, e⟩, fun k hk hm y hy => ?_⟩
            by_cases q : k = i
            · rw [q, e] at hy; cases hy; exact Int.le_refl _
            · have := h4 k (by omega) hm y hy; omega
          · simp only [if_neg c2]
            refine ⟨⟨j, by omega, h2, h3⟩, fun k hk hm y hy => ?_⟩
            by_cases q : k = i
            · rw [q, e] at hy; cases hy; omega
            · exact h4 k (by omega) hm y hy
    · rw [if_neg c]
      revert ih
      cases lstF r m i with
      | none => exact fun ih j hj hm => ih j (by omega) hm
      | some x =>
        rintro ⟨⟨j, h1, h2, h3⟩, h4⟩
        exact ⟨⟨j, by omega, h2, h3⟩, fun k hk hm y hy => h4 k (by omega) hm y hy⟩
theorem lst_meets {P : Int → Prop} {Q : Nat → Int → Prop} {r : Nat → Option Int} {m : Nat} {beat : Int} (m8 : m ≤ 8) (h : ∀ j, j < m → Meets2 (Q j) beat (r j)) (pq : ∀ x, P x ↔ ∃ j, j < m ∧ Q j x) : Meets2 P beat (lstF r m 8) := by
  have k := lstF_ok (r := r) (m := m) 8
  revert k
  cases lstF r m 8 with
  | none =>
    intro k x px
    obtain ⟨j, hj, q⟩ := (pq x).mp px
    have := h j hj
    rw [k j (by omega) hj] at this
    exact this x q
  | some x =>
    rintro ⟨⟨j, h1, h2, h3⟩, h4⟩
    have hj := h j h2
    rw [h3] at hj
    refine ⟨hj.1, (pq x).mpr ⟨j, h2, hj.2.1⟩, fun y hy py => ?_⟩
    obtain ⟨i, hi, q⟩ := (pq y).mp py
    have hi' := h i hi
    cases e : r i with
    | none => rw [e] at hi'; exact absurd q (hi' y)
    | some z =>
      rw [e] at hi'
      have := h4 i (by omega) hi z e
      have := hi'.2.2 y hy q
      omega
def bitV (ch k : Nat) : Int := (ch : Int) / 2 ^ k % 2
theorem law_u (ns : List Int) (l63 : ns.length ≤ 63) (hb : ∀ z ∈ ns, Builtin.Int.intBits z ≤ 1048576) : Fu (runFn (ctx T 200) f_law) [.fz (ns.map U.int)] (.bl true) := by
  have fu := fuT 200
  have e17 : (10 : Int) ^ (17 : Int).toNat = 10 ^ 17 := rfl
  have e60 : (10 : Int) ^ (60 : Int).toNat = 10 ^ 60 := rfl
  have c2 : ∀ n, 1 ≤ n → ∀ k : Nat, Fu ((ctx T n).call 2) [.fz (ns.map U.int), .int k] (.int (cellA ns k)) := fun n hn k => by
    obtain ⟨i, rfl⟩ : ∃ i, n = i + 1 := ⟨n - 1, by omega⟩
    exact l_cell_at_u (C := ctx T i)
  have cl : ∀ k, Lt2 (cellA ns k) 1048580 := fun k => (cellA_lt hb k).mono (by decide)
  have c189 : ∀ n, 1 ≤ n → ∀ c m, Lt2 c 1048580 → 0 < m → Fu ((ctx T n).call 189) [.int c, .int m] (.int (bigV c m)) := fun n hn c m h1 h2 => by
    obtain ⟨i, rfl⟩ : ∃ i, n = i + 1 := ⟨n - 1, by omega⟩
    exact l_big_u (C := ctx T i) h1 h2
  obtain ⟨n, hn, n23⟩ : ∃ n : Nat, (n : Int) = 2 + cellA ns 0 % 2 ∧ (n = 2 ∨ n = 3) := ⟨(2 + cellA ns 0 % 2).toNat, by omega, by omega⟩
  -- what is drawn
  have shv : ∀ k, ∃ s : Int, (1 ≤ s ∧ s ≤ 1000003) ∧ O2 opIx (.lst [.int 1, .int 6, .int 10, .int 1000003, .int 15]) (.int (cellA ns (1 + 4 * k) % 5)) (.int s) := fun k => by
    rcases (show cellA ns (1 + 4 * k) % 5 = 0 ∨ cellA ns (1 + 4 * k) % 5 = 1 ∨ cellA ns (1 + 4 * k) % 5 = 2 ∨ cellA ns (1 + 4 * k) % 5 = 3 ∨ cellA ns (1 + 4 * k) % 5 = 4 by omega) with e | e | e | e | e <;> rw [e]
    · exact ⟨1, by decide, o_ixl rfl⟩
    · exact ⟨6, by decide, o_ixl rfl⟩
    · exact ⟨10, by decide, o_ixl rfl⟩
    · exact ⟨1000003, by decide, o_ixl rfl⟩
    · exact ⟨15, by decide, o_ixl rfl⟩
  obtain ⟨S, hS⟩ : ∃ S : Nat → Int, ∀ k, (1 ≤ S k ∧ S k ≤ 1000003) ∧ O2 opIx (.lst [.int 1, .int 6, .int 10, .int 1000003, .int 15]) (.int (cellA ns (1 + 4 * k) % 5)) (.int (S k)) := ⟨fun k => Classical.choose (shv k), fun k => Classical.choose_spec (shv k)⟩
  obtain ⟨Dx, hD⟩ : ∃ Dx : Nat → Nat → Int, ∀ k j, Dx k j = 1 + bigV (cellA ns (2 + 4 * k + j)) (10 ^ (17 : Int).toNat) := ⟨fun k j => _, fun k j => rfl⟩
  obtain ⟨E, hE⟩ : ∃ E : Nat → Int, ∀ k, E k = Dx k 2 + (0 - (Dx k 0 + (Dx k 1 + (Dx k 2 + 0))) - 2) % S k := ⟨fun k => _, fun k => rfl⟩
  have Db : ∀ k j, 1 ≤ Dx k j ∧ Dx k j ≤ 10 ^ 17 := fun k j => by
    have h1 := bigV_bd (c := cellA ns (2 + 4 * k + j)) (m := 10 ^ (17 : Int).toNat) (by decide)
    have := hD k j
    rw [e17] at *
    omega
  have Eb : ∀ k, 1 ≤ E k ∧ E k ≤ 10 ^ 18 := fun k => by
    have s := (hS k).1
    have d := Db k 2
    have r0 := Int.emod_nonneg (0 - (Dx k 0 + (Dx k 1 + (Dx k 2 + 0))) - 2) (show S k ≠ 0 by omega)
    have r1 := Int.emod_lt_of_pos (0 - (Dx k 0 + (Dx k 1 + (Dx k 2 + 0))) - 2) (show 0 < S k by omega)
    have := hE k
    omega
  obtain ⟨A, hA⟩ : ∃ A : Nat → Int, ∀ k, A k = Dx k 0 := ⟨fun k => _, fun k => rfl⟩
  obtain ⟨Zx, hZ⟩ : ∃ Zx : Nat → Int, ∀ k, Zx k = Dx k 0 + 1 + Dx k 1 := ⟨fun k => _, fun k => rfl⟩
  obtain ⟨L, hL⟩ : ∃ L : Nat → Int, ∀ k, L k = Dx k 0 + (1 + (Dx k 1 + (1 + (E k + 0)))) := ⟨fun k => _, fun k => rfl⟩
  have mbx : ∀ k (keep : Option Int), ∃ b : Mb, b.B = bkR (Dx k 0) (Dx k 1) (E k) (decide (keep ≠ some 1)) (decide (keep ≠ some 0)) ∧ Dr b keep (A k) (Zx k) (L k) := fun k keep => by
    have h0 := Db k 0
    have h1 := Db k 1
    obtain ⟨b, e, w, lg, ok, mem, F⟩ := mbR (a := Dx k 0) (b := Dx k 1) (c := E k) ⟨by omega, by omega⟩ ⟨by omega, by omega⟩ (Eb k) (decide (keep ≠ some 1)) (decide (keep ≠ some 0))
    refine ⟨b, e, w, by rw [hL]; exact lg, ok, fun t => ?_, F, fun hk t t0 t1 hw => ?_⟩
    · rw [mem, hA, hZ, decide_eq_true_eq, decide_eq_true_eq]
    · subst hk
      rw [hL] at t1
      rw [e] at hw ⊢
      have W := bkR_w (a := Dx k 0) (b := Dx k 1) (c := E k) (x := decide ((none : Option Int) ≠ some 1)) (y := decide ((none : Option Int) ≠ some 0)) ⟨by omega, by omega⟩ ⟨by omega, by omega⟩ (Eb k) t0 t1
      have W : (bkR (Dx k 0) (Dx k 1) (E k) (decide ((none : Option Int) ≠ some 1)) (decide ((none : Option Int) ≠ some 0))).words ((bkR (Dx k 0) (Dx k 1) (E k) (decide ((none : Option Int) ≠ some 1)) (decide ((none : Option Int) ≠ some 0))).P.length - 1) t = _ := W
      rw [W] at hw ⊢
      by_cases c1 : t = Dx k 0
      · rw [if_pos ⟨by decide, c1⟩, if_neg (by omega)]; rfl
      · rw [if_neg fun h => c1 h.2] at hw ⊢
        by_cases c3 : t = Dx k 0 + 1 + Dx k 1
        · rw [if_pos ⟨by decide, c3⟩]; rfl
        · rw [if_neg fun h => c3 h.2] at hw; cases hw
  obtain ⟨M, hM⟩ : ∃ M : Nat → Option Int → Mb, ∀ k keep, (M k keep).B = bkR (Dx k 0) (Dx k 1) (E k) (decide (keep ≠ some 1)) (decide (keep ≠ some 0)) ∧ Dr (M k keep) keep (A k) (Zx k) (L k) := ⟨fun k keep => Classical.choose (mbx k keep), fun k keep => Classical.choose_spec (mbx k keep)⟩
  -- the books of some choice
  obtain ⟨cs, hcs⟩ : ∃ cs : (Nat → Option Int) → List Mb, ∀ f, cs f = (List.range n).map fun k => M k (f k) := ⟨fun f => _, fun f => rfl⟩
  have BO : ∀ i, 190 ≤ i → ∀ k (keep : Option Int), (keep = none ∨ keep = some 0 ∨ keep = some 1) → Fu ((ctx T i).call 256) [.lst [.int (cellA ns (2 + 4 * k + 0)), .int (cellA ns (2 + 4 * k + 1)), .int (cellA ns (2 + 4 * k + 2))], .int (S k), mtU keep] (M k keep).B.u := fun i hi k keep hk => by
    obtain ⟨j, rfl⟩ : ∃ j, i = j + 1 := ⟨i - 1, by omega⟩
    rw [(hM k keep).1]
    refine l_book_u (C := ctx T j) (fuT _) hk (fun z hz => ?_) (hS k).1.1 (hD k 0) (hD k 1) ?_
    · rcases hz with rfl | rfl | rfl <;> exact c189 j (by omega) _ _ (cl _) (by decide)
    · rw [hE, hD k 2]
  obtain ⟨NS, hNS⟩ : ∃ NS, NS = U.fz (ns.map U.int) := ⟨_, rfl⟩
  rw [← hNS] at c2 ⊢
  have BS : ∀ i, 192 ≤ i → ∀ f : Nat → Option Int, (∀ k, k < n → f k = none ∨ f k = some 0 ∨ f k = some 1) → Fu ((ctx T i).call 257) [NS, .lst ((List.range n).map fun k => mtU (f k))] (.lst ((cs f).map fun b => b.B.u)) := fun i hi f hf => by
    obtain ⟨j, rfl⟩ : ∃ j, i = j + 1 := ⟨i - 1, by omega⟩
    have fuj := fuT j
    rw [hcs, List.map_map]
    obtain ⟨KU, hKU⟩ : ∃ KU, KU = U.lst ((List.range n).map fun k => mtU (f k)) := ⟨_, rfl⟩
    rw [← hKU]
    have lb : B1 bLen [KU] (.int (n : Int)) := by
      rw [hKU]; have := b_lenl (us := (List.range n).map fun k => mtU (f k)); rwa [List.length_map, List.length_range] at this
    have L1 : Xs (ctx T j) [] [.s NS, .s KU, .o (.lst []), .n, .n, .n, .n] (sFo (gN 3) (iR1 (eBf bLen (aC (eV 1) aN))) b_l_books_1) (.nx [.s NS, .s KU, .o (.lst ((List.range n).map fun k => (M k (f k)).B.u)), .n, .n, .n, .n]) := by
      refine s_forn (C := ctx T j) (io := []) (g := gN 3) (b := b_l_books_1) (n := n) (fun k => [.s NS, .s KU, .o (.lst ((List.range k).map fun k => (M k (f k)).B.u)), .n, .n, .n, .n]) (by (repeat first | fail "p" | with_reducible exact lb | fail)) (by omega) (by show Fgt _ [_, _, .o (.lst []), _, _, _, _]; (repeat first | fail "p" | fail)) (fun k hk => ?_)
      have kx : O2 opIx KU (.int (k : Int)) (mtU (f k)) := by rw [hKU]; exact o_ixl (at_nat (by rw [List.getElem?_map, List.getElem?_range hk]; rfl))
      have k1 := c2 j (by omega) (1 + 4 * k)
      have i1 : O2 opAdd (.int 1) (.int (4 * (k : Int))) (.int ((1 + 4 * k : Nat) : Int)) := by rw [show ((1 + 4 * k : Nat) : Int) = 1 + 4 * (k : Int) by omega]; exact o_add
      have mk4 : mulOk 4 (k : Int) = true := mulOk_sm (by decide) (by omega)
      have sx := (hS k).2
      have BX := BO j (by omega) k (f k) (hf k hk)
      have LC : Xf (ctx T j) [.s NS, .s KU, .o (.lst ((List.range k).map fun k => (M k (f k)).B.u)), .s (.int (k : Int)), .n, .n, .n] (eLc [6] (gN 6) (iR1 (eC (.int 3))) tY (eCall 2 (aC (eV 0) (aC (eOp opAdd (eOp opAdd (eC (.int 2)) (eOp opMul (eC (.int 4)) (eV 3))) (eV 6)) aN)) [])) (.lst [.int (cellA ns (2 + 4 * k + 0)), .int (cellA ns (2 + 4 * k + 1)), .int (cellA ns (2 + 4 * k + 2))]) := by
        show Xf _ _ _ (.lst ((List.range 3).map fun x => U.int (cellA ns (2 + 4 * k + x))))
        generalize (List.range k).map (fun k => (M k (f k)).B.u) = X1
        apply f_lcr (lo := 0)
        case hi =>
          (repeat first | fail "p" | fail)
          · exact x_ci
          · decide
        case hw => (repeat first | fail "p" | fail)
        case hn => exact sz_le (by decide)
        case fu => omega
        case hs =>
          intro x hx
          rw [Int.zero_add]
          have F := c2 j (by omega) (2 + 4 * k + x)
          have ad : O2 opAdd (.int (2 + 4 * (k : Int))) (.int (x : Int)) (.int ((2 + 4 * k + x : Nat) : Int)) := by rw [show ((2 + 4 * k + x : Nat) : Int) = 2 + 4 * (k : Int) + (x : Int) by omega]; exact o_add
          exact ⟨_, by (repeat first | fail "p" | fail), by (repeat first | fail "p" | with_reducible exact F | with_reducible exact ad | fail)⟩
      have LC := LC.p
      have sz : ((List.range k).map fun k => (M k (f k)).B.u).length < sizeLine := sz_lt (by rw [List.length_map, List.length_range]; omega)
      rw [List.range_succ, List.map_append]
      show ∃ pe1, _ ∧ Bod _ _ _ _ [_, _, .o (.lst ((List.range k).map (fun k => (M k (f k)).B.u) ++ [(M k (f k)).B.u])), _, _, _, _]
      generalize (List.range k).map (fun k => (M k (f k)).B.u) = X1 at LC sz ⊢
      generalize (M k (f k)).B.u = BU at BX ⊢
      generalize mtU (f k) = KK at kx BX
      refine ⟨[.s NS, .s KU, .o (.lst X1), .s (.int (k : Int)), .n, .n, .n], by (repeat first | fail "p" | fail), ?_⟩
      apply bod_nx
      · unfold b_l_books_1; (repeat first | fail "p" | with_reducible exact LC | with_reducible exact k1 | with_reducible exact i1 | with_reducible exact sx | with_reducible exact kx | with_reducible exact BX | fail)
      · (repeat first | fail "p" | fail)
    show Fu (runFn (ctx T j) f_l_books) _ (.lst ((List.range n).map fun k => (M k (f k)).B.u))
    generalize (List.range n).map (fun k => (M k (f k)).B.u) = X1 at L1 ⊢
    refine fu_of rfl (by simp only [List.map_cons, List.map_nil, List.length_cons, List.length_nil, List.cons_append, List.nil_append, Nat.reduceAdd, Nat.reduceSub, List.replicate_succ, List.replicate_zero]; exact rfl) ?_
    (repeat first | fail "p" | with_reducible exact L1 | fail)
  -- meetings of the books of a choice
  obtain ⟨WU, hWU⟩ : ∃ WU, WU = U.lst (List.replicate n (U.str "bell")) := ⟨_, rfl⟩
  have MC : ∀ i, 190 ≤ i → ∀ (f : Nat → Option Int) (beat : Int), 0 ≤ beat ∧ beat ≤ 10 ^ 200 → ∃ r, Meets (cs f) beat r ∧ Fu ((ctx T i).call 235) [.lst ((cs f).map fun b => b.B.u), WU, .int beat] (mtU r) := fun i hi f beat hbt => by
    obtain ⟨r, m, q⟩ := meeting_call (bs := cs f) (fun b hb => by rw [hcs] at hb; obtain ⟨k, _, rfl⟩ := List.mem_map.mp hb; exact (hM k _).2.ok) (n := i) (by omega) (fun b hb => by rw [hcs] at hb; obtain ⟨k, _, rfl⟩ := List.mem_map.mp hb; exact (hM k _).2.F) (by rw [hcs, List.length_map, List.length_range]; omega) hbt
    refine ⟨r, m, ?_⟩
    have e : ((cs f).map fun b => U.str b.w) = List.replicate n (U.str "bell") := by
      rw [hcs, List.map_map]
      have : (List.range n).map ((fun b : Mb => U.str b.w) ∘ fun k => M k (f k)) = (List.range n).map fun _ => U.str "bell" := List.map_congr_left fun k _ => by
        show U.str (M k (f k)).w = _
        rw [(hM k _).2.w]
      rw [this]
      rcases n23 with e | e <;> rw [e] <;> rfl
    rw [e, ← hWU] at q
    exact q
  have all : ∀ (f : Nat → Option Int) x, AllAt (cs f) x ↔ ∀ k, k < n → (f k ≠ some 1 ∧ x % L k = A k) ∨ (f k ≠ some 0 ∧ x % L k = Zx k) := fun f x => by
    unfold AllAt
    rw [hcs]
    constructor
    · intro h k hk
      have := h _ (List.mem_map.mpr ⟨k, List.mem_range.mpr hk, rfl⟩)
      rw [(hM k _).2.lg] at this
      exact ((hM k _).2.mem _).mp this
    · intro h b hbm
      obtain ⟨k, hk, rfl⟩ := List.mem_map.mp hbm
      rw [(hM k _).2.lg]
      exact ((hM k _).2.mem _).mpr (h k (List.mem_range.mp hk))
  obtain ⟨m, hm⟩ : ∃ m : Nat, m = 2 ^ n := ⟨_, rfl⟩
  have m8 : m ≤ 8 := by rcases n23 with e | e <;> rw [hm, e] <;> decide
  have bit01 : ∀ ch k, bitV ch k = 0 ∨ bitV ch k = 1 := fun ch k => by unfold bitV; omega
  have pq : ∀ x, AllAt (cs fun _ => none) x ↔ ∃ ch, ch < m ∧ AllAt (cs fun k => some (bitV ch k)) x := fun x => by
    rw [all]
    constructor
    · intro h
      have h' : ∀ k, ∃ e : Nat, e ≤ 1 ∧ (k < n → if e = 0 then x % L k = A k else x % L k = Zx k) := fun k => by
        by_cases hk : k < n
        · rcases h k hk with q | q
          · exact ⟨0, by decide, fun _ => by rw [if_pos rfl]; exact q.2⟩
          · exact ⟨1, by decide, fun _ => by rw [if_neg (by decide)]; exact q.2⟩
        · exact ⟨0, by decide, fun q => absurd q hk⟩
      obtain ⟨e0, a0, b0⟩ := h' 0
      obtain ⟨e1, a1, b1⟩ := h' 1
      obtain ⟨e2, a2, b2⟩ := h' 2
      have fin : ∀ (ch k : Nat) (e : Nat), e ≤ 1 → bitV ch k = (e : Int) → (if e = 0 then x % L k = A k else x % L k = Zx k) → (some (bitV ch k) ≠ some 1 ∧ x % L k = A k) ∨ (some (bitV ch k) ≠ some 0 ∧ x % L k = Zx k) := fun ch k e he eb q => by
        rw [eb]
        rcases (show e = 0 ∨ e = 1 by omega) with rfl | rfl
        · rw [if_pos rfl] at q; exact .inl ⟨by decide, q⟩
        · rw [if_neg (by decide)] at q; exact .inr ⟨by decide, q⟩
      rcases n23 with en | en
      · subst en
        refine ⟨e0 + 2 * e1, by rw [hm]; show e0 + 2 * e1 < 4; omega, (all _ x).mpr fun k hk => ?_⟩
        rcases (show k = 0 ∨ k = 1 by omega) with rfl | rfl
        · exact fin _ 0 e0 a0 (by unfold bitV; rw [Int.pow_zero]; omega) (b0 hk)
        · exact fin _ 1 e1 a1 (by unfold bitV; rw [show (2 : Int) ^ 1 = 2 from rfl]; omega) (b1 hk)
      · subst en
        refine ⟨e0 + 2 * e1 + 4 * e2, by rw [hm]; show e0 + 2 * e1 + 4 * e2 < 8; omega, (all _ x).mpr fun k hk => ?_⟩
        rcases (show k = 0 ∨ k = 1 ∨ k = 2 by omega) with rfl | rfl | rfl
        · exact fin _ 0 e0 a0 (by unfold bitV; rw [Int.pow_zero]; omega) (b0 hk)
        · exact fin _ 1 e1 a1 (by unfold bitV; rw [show (2 : Int) ^ 1 = 2 from rfl]; omega) (b1 hk)
        · exact fin _ 2 e2 a2 (by unfold bitV; rw [show (2 : Int) ^ 2 = 4 from rfl]; omega) (b2 hk)
    · rintro ⟨ch, _, h⟩ k hk
      rcases (all _ x).mp h k hk with q | q
      · exact .inl ⟨by decide, q.2⟩
      · exact .inr ⟨by decide, q.2⟩
  -- the least one
  have LE : ∀ beat : Int, 0 ≤ beat ∧ beat ≤ 10 ^ 200 → ∃ d, Meets2 (AllAt (cs fun _ => none)) beat d ∧ Fu ((ctx T 200).call 258) [NS, .int (n : Int), WU, .int beat] (mtU d) := fun beat hbt => by
    have f199 := fuT 199
    have ex : ∀ ch : Nat, ∃ r, Meets (cs fun k => some (bitV ch k)) beat r ∧ Fu ((ctx T 199).call 235) [.lst ((cs fun k => some (bitV ch k)).map fun b => b.B.u), WU, .int beat] (mtU r) := fun ch => MC 199 (by decide) _ beat hbt
    obtain ⟨r, hr⟩ : ∃ r : Nat → Option Int, ∀ ch, Meets (cs fun k => some (bitV ch k)) beat (r ch) ∧ Fu ((ctx T 199).call 235) [.lst ((cs fun k => some (bitV ch k)).map fun b => b.B.u), WU, .int beat] (mtU (r ch)) := ⟨fun ch => Classical.choose (ex ch), fun ch => Classical.choose_spec (ex ch)⟩
    refine ⟨lstF r m 8, lst_meets (Q := fun ch => AllAt (cs fun k => some (bitV ch k))) m8 (fun j _ => meets_2 (hr j).1) pq, ?_⟩
    have mx : O2 opIx (.lst [.int 1, .int 2, .int 4, .int 8]) (.int (n : Int)) (.int (m : Int)) := by
      rw [hm]
      rcases n23 with e | e <;> rw [e] <;> exact o_ixl rfl
    have LL : Xs (ctx T 199) [] [.s NS, .s (.int (n : Int)), .s WU, .s (.int beat), .s .non, .n, .n, .n, .n] (sFo (gN 5) (iR1 (eOp opPow (eC (.int 2)) (eC (.int 3)))) b_l_least_1) (.nx [.s NS, .s (.int (n : Int)), .s WU, .s (.int beat), .s (mtU (lstF r m 8)), .n, .n, .n, .n]) := by
      refine s_forn (C := ctx T 199) (io := []) (g := gN 5) (b := b_l_least_1) (n := 8) (fun ch => [.s NS, .s (.int (n : Int)), .s WU, .s (.int beat), .s (mtU (lstF r m ch)), .n, .n, .n, .n]) ?_ (by omega) (by show Fgt _ [_, _, _, _, .s .non, _, _, _, _]; (repeat first | fail "p" | fail)) (fun ch hch => ?_)
      · have pw : O2 opPow (.int 2) (.int 3) (.int ((8 : Nat) : Int)) := o_pow (p := 2) (q := 3) (by decide)
        (repeat first | fail "p" | with_reducible exact pw | fail)
        all_goals decide
      · have els : lstF r m (ch + 1) = if ch < m then (match r ch with | none => lstF r m ch | some x => minO (lstF r m ch) x) else lstF r m ch := rfl
        rw [els]
        by_cases c : ch < m
        · rw [if_pos c]
          have lt := lt_t (show (ch : Int) < (m : Int) by omega)
          have BX := BS 199 (by decide) (fun k => some (bitV ch k)) (fun k _ => by rcases bit01 ch k with e | e <;> rw [e] <;> simp)
          have MX := (hr ch).2
          have LC : Xf (ctx T 199) [.s NS, .s (.int (n : Int)), .s WU, .s (.int beat), .s (mtU (lstF r m ch)), .s (.int (ch : Int)), .n, .n, .n] (eLc [8] (gN 8) (iR1 (eV 1)) tY (eOp opBnd (eOp opShr (eV 5) (eV 8)) (eC (.int 1)))) (.lst ((List.range n).map fun k => mtU (some (bitV ch k)))) := by
            generalize mtU (lstF r m ch) = FU
            apply f_lcr (lo := 0)
            case hi =>
              (repeat first | fail "p" | fail)
            case hw => (repeat first | fail "p" | fail)
            case hn => exact sz_le (by omega)
            case fu => omega
            case hs =>
              intro k hk
              rw [Int.zero_add]
              have sh : O2 opShr (.int (ch : Int)) (.int (k : Int)) (.int ((ch : Int) / 2 ^ k)) := by have := o_shr (p := (ch : Int)) (q := (k : Int)) (by omega); rwa [Int.toNat_natCast] at this
              have bn : O2 opBnd (.int ((ch : Int) / 2 ^ k)) (.int 1) (.int (bitV ch k)) := o_band
              exact ⟨_, by (repeat first | fail "p" | fail), by show Xp _ _ _ (.int (bitV ch k)); (repeat first | fail "p" | with_reducible exact sh | with_reducible exact bn | fail)⟩
          have LC := LC.p
          generalize (List.range n).map (fun k => mtU (some (bitV ch k))) = KK at LC BX
          generalize ((cs fun k => some (bitV ch k)).map fun b => b.B.u) = CB at BX MX
          refine ⟨[.s NS, .s (.int (n : Int)), .s WU, .s (.int beat), .s (mtU (lstF r m ch)), .s (.int (ch : Int)), .n, .n, .n], by (repeat first | fail "p" | fail), ?_⟩
          obtain ⟨rc, hrc⟩ : ∃ rc, rc = r ch := ⟨_, rfl⟩
          rw [← hrc] at MX ⊢
          obtain ⟨lf, hlf⟩ : ∃ lf, lf = lstF r m ch := ⟨_, rfl⟩
          rw [← hlf] at LC ⊢
          cases rc with
          | none =>
            have MX : Fu ((ctx T 199).call 235) [.lst CB, WU, .int beat] .non := MX
            show Bod _ _ _ _ [_, _, _, _, .s (mtU lf), _, _, _, _]
            generalize mtU lf = FU at LC ⊢
            apply bod_nx
            · unfold b_l_least_1; (repeat first | fail "p" | with_reducible exact mx | with_reducible exact lt | with_reducible exact LC | with_reducible exact BX | with_reducible exact MX | fail)
            · (repeat first | fail "p" | fail)
          | some x =>
            have MX : Fu ((ctx T 199).call 235) [.lst CB, WU, .int beat] (.int x) := MX
            cases lf with
            | none =>
              show Bod _ _ [_, _, _, _, .s .non, _, _, _, _] _ [_, _, _, _, .s (.int x), _, _, _, _]
              have LC : Xp (ctx T 199) [_, _, _, _, .s .non, _, _, _, _] _ _ := LC
              apply bod_nx
              · unfold b_l_least_1; (repeat first | fail "p" | with_reducible exact mx | with_reducible exact lt | with_reducible exact LC | with_reducible exact BX | with_reducible exact MX | fail)
              · (repeat first | fail "p" | fail)
            | some y =>
              have LC : Xp (ctx T 199) [_, _, _, _, .s (.int y), _, _, _, _] _ _ := LC
              by_cases xy : x < y
              · show Bod _ _ [_, _, _, _, .s (.int y), _, _, _, _] _ [_, _, _, _, .s (mtU (if x < y then some x else some y)), _, _, _, _]
                rw [if_pos xy]
                show Bod _ _ _ _ [_, _, _, _, .s (.int x), _, _, _, _]
                have lt2 := lt_t xy
                apply bod_nx
                · unfold b_l_least_1; (repeat first | fail "p" | with_reducible exact mx | with_reducible exact lt | with_reducible exact LC | with_reducible exact BX | with_reducible exact MX | with_reducible exact lt2 | fail)
                · (repeat first | fail "p" | fail)
              · show Bod _ _ [_, _, _, _, .s (.int y), _, _, _, _] _ [_, _, _, _, .s (mtU (if x < y then some x else some y)), _, _, _, _]
                rw [if_neg xy]
                show Bod _ _ _ _ [_, _, _, _, .s (.int y), _, _, _, _]
                have lt2 := lt_f xy
                apply bod_nx
                · unfold b_l_least_1; (repeat first | fail "p" | with_reducible exact mx | with_reducible exact lt | with_reducible exact LC | with_reducible exact BX | with_reducible exact MX | with_reducible exact lt2 | fail)
                · (repeat first | fail "p" | fail)
        · rw [if_neg c]
          have lt := lt_f (show ¬ (ch : Int) < (m : Int) by omega)
          generalize mtU (lstF r m ch) = FU
          refine ⟨[.s NS, .s (.int (n : Int)), .s WU, .s (.int beat), .s FU, .s (.int (ch : Int)), .n, .n, .n], by (repeat first | fail "p" | fail), ?_⟩
          apply bod_nx
          · unfold b_l_least_1; (repeat first | fail "p" | with_reducible exact mx | with_reducible exact lt | fail)
          · (repeat first | fail "p" | fail)
    show Fu (runFn (ctx T 199) f_l_least) _ _
    generalize mtU (lstF r m 8) = RU at LL ⊢
    refine fu_of rfl (by simp only [List.map_cons, List.map_nil, List.length_cons, List.length_nil, List.cons_append, List.nil_append, Nat.reduceAdd, Nat.reduceSub, List.replicate_succ, List.replicate_zero]; exact rfl) ?_
    (repeat first | fail "p" | with_reducible exact LL | fail)
  obtain ⟨BU, hBU⟩ : ∃ BU, BU = U.lst ((cs fun _ => none).map fun b => b.B.u) := ⟨_, rfl⟩
  have BS0 := BS 200 (by decide) (fun _ => none) (fun k _ => .inl rfl)
  rw [← hBU] at BS0
  have MN : O2 opMul (.lst [.non]) (.int (n : Int)) (.lst ((List.range n).map fun _ => mtU none)) := by
    have := (of_mull (us := [.non]) (k := (n : Int)) ⟨by omega, by omega, by rw [Int.toNat_natCast]; exact sz_le (by simp; omega)⟩).o2
    rw [Int.toNat_natCast] at this
    rcases n23 with e | e <;> rw [e] at this ⊢ <;> exact this
  have MW : O2 opMul (.lst [.str "bell"]) (.int (n : Int)) WU := by
    have := (of_mull (us := [.str "bell"]) (k := (n : Int)) ⟨by omega, by omega, by rw [Int.toNat_natCast]; exact sz_le (by simp; omega)⟩).o2
    rw [Int.toNat_natCast] at this
    rw [hWU]
    rcases n23 with e | e <;> rw [e] at this ⊢ <;> exact this
  obtain ⟨zs0, hzs, lz⟩ : ∃ ws : List Int, cutU (ns.map U.int) (some 14) (some 18) = ws.map U.int ∧ ws = ((ns.drop (HT.sIx (ns.map U.int).length 0 (some 14))).take (HT.sIx (ns.map U.int).length (ns.map U.int).length (some 18) - HT.sIx (ns.map U.int).length 0 (some 14))) := ⟨_, by rw [cutU_map, List.length_map], rfl⟩
  have lz1 : zs0.length ≤ 63 := by rw [lz, List.length_take, List.length_drop]; omega
  have lz2 : ∀ z ∈ zs0, z ∈ ns := fun z hz => by rw [lz] at hz; exact List.mem_of_mem_drop (List.mem_of_mem_take hz)
  have sl : S3 NS (some 14) (some 18) (.lst (zs0.map U.int)) := by
    have := (sf_z (us := ns.map U.int) (lo := some 14) (hi := some 18)).s3
    rwa [hzs, ← hNS] at this
  have ad : O2 opAdd (.lst [.int 0]) (.lst (zs0.map U.int)) (.lst ((0 :: zs0).map U.int)) := (of_addl (us := [.int 0]) (vs := zs0.map U.int) (sz_le (by simp; omega))).o2
  have NB : O2 opNe (.lst [.str "bell"]) (.lst [.str "bell"]) (.bl false) := o_net (n := 1) (.lst fun u hu => by rw [List.mem_singleton.mp hu]; exact .str (ok_words _ (by simp))) (by decide)
  have L2 : Xs (ctx T 200) [] [.s NS, .s (.int (n : Int)), .s BU, .s WU, .n, .n, .n, .n, .n] (sFo (gN 4) (iA (eOp opAdd (eLst (aC (eC (.int 0)) aN)) (eSl opSl (eV 0) (oS (eC (.int 14))) (oS (eC (.int 18)))))) b_law_2) (.nx [.s NS, .s (.int (n : Int)), .s BU, .s WU, .n, .n, .n, .n, .n]) := by
    refine s_fors (C := ctx T 200) (io := []) (g := gN 4) (b := b_law_2) (xs := 0 :: zs0) (f := U.int) (fun _ => [.s NS, .s (.int (n : Int)), .s BU, .s WU, .n, .n, .n, .n, .n]) ?_ (by simp; omega) ?_ ?_
    · (repeat first | fail "p" | with_reducible exact sl | with_reducible exact ad | fail)
    · (repeat first | fail "p" | fail)
    · intro j z qz
      have zl : Lt2 (z / 2) 1048580 := by
        rcases List.mem_cons.mp (List.mem_of_getElem? qz) with e | e
        · rw [e]; exact Lt2.mono (a := 1) ⟨by decide⟩ (by decide)
        · exact ((Lt2.of_bits (hb z (lz2 z e))).mono (by decide)).div
      obtain ⟨mm, hmm, MX⟩ : ∃ m : Int, (m = 1000 ∨ m = 10 ^ (60 : Int).toNat) ∧ O2 opIx (.lst [.int 1000, .int (10 ^ (60 : Int).toNat)]) (.int (z % 2)) (.int m) := by
        rcases (show z % 2 = 0 ∨ z % 2 = 1 by omega) with e | e <;> rw [e]
        · exact ⟨_, .inl rfl, o_ixl rfl⟩
        · exact ⟨_, .inr rfl, o_ixl rfl⟩
      have m0 : 0 < mm ∧ mm ≤ 10 ^ 60 := by rw [e60] at hmm; omega
      have BG := c189 200 (by decide) (z / 2) mm zl m0.1
      have bb := bigV_bd (c := z / 2) (m := mm) m0.1
      obtain ⟨beat, hbt⟩ : ∃ beat, beat = bigV (z / 2) mm := ⟨_, rfl⟩
      rw [← hbt] at BG bb
      obtain ⟨r, mr, M1⟩ := MC 200 (by decide) (fun _ => none) beat ⟨by omega, by omega⟩
      obtain ⟨d, md, M2⟩ := LE beat ⟨by omega, by omega⟩
      have e := meets2_uniq (meets_2 mr) md
      subst e
      rw [← hBU] at M1
      refine ⟨[.s NS, .s (.int (n : Int)), .s BU, .s WU, .s (.int z), .n, .n, .n, .n], by (repeat first | fail "p" | fail), ?_⟩
      cases r with
      | none =>
        have M1 : Fu ((ctx T 200).call 235) [BU, WU, .int beat] .non := M1
        have M2 : Fu ((ctx T 200).call 258) [NS, .int (n : Int), WU, .int beat] .non := M2
        have LB : Xs (ctx T 200) [] [.s NS, .s (.int (n : Int)), .s BU, .s WU, .s (.int z), .s (.int beat), .s .non, .s .non, .n] (sFo (gN 8) (iA (eV 2)) b_law_1) (.nx [.s NS, .s (.int (n : Int)), .s BU, .s WU, .s (.int z), .s (.int beat), .s .non, .s .non, .n]) := by
          refine s_fors (C := ctx T 200) (io := []) (g := gN 8) (b := b_law_1) (xs := cs fun _ => none) (f := fun b : Mb => b.B.u) (fun _ => [.s NS, .s (.int (n : Int)), .s BU, .s WU, .s (.int z), .s (.int beat), .s .non, .s .non, .n]) ?_ (by rw [hcs, List.length_map, List.length_range]; omega) (by (repeat first | fail "p" | fail)) (fun i b q => ?_)
          · have : Xp (ctx T 200) [.s NS, .s (.int (n : Int)), .s BU, .s WU, .s (.int z), .s (.int beat), .s .non, .s .non, .n] (eV 2) (.lst ((cs fun _ => none).map fun b => b.B.u)) := by rw [← hBU]; exact x_v rfl
            generalize (cs fun _ => none).map (fun b => b.B.u) = XS at this ⊢
            (repeat first | fail "p" | with_reducible exact this | fail)
          · generalize b.B.u = B1
            refine ⟨_, by (repeat first | fail "p" | fail), ?_⟩
            apply bod_nx
            · unfold b_law_1; (repeat first | fail "p" | fail)
            · (repeat first | fail "p" | fail)
        apply bod_nx
        · unfold b_law_2; (repeat first | fail "p" | with_reducible exact BG | with_reducible exact MX | with_reducible exact M1 | with_reducible exact M2 | with_reducible exact LB | fail)
        · (repeat first | fail "p" | fail)
      | some x =>
        have M1 : Fu ((ctx T 200).call 235) [BU, WU, .int beat] (.int x) := M1
        have M2 : Fu ((ctx T 200).call 258) [NS, .int (n : Int), WU, .int beat] (.int x) := M2
        have NX : O2 opNe (.int x) (.int x) (.bl false) := by have := o_ne (p := x) (q := x); rwa [decide_eq_true rfl] at this
        have x0 : 0 ≤ x := by have := mr.1; omega
        have LB : Xs (ctx T 200) [] [.s NS, .s (.int (n : Int)), .s BU, .s WU, .s (.int z), .s (.int beat), .s (.int x), .s (.int x), .n] (sFo (gN 8) (iA (eV 2)) b_law_1) (.nx [.s NS, .s (.int (n : Int)), .s BU, .s WU, .s (.int z), .s (.int beat), .s (.int x), .s (.int x), .n]) := by
          refine s_fors (C := ctx T 200) (io := []) (g := gN 8) (b := b_law_1) (xs := cs fun _ => none) (f := fun b : Mb => b.B.u) (fun _ => [.s NS, .s (.int (n : Int)), .s BU, .s WU, .s (.int z), .s (.int beat), .s (.int x), .s (.int x), .n]) ?_ (by rw [hcs, List.length_map, List.length_range]; omega) (by (repeat first | fail "p" | fail)) (fun i b q => ?_)
          · have : Xp (ctx T 200) [.s NS, .s (.int (n : Int)), .s BU, .s WU, .s (.int z), .s (.int beat), .s (.int x), .s (.int x), .n] (eV 2) (.lst ((cs fun _ => none).map fun b => b.B.u)) := by rw [← hBU]; exact x_v rfl
            generalize (cs fun _ => none).map (fun b => b.B.u) = XS at this ⊢
            (repeat first | fail "p" | with_reducible exact this | fail)
          · have hbm := List.mem_of_getElem? q
            have RA := mr.2.1 b hbm
            rw [hcs] at hbm
            obtain ⟨k, _, rfl⟩ := List.mem_map.mp hbm
            have dr := (hM k none).2
            have lb := dr.ok.lb
            have RE := rings_ever_call dr.ok.so (n := 200) (by decide) x0
            have hw := ((dr.ok.ru.mem _).mp RA).2
            rw [dr.w] at hw
            have e1 := dr.rg rfl (x % (M k none).lg) (Int.emod_nonneg _ (by omega)) (by rw [← dr.lg]; exact Int.emod_lt_of_pos _ (by omega)) hw
            have RE : Fu ((ctx T 200).call 231) [(M k none).B.u, .int x] (.lst (((M k none).B.words ((M k none).B.P.length - 1) (x % (M k none).lg)).map U.str)) := RE
            rw [e1] at RE
            have RE : Fu ((ctx T 200).call 231) [(M k none).B.u, .int x] (.lst [.str "bell"]) := RE
            show ∃ pe1, Tp _ _ _ ((M k none).B.u) pe1 ∧ _
            generalize (M k none).B.u = B1 at RE ⊢
            refine ⟨_, by (repeat first | fail "p" | fail), ?_⟩
            apply bod_nx
            · unfold b_law_1; (repeat first | fail "p" | with_reducible exact RE | with_reducible exact NB | fail)
            · (repeat first | fail "p" | fail)
        apply bod_nx
        · unfold b_law_2; (repeat first | fail "p" | with_reducible exact BG | with_reducible exact MX | with_reducible exact M1 | with_reducible exact M2 | with_reducible exact NX | with_reducible exact LB | fail)
        · (repeat first | fail "p" | fail)
  obtain ⟨r0, _, F0⟩ := MC 200 (by decide) (fun _ => none) 0 (by decide)
  rw [← hBU] at F0
  have EQ : O2 opEq (mtU r0) (mtU r0) (.bl true) := by
    cases r0 with
    | none => exact o_eqt (n := 0) .non (by decide)
    | some x => exact o_eqt (n := 0) .int (by decide)
  have k0 : Fu ((ctx T 200).call 2) [NS, .int 0] (.int (cellA ns 0)) := c2 200 (by decide) 0
  have an : O2 opAdd (.int 2) (.int (cellA ns 0 % 2)) (.int (n : Int)) := by rw [hn]; exact o_add
  generalize (List.range n).map (fun _ => mtU none) = NN at *
  generalize mtU r0 = RU at *
  have D0 : Xp (ctx T 200) [.s NS, .s (.int (n : Int)), .s BU, .s WU, .n, .n, .n, .n, .n] (eCall 235 (aC (eV 2) (aC (eV 3) aN)) [D.int 0]) RU := x_calld (ns := [0]) (us := [BU, WU]) (by (repeat first | fail "p" | fail)) F0
  refine fu_of rfl (by simp only [List.map_cons, List.map_nil, List.length_cons, List.length_nil, List.cons_append, List.nil_append, Nat.reduceAdd, Nat.reduceSub, List.replicate_succ, List.replicate_zero]; exact rfl) ?_
  (repeat first | fail "p" | with_reducible exact k0 | with_reducible exact an | with_reducible exact MN | with_reducible exact BS0 | with_reducible exact MW | with_reducible exact L2 | with_reducible exact D0 | with_reducible exact F0 | with_reducible exact EQ | fail)
theorem law_true (ns : List Int) (l63 : ns.length ≤ 63) (hb : ∀ z ∈ ns, Builtin.Int.intBits z ≤ 1048576) : ∃ h', runFn (ctx T 200) f_law [.ref 0] [.fz (ns.map D.int)] = .ok (.bl true) h' := law_of (law_u ns l63 hb)
end Z.k58
/-! The walk and the end, printed by gen.py. -/
namespace Z.k58
open PySem L2 Z PyProof.Rows
abbrev top (i : Nat) : Stmt := PySem.Challenge.pw_camplay_k58_whole_far_books_of_two_rings.main.body.getD i (.Pass ⟨0, 0, 0, 0⟩)
abbrev s__wall : Stmt := top 0
abbrev s_numbers_of : Stmt := top 10
abbrev s_named : Stmt := top 11
abbrev s_moved : Stmt := top 12
abbrev s_length_of : Stmt := top 13
abbrev s_look_at_side : Stmt := top 14
abbrev s_lengths : Stmt := top 15
abbrev s_ends : Stmt := top 16
abbrev s_inner_parts : Stmt := top 18
abbrev s_look_at_beat : Stmt := top 19
abbrev s_ring_count : Stmt := top 21
abbrev s_first_beyond : Stmt := top 23
abbrev s_ring_beat : Stmt := top 24
abbrev s_whole_steps : Stmt := top 27
abbrev s_joined : Stmt := top 28
abbrev s_beats_of : Stmt := top 29
abbrev s_meeting : Stmt := top 30
abbrev s_rings : Stmt := top 33
abbrev s_turn_of : Stmt := top 35
abbrev s_rings_ever : Stmt := top 36
abbrev s_l_cell_at : Stmt := top 38
abbrev s_l_big : Stmt := top 39
abbrev s_l_book : Stmt := top 40
abbrev s_l_books : Stmt := top 41
abbrev s_l_least : Stmt := top 42
abbrev s_law : Stmt := top 43
abbrev s_m_Rings_init : Stmt := inClass (top 20) 0
abbrev s_m_Rings_part_rung : Stmt := inClass (top 20) 1
abbrev s_m_Rings_ahead : Stmt := inClass (top 20) 2
abbrev s_m_Guide_init : Stmt := inClass (top 32) 0
abbrev s_m_Guide_look_at : Stmt := inClass (top 32) 1
abbrev s_m_Guide_leave : Stmt := inClass (top 32) 2
abbrev s_m_Guide_put : Stmt := inClass (top 32) 3
abbrev s_m_Guide_put_beside : Stmt := inClass (top 32) 4
abbrev s_m_Guide_put_in_row : Stmt := inClass (top 32) 5
abbrev s_m_Guide_words : Stmt := inClass (top 32) 6
structure Txt (K : PySem.W.Frag) (mg : Str → Option Value) (κ : Nat → Addr) : Prop where
  f_Rings_Guide_forms : FldOk K κ [6, 1] "forms"
  f_Rings_named : FldOk K κ [6] "named"
  f_Rings_long : FldOk K κ [6] "long"
  f_Rings_counts : FldOk K κ [6] "counts"
  f_Guide_numbers : FldOk K κ [1] "numbers"
  f_Guide_limbs : FldOk K κ [1] "limbs"
  f_Guide_lengths : FldOk K κ [1] "lengths"
  f_Guide_ends : FldOk K κ [1] "ends"
  b_divmod : mg "divmod" = none
  b_enumerate : mg "enumerate" = none
  b_int : mg "int" = none
  b_isinstance : mg "isinstance" = none
  b_len : mg "len" = none
  b_max : mg "max" = none
  b_range : mg "range" = none
  b_set : mg "set" = none
  b_sorted : mg "sorted" = none
  b_sum : mg "sum" = none
  b_zip : mg "zip" = none
  c_LONGEST : ∃ t, mg "LONGEST" = some (.int 1000000000000000000000000000000000000000000000000000000000000 t)
  c_MOST : ∃ t, mg "MOST" = some (.int 12 t)
  tru : True
structure Funs (K : PySem.W.Frag) (mg : Str → Option Value) (κ : Nat → Addr) : Prop where
  t_Rings___init__ : MetM K κ 6 "__init__" "Rings.__init__" s_m_Rings_init ["self", "book", "word"]
  t_Rings_part_rung : MetM K κ 6 "part_rung" "Rings.part_rung" s_m_Rings_part_rung ["self", "k", "many"]
  t_Rings_ahead : MetM K κ 6 "ahead" "Rings.ahead" s_m_Rings_ahead ["self", "beat"]
  t_Guide___init__ : MetM K κ 1 "__init__" "Guide.__init__" s_m_Guide_init ["self", "book"]
  t_Guide_look_at : MetM K κ 1 "look_at" "Guide.look_at" s_m_Guide_look_at ["self", "beat"]
  t_Guide_leave : MetM K κ 1 "leave" "Guide.leave" s_m_Guide_leave ["self", "number", "heights"]
  t_Guide_put : MetM K κ 1 "put" "Guide.put" s_m_Guide_put ["self", "number", "beat", "heights"]
  t_Guide_put_beside : MetM K κ 1 "put_beside" "Guide.put_beside" s_m_Guide_put_beside ["self", "number", "beat", "heights"]
  t_Guide_put_in_row : MetM K κ 1 "put_in_row" "Guide.put_in_row" s_m_Guide_put_in_row ["self", "numbers", "beat", "heights"]
  t_Guide_words : MetM K κ 1 "words" "Guide.words" s_m_Guide_words ["self", "number", "beat"]
  j_Rings : MakM K mg κ 6 "Rings" "Rings.__init__" s_m_Rings_init ["self", "book", "word"]
  j_Guide : MakM K mg κ 1 "Guide" "Guide.__init__" s_m_Guide_init ["self", "book"]
  m__wall : FunM K mg "_wall" s__wall ["k"] []
  m_numbers_of : FunM K mg "numbers_of" s_numbers_of ["rows"] []
  m_named : FunM K mg "named" s_named ["form", "numbers"] []
  m_moved : FunM K mg "moved" s_moved ["book"] []
  m_length_of : FunM K mg "length_of" s_length_of ["form", "below"] []
  m_look_at_side : FunM K mg "look_at_side" s_look_at_side ["book", "number", "limbs"] []
  m_lengths : FunM K mg "lengths" s_lengths ["book"] []
  m_ends : FunM K mg "ends" s_ends ["book"] []
  m_inner_parts : FunM K mg "inner_parts" s_inner_parts ["book"] []
  m_look_at_beat : FunM K mg "look_at_beat" s_look_at_beat ["beat", "last"] []
  m_ring_count : FunM K mg "ring_count" s_ring_count ["book", "word", "beat"] []
  m_first_beyond : FunM K mg "first_beyond" s_first_beyond ["counted", "number", "low", "high"] []
  m_ring_beat : FunM K mg "ring_beat" s_ring_beat ["book", "word", "number"] [0]
  m_whole_steps : FunM K mg "whole_steps" s_whole_steps ["one", "other"] []
  m_joined : FunM K mg "joined" s_joined ["beat", "turn", "other", "other_turn"] []
  m_beats_of : FunM K mg "beats_of" s_beats_of ["book", "word"] []
  m_meeting : FunM K mg "meeting" s_meeting ["books", "words", "beat"] [0]
  m_rings : FunM K mg "rings" s_rings ["book", "beat"] []
  m_turn_of : FunM K mg "turn_of" s_turn_of ["book", "beat"] []
  m_rings_ever : FunM K mg "rings_ever" s_rings_ever ["book", "beat"] []
  m__law_cell_at : FunM K mg "_law_cell_at" s_l_cell_at ["script", "k"] []
  m__law_big : FunM K mg "_law_big" s_l_big ["cell", "most"] []
  m__law_book : FunM K mg "_law_book" s_l_book ["cells", "share", "keep"] []
  m__law_books : FunM K mg "_law_books" s_l_books ["script", "keeps"] []
  m__law_least : FunM K mg "_law_least" s_l_least ["script", "many", "words", "beat"] []
  tru : True
structure All (P : Program) (w : World) (K : PySem.W.Frag) (mg : Str → Option Value) (base : Heap) (κ : Nat → Addr) (n : Nat) : Prop where
  a__wall : FnF P w K mg base κ n "_wall" [] ((ctx T n).call 94)
  a_numbers_of : FnF P w K mg base κ n "numbers_of" [] ((ctx T n).call 61)
  a_named : FnF P w K mg base κ n "named" [] ((ctx T n).call 62)
  a_moved : FnF P w K mg base κ n "moved" [] ((ctx T n).call 63)
  a_length_of : FnF P w K mg base κ n "length_of" [] ((ctx T n).call 70)
  a_look_at_side : FnF P w K mg base κ n "look_at_side" [] ((ctx T n).call 71)
  a_lengths : FnF P w K mg base κ n "lengths" [] ((ctx T n).call 72)
  a_ends : FnF P w K mg base κ n "ends" [] ((ctx T n).call 76)
  a_inner_parts : FnF P w K mg base κ n "inner_parts" [] ((ctx T n).call 89)
  a_look_at_beat : FnF P w K mg base κ n "look_at_beat" [] ((ctx T n).call 90)
  a_ring_count : FnF P w K mg base κ n "ring_count" [] ((ctx T n).call 93)
  a_first_beyond : FnF P w K mg base κ n "first_beyond" [] ((ctx T n).call 193)
  a_ring_beat : FnF P w K mg base κ n "ring_beat" [0] ((ctx T n).call 194)
  a_whole_steps : FnF P w K mg base κ n "whole_steps" [] ((ctx T n).call 159)
  a_joined : FnF P w K mg base κ n "joined" [] ((ctx T n).call 158)
  a_beats_of : FnF P w K mg base κ n "beats_of" [] ((ctx T n).call 234)
  a_meeting : FnF P w K mg base κ n "meeting" [0] ((ctx T n).call 235)
  a_rings : FnF P w K mg base κ n "rings" [] ((ctx T n).call 170)
  a_turn_of : FnF P w K mg base κ n "turn_of" [] ((ctx T n).call 229)
  a_rings_ever : FnF P w K mg base κ n "rings_ever" [] ((ctx T n).call 231)
  a__law_cell_at : FnF P w K mg base κ n "_law_cell_at" [] ((ctx T n).call 2)
  a__law_big : FnF P w K mg base κ n "_law_big" [] ((ctx T n).call 189)
  a__law_book : FnF P w K mg base κ n "_law_book" [] ((ctx T n).call 256)
  a__law_books : FnF P w K mg base κ n "_law_books" [] ((ctx T n).call 257)
  a__law_least : FnF P w K mg base κ n "_law_least" [] ((ctx T n).call 258)
  m_Rings_ahead : ∀ c ∈ ([6] : List Nat), MeF P w K mg base κ n c "ahead" ((ctx T n).meth c 9)
  m_Guide_look_at : ∀ c ∈ ([1] : List Nat), MeF P w K mg base κ n c "look_at" ((ctx T n).meth c 1)
  m_Guide_words : ∀ c ∈ ([1] : List Nat), MeF P w K mg base κ n c "words" ((ctx T n).meth c 4)
  m_Rings_part_rung : ∀ c ∈ ([6] : List Nat), MeF P w K mg base κ n c "part_rung" ((ctx T n).meth c 19)
  i_Rings : MkF P w K mg base κ n 6 "Rings" ((ctx T n).meth 6 0)
  k_Rings : MkA P w K mg base κ T n 6 "Rings"
  i_Guide : MkF P w K mg base κ n 1 "Guide" ((ctx T n).meth 1 0)
  k_Guide : MkA P w K mg base κ T n 1 "Guide"
  tru : True
section
variable {P : Program} {w : World} {K : PySem.W.Frag} {mg : Str → Option Value} {base : Heap} {κ : Nat → Addr} {n : Nat}
abbrev NN_m_Rings_init : List Str := ["self", "book", "word", "k", "told", "part", "one"]
theorem sc_m_Rings_init : FnScope NN_m_Rings_init ["self", "book", "word"] (defScope s_m_Rings_init) := ⟨rfl, rfl, rfl, by decide +kernel, rfl, by decide +kernel, by decide +kernel⟩
theorem w_m_Rings_init {fa : Addr} {fd : FuncData} (TX : Txt K mg κ) (A : All P w K mg base κ n) (F : FunZ K "__init__" "Rings.__init__" s_m_Rings_init [] fa fd) : FnOk P w K mg base CX0 (n + 1) fa fd ["self", "book", "word"] (spD K κ (List.length (["self", "book", "word"] : List Str)) (runFn (ctx T n) f_m_Rings_init)) := by
  refine fnOk_of F sc_m_Rings_init rfl rfl fun cdv Ar outer s H E hr => ?_
  exact
    (ss_cons (ss_fl TX.f_Rings_Guide_forms (se_v 0) (se_lc rfl sc_m_Rings_init.nd (si_a (se_ix (hu_of hr) (se_v 1) se_int)) (blkOk_by (N := NN_m_Rings_init) (sc := defScope s_m_Rings_init) (own := [(("part" : Str), 5)]) (by decide +kernel)) (fun _ _ _ _ _ => pg_name (i := 5) sc_m_Rings_init.nd rfl (by first | exact Or.inl rfl | exact Or.inr rfl)) (fun _ _ _ _ _ => sts_nil) (fun _ _ _ _ _ => (se_ix (hu_of hr) (se_v 5) se_int))))
    (ss_cons (ss_fl TX.f_Rings_named (se_v 0) (se_call A.a_inner_parts hr (sa_cons (se_v 1) sa_nil)))
    (ss_cons (ss_fl TX.f_Rings_long (se_v 0) (se_call A.a_lengths hr (sa_cons (se_v 1) sa_nil)))
    (ss_cons (ss_fl TX.f_Rings_counts (se_v 0) (se_lst sa_nil))
    (ss_one (ss_fo rfl (si_r1 TX.b_range (se_bf cd_len TX.b_len boot_len_ (sa_cons (se_fld TX.f_Rings_Guide_forms (se_v 0)) sa_nil))) (sg_n (i := 3) sc_m_Rings_init.nd) (ss_cons (ss_as (i := 4) sc_m_Rings_init.nd (se_bf (cd_sum rfl) TX.b_sum boot_sum_ (sa_cons (se_lc rfl sc_m_Rings_init.nd (si_a (se_ix (hu_of hr) (se_fld TX.f_Rings_named (se_v 0)) (se_v 3))) (blkOk_by (N := NN_m_Rings_init) (sc := defScope s_m_Rings_init) (own := [(("one" : Str), 6)]) (by decide +kernel)) (fun _ _ _ _ _ => pg_name (i := 6) sc_m_Rings_init.nd rfl (by first | exact Or.inl rfl | exact Or.inr rfl)) (fun _ _ _ _ _ => sts_nil) (fun _ _ _ _ _ => (se_ix (hu_of hr) (se_fld TX.f_Rings_counts (se_v 0)) (se_v 6)))) sa_nil)))
    (ss_cons (ss_if (st_cmp (od_eq hr.units) (se_ix (hu_of hr) (se_ix (hu_of hr) (se_fld TX.f_Rings_Guide_forms (se_v 0)) (se_v 3)) se_int) se_str (nomark _)) (ss_one (ss_as (i := 4) sc_m_Rings_init.nd (se_bt cd_int TX.b_int boot_int_ (sa_cons (se_cmp (od_eq hr.units) (se_ix (hu_of hr) (se_ix (hu_of hr) (se_fld TX.f_Rings_Guide_forms (se_v 0)) (se_v 3)) se_int) (se_v 2) (nomark _)) sa_nil)))) ss_nil)
    (ss_cons (ss_if (st_cmp (od_eq hr.units) (se_ix (hu_of hr) (se_ix (hu_of hr) (se_fld TX.f_Rings_Guide_forms (se_v 0)) (se_v 3)) se_int) se_str (nomark _)) (ss_one (ss_as (i := 4) sc_m_Rings_init.nd (se_op od_mul (se_v 4) (se_ix (hu_of hr) (se_ix (hu_of hr) (se_fld TX.f_Rings_Guide_forms (se_v 0)) (se_v 3)) se_int)))) ss_nil)
    (ss_one (ss_ex (se_bk PySem.F.plainAttrs_list PySem.F.slot_list_append PySem.F.type_list_append mt_append okL_ok md_append (se_fld TX.f_Rings_counts (se_v 0)) (sa_cons (se_v 4) sa_nil)))))))))))))
abbrev NN_m_Rings_part_rung : List Str := ["self", "k", "many", "turns", "rest", "told", "one"]
theorem sc_m_Rings_part_rung : FnScope NN_m_Rings_part_rung ["self", "k", "many"] (defScope s_m_Rings_part_rung) := ⟨rfl, rfl, rfl, by decide +kernel, rfl, by decide +kernel, by decide +kernel⟩
theorem w_m_Rings_part_rung {fa : Addr} {fd : FuncData} (TX : Txt K mg κ) (A : All P w K mg base κ n) (F : FunZ K "part_rung" "Rings.part_rung" s_m_Rings_part_rung [] fa fd) : FnOk P w K mg base CX0 (n + 1) fa fd ["self", "k", "many"] (spD K κ (List.length (["self", "k", "many"] : List Str)) (runFn (ctx T n) f_m_Rings_part_rung)) := by
  refine fnOk_of F sc_m_Rings_part_rung rfl rfl fun cdv Ar outer s H E hr => ?_
  exact
    (ss_cons (ss_if (st_w (sw_or (st_cmp od_ge (se_v 2) (se_ix (hu_of hr) (se_fld TX.f_Rings_long (se_v 0)) (se_v 1)) (nomark _)) (sw_or (st_cmp (od_eq hr.units) (se_v 2) se_int (nomark _)) (sw_or1 (st_cmp (od_eq hr.units) (se_ix (hu_of hr) (se_fld TX.f_Rings_counts (se_v 0)) (se_v 1)) se_int (nomark _)))))) (ss_one (ss_rt (se_op od_mul (se_ix (hu_of hr) (se_fld TX.f_Rings_counts (se_v 0)) (se_v 1)) (se_bt cd_int TX.b_int boot_int_ (sa_cons (se_cmp od_gt (se_v 2) se_int (nomark _)) sa_nil))))) ss_nil)
    (ss_cons (ss_if (st_cmp (od_eq hr.units) (se_ix (hu_of hr) (se_ix (hu_of hr) (se_fld TX.f_Rings_Guide_forms (se_v 0)) (se_v 1)) se_int) se_str (nomark _)) (ss_cons (ss_at (sg_t rfl (sgs_cons (i := 3) sc_m_Rings_part_rung.nd (sgs_cons (i := 4) sc_m_Rings_part_rung.nd sgs_nil))) (se_bf cd_dvm TX.b_divmod boot_divmod_ (sa_cons (se_v 2) (sa_cons (se_ix (hu_of hr) (se_fld TX.f_Rings_long (se_v 0)) (se_ix (hu_of hr) (se_ix (hu_of hr) (se_fld TX.f_Rings_named (se_v 0)) (se_v 1)) se_int)) sa_nil))))
    (ss_one (ss_rt (se_op od_add (se_op od_mul (se_v 3) (se_ix (hu_of hr) (se_fld TX.f_Rings_counts (se_v 0)) (se_ix (hu_of hr) (se_ix (hu_of hr) (se_fld TX.f_Rings_named (se_v 0)) (se_v 1)) se_int))) (se_meth A.m_Rings_part_rung hr (se_v 0) (sa_cons (se_ix (hu_of hr) (se_ix (hu_of hr) (se_fld TX.f_Rings_named (se_v 0)) (se_v 1)) se_int) (sa_cons (se_v 4) sa_nil))))))) ss_nil)
    (ss_cons (ss_as (i := 5) sc_m_Rings_part_rung.nd (se_bt cd_int TX.b_int boot_int_ (sa_cons (se_cmp (od_eq hr.units) (se_ix (hu_of hr) (se_ix (hu_of hr) (se_fld TX.f_Rings_Guide_forms (se_v 0)) (se_v 1)) se_int) se_str (nomark _)) sa_nil)))
    (ss_cons (ss_fo rfl (si_a (se_ix (hu_of hr) (se_fld TX.f_Rings_named (se_v 0)) (se_v 1))) (sg_n (i := 6) sc_m_Rings_part_rung.nd) (ss_cons (ss_au (i := 5) sc_m_Rings_part_rung.nd iod_add (se_meth A.m_Rings_part_rung hr (se_v 0) (sa_cons (se_v 6) (sa_cons (se_v 2) sa_nil))))
    (ss_one (ss_if (st_cmp (od_eq hr.units) (se_ix (hu_of hr) (se_ix (hu_of hr) (se_fld TX.f_Rings_Guide_forms (se_v 0)) (se_v 1)) se_int) se_str (nomark _)) (ss_one (ss_as (i := 2) sc_m_Rings_part_rung.nd (se_bf (cd_max rfl) TX.b_max boot_max_ (sa_cons se_int (sa_cons (se_op od_sub (se_v 2) (se_ix (hu_of hr) (se_fld TX.f_Rings_long (se_v 0)) (se_v 6))) sa_nil))))) ss_nil))))
    (ss_one (ss_rt (se_v 5)))))))
abbrev NN_m_Rings_ahead : List Str := ["self", "beat"]
theorem sc_m_Rings_ahead : FnScope NN_m_Rings_ahead ["self", "beat"] (defScope s_m_Rings_ahead) := ⟨rfl, rfl, rfl, by decide +kernel, rfl, by decide +kernel, by decide +kernel⟩
theorem w_m_Rings_ahead {fa : Addr} {fd : FuncData} (TX : Txt K mg κ) (A : All P w K mg base κ n) (F : FunZ K "ahead" "Rings.ahead" s_m_Rings_ahead [] fa fd) : FnOk P w K mg base CX0 (n + 1) fa fd ["self", "beat"] (spD K κ (List.length (["self", "beat"] : List Str)) (runFn (ctx T n) f_m_Rings_ahead)) := by
  refine fnOk_of F sc_m_Rings_ahead rfl rfl fun cdv Ar outer s H E hr => ?_
  exact
    (ss_one (ss_rt (se_meth A.m_Rings_part_rung hr (se_v 0) (sa_cons (se_op od_sub (se_bf cd_len TX.b_len boot_len_ (sa_cons (se_fld TX.f_Rings_Guide_forms (se_v 0)) sa_nil)) se_int) (sa_cons (se_v 1) sa_nil)))))
abbrev NN_m_Guide_init : List Str := ["self", "book", "number", "part", "limb", "name", "form"]
theorem sc_m_Guide_init : FnScope NN_m_Guide_init ["self", "book"] (defScope s_m_Guide_init) := ⟨rfl, rfl, rfl, by decide +kernel, rfl, by decide +kernel, by decide +kernel⟩
theorem w_m_Guide_init {fa : Addr} {fd : FuncData} (TX : Txt K mg κ) (A : All P w K mg base κ n) (F : FunZ K "__init__" "Guide.__init__" s_m_Guide_init [] fa fd) : FnOk P w K mg base CX0 (n + 1) fa fd ["self", "book"] (spD K κ (List.length (["self", "book"] : List Str)) (runFn (ctx T n) f_m_Guide_init)) := by
  refine fnOk_of F sc_m_Guide_init rfl rfl fun cdv Ar outer s H E hr => ?_
  exact
    (ss_cons (ss_fl TX.f_Rings_Guide_forms (se_v 0) (se_lct rfl sc_m_Guide_init.nd (si_a (se_ix (hu_of hr) (se_v 1) se_int)) (blkOk_by (N := NN_m_Guide_init) (sc := defScope s_m_Guide_init) (own := [(("name" : Str), 5), (("form" : Str), 6)]) (by decide +kernel)) (fun _ _ _ _ _ => (sgs_cons (i := 5) sc_m_Guide_init.nd (sgs_cons (i := 6) sc_m_Guide_init.nd sgs_nil))) (fun _ _ _ _ _ => sts_nil) (fun _ _ _ _ _ => (se_v 6))))
    (ss_cons (ss_fl TX.f_Guide_numbers (se_v 0) se_diK)
    (ss_cons (ss_fo rfl (si_en TX.b_enumerate (se_ix (hu_of hr) (se_v 1) se_int)) (sg_t rfl (sgs_cons (i := 2) sc_m_Guide_init.nd (sgs_cons (i := 3) sc_m_Guide_init.nd sgs_nil))) (ss_one (ss_st (hu_of hr) (se_fld TX.f_Guide_numbers (se_v 0)) (se_ix (hu_of hr) (se_v 3) se_int) (se_v 2))))
    (ss_cons (ss_fl TX.f_Guide_limbs (se_v 0) se_diK)
    (ss_cons (ss_fo rfl (si_en TX.b_enumerate (se_ix (hu_of hr) (se_v 1) se_int)) (sg_t rfl (sgs_cons (i := 2) sc_m_Guide_init.nd (sgs_cons (i := 4) sc_m_Guide_init.nd sgs_nil))) (ss_one (ss_st (hu_of hr) (se_fld TX.f_Guide_limbs (se_v 0)) (se_ix (hu_of hr) (se_v 4) se_int) (se_v 2))))
    (ss_cons (ss_fl TX.f_Guide_lengths (se_v 0) (se_call A.a_lengths hr (sa_cons (se_v 1) sa_nil)))
    (ss_one (ss_fl TX.f_Guide_ends (se_v 0) (se_call A.a_ends hr (sa_cons (se_v 1) sa_nil))))))))))
abbrev NN_m_Guide_look_at : List Str := ["self", "beat"]
theorem sc_m_Guide_look_at : FnScope NN_m_Guide_look_at ["self", "beat"] (defScope s_m_Guide_look_at) := ⟨rfl, rfl, rfl, by decide +kernel, rfl, by decide +kernel, by decide +kernel⟩
theorem w_m_Guide_look_at {fa : Addr} {fd : FuncData} (TX : Txt K mg κ) (A : All P w K mg base κ n) (F : FunZ K "look_at" "Guide.look_at" s_m_Guide_look_at [] fa fd) : FnOk P w K mg base CX0 (n + 1) fa fd ["self", "beat"] (spD K κ (List.length (["self", "beat"] : List Str)) (runFn (ctx T n) f_m_Guide_look_at)) := by
  refine fnOk_of F sc_m_Guide_look_at rfl rfl fun cdv Ar outer s H E hr => ?_
  exact
    (ss_cons (ss_if (st_w (sw_or (st_cmp od_lt (se_v 1) se_int (nomark _)) (sw_or1 (st_cmp od_gt (se_v 1) (se_ix (hu_of hr) (se_fld TX.f_Guide_lengths (se_v 0)) (se_un od_neg se_int)) (nomark _))))) (ss_one ss_no) ss_nil)
    (ss_one (ss_rt (se_cmp (od_eq hr.units) (se_v 1) (se_ix (hu_of hr) (se_fld TX.f_Guide_lengths (se_v 0)) (se_un od_neg se_int)) (nomark _)))))
abbrev NN_m_Guide_words : List Str := ["self", "number", "beat", "form", "inner", "found", "name"]
theorem sc_m_Guide_words : FnScope NN_m_Guide_words ["self", "number", "beat"] (defScope s_m_Guide_words) := ⟨rfl, rfl, rfl, by decide +kernel, rfl, by decide +kernel, by decide +kernel⟩
theorem w_m_Guide_words {fa : Addr} {fd : FuncData} (TX : Txt K mg κ) (A : All P w K mg base κ n) (F : FunZ K "words" "Guide.words" s_m_Guide_words [] fa fd) : FnOk P w K mg base CX0 (n + 1) fa fd ["self", "number", "beat"] (spD K κ (List.length (["self", "number", "beat"] : List Str)) (runFn (ctx T n) f_m_Guide_words)) := by
  refine fnOk_of F sc_m_Guide_words rfl rfl fun cdv Ar outer s H E hr => ?_
  exact
    (ss_cons (ss_as (i := 3) sc_m_Guide_words.nd (se_ix (hu_of hr) (se_fld TX.f_Rings_Guide_forms (se_v 0)) (se_v 1)))
    (ss_cons (ss_if (st_w (sw_or (st_cmp od_ge (se_v 2) (se_ix (hu_of hr) (se_fld TX.f_Guide_lengths (se_v 0)) (se_v 1)) (nomark _)) (sw_or (st_cmp (od_eq hr.units) (se_ix (hu_of hr) (se_v 3) se_int) se_str (nomark _)) (sw_or1 (st_cmp (od_eq hr.units) (se_ix (hu_of hr) (se_v 3) se_int) se_str (nomark _)))))) (ss_one (ss_rt (se_lst sa_nil))) ss_nil)
    (ss_cons (ss_if (st_cmp (od_eq hr.units) (se_ix (hu_of hr) (se_v 3) se_int) se_str (nomark _)) (ss_one (ss_rt (se_if (st_cmp (od_eq hr.units) (se_v 2) se_int (nomark _)) (se_lst (sa_cons (se_ix (hu_of hr) (se_v 3) se_int) sa_nil)) (se_lst sa_nil)))) ss_nil)
    (ss_cons (ss_if (st_cmp (od_eq hr.units) (se_ix (hu_of hr) (se_v 3) se_int) se_str (nomark _)) (ss_cons (ss_as (i := 4) sc_m_Guide_words.nd (se_ix (hu_of hr) (se_fld TX.f_Guide_numbers (se_v 0)) (se_ix (hu_of hr) (se_v 3) se_int)))
    (ss_one (ss_rt (se_meth A.m_Guide_words hr (se_v 0) (sa_cons (se_v 4) (sa_cons (se_op od_mod (se_v 2) (se_ix (hu_of hr) (se_fld TX.f_Guide_lengths (se_v 0)) (se_v 4))) sa_nil)))))) ss_nil)
    (ss_cons (ss_as (i := 5) sc_m_Guide_words.nd (se_lst sa_nil))
    (ss_cons (ss_fo rfl (si_a (se_ix (hu_of hr) (se_v 3) se_int)) (sg_n (i := 6) sc_m_Guide_words.nd) (ss_cons (ss_as (i := 4) sc_m_Guide_words.nd (se_ix (hu_of hr) (se_fld TX.f_Guide_numbers (se_v 0)) (se_v 6)))
    (ss_cons (ss_if (st_cmp od_ge (se_v 2) se_int (nomark _)) (ss_one (ss_ex (se_bk PySem.F.plainAttrs_list PySem.F.slot_list_extend PySem.F.type_list_extend mt_extend okL_ok md_extend (se_v 5) (sa_cons (se_meth A.m_Guide_words hr (se_v 0) (sa_cons (se_v 4) (sa_cons (se_v 2) sa_nil))) sa_nil)))) ss_nil)
    (ss_one (ss_if (st_cmp (od_eq hr.units) (se_ix (hu_of hr) (se_v 3) se_int) se_str (nomark _)) (ss_one (ss_as (i := 2) sc_m_Guide_words.nd (se_op od_sub (se_v 2) (se_ix (hu_of hr) (se_fld TX.f_Guide_lengths (se_v 0)) (se_v 4))))) ss_nil)))))
    (ss_one (ss_rt (se_v 5)))))))))
abbrev NN__wall : List Str := ["k"]
theorem sc__wall : FnScope NN__wall ["k"] (defScope s__wall) := ⟨rfl, rfl, rfl, by decide +kernel, rfl, by decide +kernel, by decide +kernel⟩
theorem w__wall {fa : Addr} {fd : FuncData} (TX : Txt K mg κ) (A : All P w K mg base κ n) (F : FunZ K "_wall" "_wall" s__wall [] fa fd) : FnOk P w K mg base CX0 (n + 1) fa fd ["k"] (spD K κ (List.length (["k"] : List Str)) (runFn (ctx T n) f__wall)) := by
  refine fnOk_of F sc__wall rfl rfl fun cdv Ar outer s H E hr => ?_
  exact
    (ss_one (ss_wh (st_v se_bl) (ss_one ss_ps)))
abbrev NN_numbers_of : List Str := ["rows", "numbers", "number", "row"]
theorem sc_numbers_of : FnScope NN_numbers_of ["rows"] (defScope s_numbers_of) := ⟨rfl, rfl, rfl, by decide +kernel, rfl, by decide +kernel, by decide +kernel⟩
theorem w_numbers_of {fa : Addr} {fd : FuncData} (TX : Txt K mg κ) (A : All P w K mg base κ n) (F : FunZ K "numbers_of" "numbers_of" s_numbers_of [] fa fd) : FnOk P w K mg base CX0 (n + 1) fa fd ["rows"] (spD K κ (List.length (["rows"] : List Str)) (runFn (ctx T n) f_numbers_of)) := by
  refine fnOk_of F sc_numbers_of rfl rfl fun cdv Ar outer s H E hr => ?_
  exact
    (ss_cons (ss_as (i := 1) sc_numbers_of.nd se_diK)
    (ss_cons (ss_fo rfl (si_en TX.b_enumerate (se_v 0)) (sg_t rfl (sgs_cons (i := 2) sc_numbers_of.nd (sgs_cons (i := 3) sc_numbers_of.nd sgs_nil))) (ss_one (ss_st (hu_of hr) (se_v 1) (se_ix (hu_of hr) (se_v 3) se_int) (se_v 2))))
    (ss_one (ss_rt (se_v 1)))))
abbrev NN_named : List Str := ["form", "numbers", "name"]
theorem sc_named : FnScope NN_named ["form", "numbers"] (defScope s_named) := ⟨rfl, rfl, rfl, by decide +kernel, rfl, by decide +kernel, by decide +kernel⟩
theorem w_named {fa : Addr} {fd : FuncData} (TX : Txt K mg κ) (A : All P w K mg base κ n) (F : FunZ K "named" "named" s_named [] fa fd) : FnOk P w K mg base CX0 (n + 1) fa fd ["form", "numbers"] (spD K κ (List.length (["form", "numbers"] : List Str)) (runFn (ctx T n) f_named)) := by
  refine fnOk_of F sc_named rfl rfl fun cdv Ar outer s H E hr => ?_
  exact
    (ss_cons (ss_if (st_w (sw_or (st_cmp (od_eq hr.units) (se_ix (hu_of hr) (se_v 0) se_int) se_str (nomark _)) (sw_or1 (st_cmp (od_eq hr.units) (se_ix (hu_of hr) (se_v 0) se_int) se_str (nomark _))))) (ss_one (ss_rt (se_lc rfl sc_named.nd (si_a (se_ix (hu_of hr) (se_v 0) se_int)) (blkOk_by (N := NN_named) (sc := defScope s_named) (own := [(("name" : Str), 2)]) (by decide +kernel)) (fun _ _ _ _ _ => pg_name (i := 2) sc_named.nd rfl (by first | exact Or.inl rfl | exact Or.inr rfl)) (fun _ _ _ _ _ => sts_nil) (fun _ _ _ _ _ => (se_ix (hu_of hr) (se_v 1) (se_v 2)))))) ss_nil)
    (ss_cons (ss_if (st_cmp (od_eq hr.units) (se_ix (hu_of hr) (se_v 0) se_int) se_str (nomark _)) (ss_one (ss_rt (se_lst (sa_cons (se_ix (hu_of hr) (se_v 1) (se_ix (hu_of hr) (se_v 0) se_int)) sa_nil)))) ss_nil)
    (ss_one (ss_rt (se_lst sa_nil)))))
abbrev NN_moved : List Str := ["book", "hands", "numbers", "told", "name", "form", "limbs", "number"]
theorem sc_moved : FnScope NN_moved ["book"] (defScope s_moved) := ⟨rfl, rfl, rfl, by decide +kernel, rfl, by decide +kernel, by decide +kernel⟩
theorem w_moved {fa : Addr} {fd : FuncData} (TX : Txt K mg κ) (A : All P w K mg base κ n) (F : FunZ K "moved" "moved" s_moved [] fa fd) : FnOk P w K mg base CX0 (n + 1) fa fd ["book"] (spD K κ (List.length (["book"] : List Str)) (runFn (ctx T n) f_moved)) := by
  refine fnOk_of F sc_moved rfl rfl fun cdv Ar outer s H E hr => ?_
  exact
    (ss_cons (ss_as (i := 1) sc_moved.nd (se_call A.a_numbers_of hr (sa_cons (se_ix (hu_of hr) (se_v 0) se_int) sa_nil)))
    (ss_cons (ss_as (i := 2) sc_moved.nd (se_call A.a_numbers_of hr (sa_cons (se_ix (hu_of hr) (se_v 0) se_int) sa_nil)))
    (ss_cons (ss_as (i := 3) sc_moved.nd (se_lst sa_nil))
    (ss_cons (ss_fo rfl (si_a (se_ix (hu_of hr) (se_v 0) se_int)) (sg_t rfl (sgs_cons (i := 4) sc_moved.nd (sgs_cons (i := 5) sc_moved.nd sgs_nil))) (ss_cons (ss_as (i := 6) sc_moved.nd (se_lst sa_nil))
    (ss_cons (ss_if (st_cmp (od_eq hr.units) (se_ix (hu_of hr) (se_v 5) se_int) se_str (nomark _)) (ss_one (ss_ex (se_bk PySem.F.plainAttrs_list PySem.F.slot_list_append PySem.F.type_list_append mt_append okL_ok md_append (se_v 6) (sa_cons (se_ix (hu_of hr) (se_v 1) (se_ix (hu_of hr) (se_v 5) se_int)) sa_nil)))) ss_nil)
    (ss_cons (ss_fo rfl (si_a (se_call A.a_named hr (sa_cons (se_v 5) (sa_cons (se_v 2) sa_nil)))) (sg_n (i := 7) sc_moved.nd) (ss_one (ss_ex (se_bk PySem.F.plainAttrs_list PySem.F.slot_list_extend PySem.F.type_list_extend mt_extend okL_ok md_extend (se_v 6) (sa_cons (se_ix (hu_of hr) (se_v 3) (se_v 7)) sa_nil)))))
    (ss_one (ss_ex (se_bk PySem.F.plainAttrs_list PySem.F.slot_list_append PySem.F.type_list_append mt_append okL_ok md_append (se_v 3) (sa_cons (se_srs rfl TX.b_sorted TX.b_set (se_v 6)) sa_nil))))))))
    (ss_one (ss_rt (se_v 3)))))))
abbrev NN_length_of : List Str := ["form", "below"]
theorem sc_length_of : FnScope NN_length_of ["form", "below"] (defScope s_length_of) := ⟨rfl, rfl, rfl, by decide +kernel, rfl, by decide +kernel, by decide +kernel⟩
theorem w_length_of {fa : Addr} {fd : FuncData} (TX : Txt K mg κ) (A : All P w K mg base κ n) (F : FunZ K "length_of" "length_of" s_length_of [] fa fd) : FnOk P w K mg base CX0 (n + 1) fa fd ["form", "below"] (spD K κ (List.length (["form", "below"] : List Str)) (runFn (ctx T n) f_length_of)) := by
  refine fnOk_of F sc_length_of rfl rfl fun cdv Ar outer s H E hr => ?_
  exact
    (ss_cons (ss_if (st_cmp (od_eq hr.units) (se_ix (hu_of hr) (se_v 0) se_int) se_str (nomark _)) (ss_one (ss_rt (se_bf (cd_sum rfl) TX.b_sum boot_sum_ (sa_cons (se_v 1) sa_nil)))) ss_nil)
    (ss_cons (ss_if (st_cmp (od_eq hr.units) (se_ix (hu_of hr) (se_v 0) se_int) se_str (nomark _)) (ss_one (ss_rt (se_bf (cd_max rfl) TX.b_max boot_max_ (sa_cons (se_v 1) sa_nil)))) ss_nil)
    (ss_cons (ss_if (st_cmp (od_eq hr.units) (se_ix (hu_of hr) (se_v 0) se_int) se_str (nomark _)) (ss_one (ss_rt (se_op od_mul (se_ix (hu_of hr) (se_v 0) se_int) (se_ix (hu_of hr) (se_v 1) se_int)))) ss_nil)
    (ss_one (ss_rt (se_ix (hu_of hr) (se_v 0) (se_un od_neg se_int)))))))
abbrev NN_look_at_side : List Str := ["book", "number", "limbs", "limb", "some"]
theorem sc_look_at_side : FnScope NN_look_at_side ["book", "number", "limbs"] (defScope s_look_at_side) := ⟨rfl, rfl, rfl, by decide +kernel, rfl, by decide +kernel, by decide +kernel⟩
theorem w_look_at_side {fa : Addr} {fd : FuncData} (TX : Txt K mg κ) (A : All P w K mg base κ n) (F : FunZ K "look_at_side" "look_at_side" s_look_at_side [] fa fd) : FnOk P w K mg base CX0 (n + 1) fa fd ["book", "number", "limbs"] (spD K κ (List.length (["book", "number", "limbs"] : List Str)) (runFn (ctx T n) f_look_at_side)) := by
  refine fnOk_of F sc_look_at_side rfl rfl fun cdv Ar outer s H E hr => ?_
  exact
    (ss_cons (ss_if (st_cmp (od_in (hu65 hr)) (se_lst sa_nil) (se_v 2) (by rfl)) (ss_one ss_no) ss_nil)
    (ss_one (ss_fo rfl (si_r1 TX.b_range (se_bf cd_len TX.b_len boot_len_ (sa_cons (se_ix (hu_of hr) (se_v 0) se_int) sa_nil))) (sg_n (i := 3) sc_look_at_side.nd) (ss_one (ss_if (st_cmp od_gt (se_bf cd_len TX.b_len boot_len_ (sa_cons (se_lc rfl sc_look_at_side.nd (si_a (se_v 2)) (blkOk_by (N := NN_look_at_side) (sc := defScope s_look_at_side) (own := [(("some" : Str), 4)]) (by decide +kernel)) (fun _ _ _ _ _ => pg_name (i := 4) sc_look_at_side.nd rfl (by first | exact Or.inl rfl | exact Or.inr rfl)) (fun _ _ _ _ _ => sts_one (st_cmp (od_in (hu65 hr)) (se_v 3) (se_v 4) (by rfl))) (fun _ _ _ _ _ => (se_v 4))) sa_nil)) se_int (nomark _)) (ss_one ss_no) ss_nil)))))
abbrev NN_lengths : List Str := ["book", "numbers", "limbs", "told", "number", "part", "below", "one"]
theorem sc_lengths : FnScope NN_lengths ["book"] (defScope s_lengths) := ⟨rfl, rfl, rfl, by decide +kernel, rfl, by decide +kernel, by decide +kernel⟩
theorem w_lengths {fa : Addr} {fd : FuncData} (TX : Txt K mg κ) (A : All P w K mg base κ n) (F : FunZ K "lengths" "lengths" s_lengths [] fa fd) : FnOk P w K mg base CX0 (n + 1) fa fd ["book"] (spD K κ (List.length (["book"] : List Str)) (runFn (ctx T n) f_lengths)) := by
  refine fnOk_of F sc_lengths rfl rfl fun cdv Ar outer s H E hr => ?_
  exact
    (ss_cons (ss_as (i := 1) sc_lengths.nd (se_call A.a_numbers_of hr (sa_cons (se_ix (hu_of hr) (se_v 0) se_int) sa_nil)))
    (ss_cons (ss_as (i := 2) sc_lengths.nd (se_call A.a_moved hr (sa_cons (se_v 0) sa_nil)))
    (ss_cons (ss_as (i := 3) sc_lengths.nd (se_lst sa_nil))
    (ss_cons (ss_fo rfl (si_en TX.b_enumerate (se_ix (hu_of hr) (se_v 0) se_int)) (sg_t rfl (sgs_cons (i := 4) sc_lengths.nd (sgs_cons (i := 5) sc_lengths.nd sgs_nil))) (ss_cons (ss_as (i := 6) sc_lengths.nd (se_call A.a_named hr (sa_cons (se_ix (hu_of hr) (se_v 5) se_int) (sa_cons (se_v 1) sa_nil))))
    (ss_cons (ss_if (st_cmp (od_eq hr.units) (se_ix (hu_of hr) (se_ix (hu_of hr) (se_v 5) se_int) se_int) se_str (nomark _)) (ss_one (ss_ex (se_call A.a_look_at_side hr (sa_cons (se_v 0) (sa_cons (se_v 4) (sa_cons (se_lc rfl sc_lengths.nd (si_a (se_v 6)) (blkOk_by (N := NN_lengths) (sc := defScope s_lengths) (own := [(("one" : Str), 7)]) (by decide +kernel)) (fun _ _ _ _ _ => pg_name (i := 7) sc_lengths.nd rfl (by first | exact Or.inl rfl | exact Or.inr rfl)) (fun _ _ _ _ _ => sts_nil) (fun _ _ _ _ _ => (se_ix (hu_of hr) (se_v 2) (se_v 7)))) sa_nil)))))) ss_nil)
    (ss_cons (ss_ex (se_bk PySem.F.plainAttrs_list PySem.F.slot_list_append PySem.F.type_list_append mt_append okL_ok md_append (se_v 3) (sa_cons (se_call A.a_length_of hr (sa_cons (se_ix (hu_of hr) (se_v 5) se_int) (sa_cons (se_lc rfl sc_lengths.nd (si_a (se_v 6)) (blkOk_by (N := NN_lengths) (sc := defScope s_lengths) (own := [(("one" : Str), 7)]) (by decide +kernel)) (fun _ _ _ _ _ => pg_name (i := 7) sc_lengths.nd rfl (by first | exact Or.inl rfl | exact Or.inr rfl)) (fun _ _ _ _ _ => sts_nil) (fun _ _ _ _ _ => (se_ix (hu_of hr) (se_v 3) (se_v 7)))) sa_nil))) sa_nil)))
    (ss_one (ss_if (st_cmp od_gt (se_ix (hu_of hr) (se_v 3) (se_un od_neg se_int)) (se_gi TX.c_LONGEST.choose_spec) (nomark _)) (ss_one ss_no) ss_nil))))))
    (ss_one (ss_rt (se_v 3)))))))
abbrev NN_ends : List Str := ["book", "hands", "numbers", "told", "name", "form", "left", "number", "limb", "height"]
theorem sc_ends : FnScope NN_ends ["book"] (defScope s_ends) := ⟨rfl, rfl, rfl, by decide +kernel, rfl, by decide +kernel, by decide +kernel⟩
theorem w_ends {fa : Addr} {fd : FuncData} (TX : Txt K mg κ) (A : All P w K mg base κ n) (F : FunZ K "ends" "ends" s_ends [] fa fd) : FnOk P w K mg base CX0 (n + 1) fa fd ["book"] (spD K κ (List.length (["book"] : List Str)) (runFn (ctx T n) f_ends)) := by
  refine fnOk_of F sc_ends rfl rfl fun cdv Ar outer s H E hr => ?_
  exact
    (ss_cons (ss_as (i := 1) sc_ends.nd (se_call A.a_numbers_of hr (sa_cons (se_ix (hu_of hr) (se_v 0) se_int) sa_nil)))
    (ss_cons (ss_as (i := 2) sc_ends.nd (se_call A.a_numbers_of hr (sa_cons (se_ix (hu_of hr) (se_v 0) se_int) sa_nil)))
    (ss_cons (ss_as (i := 3) sc_ends.nd (se_lst sa_nil))
    (ss_cons (ss_fo rfl (si_a (se_ix (hu_of hr) (se_v 0) se_int)) (sg_t rfl (sgs_cons (i := 4) sc_ends.nd (sgs_cons (i := 5) sc_ends.nd sgs_nil))) (ss_cons (ss_as (i := 6) sc_ends.nd se_diK)
    (ss_cons (ss_if (st_cmp (od_eq hr.units) (se_ix (hu_of hr) (se_v 5) se_int) se_str (nomark _)) (ss_one (ss_st (hu_of hr) (se_v 6) (se_ix (hu_of hr) (se_v 1) (se_ix (hu_of hr) (se_v 5) se_int)) (se_ix (hu_of hr) (se_v 5) se_int))) ss_nil)
    (ss_cons (ss_fo rfl (si_a (se_call A.a_named hr (sa_cons (se_v 5) (sa_cons (se_v 2) sa_nil)))) (sg_n (i := 7) sc_ends.nd) (ss_one (ss_fo rfl (si_a (se_ix (hu_of hr) (se_v 3) (se_v 7))) (sg_t rfl (sgs_cons (i := 8) sc_ends.nd (sgs_cons (i := 9) sc_ends.nd sgs_nil))) (ss_one (ss_st (hu_of hr) (se_v 6) (se_v 8) (se_v 9))))))
    (ss_one (ss_ex (se_bk PySem.F.plainAttrs_list PySem.F.slot_list_append PySem.F.type_list_append mt_append okL_ok md_append (se_v 3) (sa_cons (se_lc rfl sc_ends.nd (si_a (se_bf (cd_sr2 rfl) TX.b_sorted boot_sorted_ (sa_cons (se_v 6) sa_nil))) (blkOk_by (N := NN_ends) (sc := defScope s_ends) (own := [(("limb" : Str), 8)]) (by decide +kernel)) (fun _ _ _ _ _ => pg_name (i := 8) sc_ends.nd rfl (by first | exact Or.inl rfl | exact Or.inr rfl)) (fun _ _ _ _ _ => sts_nil) (fun _ _ _ _ _ => (se_tup (sa_cons (se_v 8) (sa_cons (se_ix (hu_of hr) (se_v 6) (se_v 8)) sa_nil))))) sa_nil))))))))
    (ss_one (ss_rt (se_v 3)))))))
abbrev NN_inner_parts : List Str := ["book", "known", "told", "number", "part", "form", "named", "name"]
theorem sc_inner_parts : FnScope NN_inner_parts ["book"] (defScope s_inner_parts) := ⟨rfl, rfl, rfl, by decide +kernel, rfl, by decide +kernel, by decide +kernel⟩
theorem w_inner_parts {fa : Addr} {fd : FuncData} (TX : Txt K mg κ) (A : All P w K mg base κ n) (F : FunZ K "inner_parts" "inner_parts" s_inner_parts [] fa fd) : FnOk P w K mg base CX0 (n + 1) fa fd ["book"] (spD K κ (List.length (["book"] : List Str)) (runFn (ctx T n) f_inner_parts)) := by
  refine fnOk_of F sc_inner_parts rfl rfl fun cdv Ar outer s H E hr => ?_
  exact
    (ss_cons (ss_as (i := 1) sc_inner_parts.nd se_diK)
    (ss_cons (ss_as (i := 2) sc_inner_parts.nd (se_lst sa_nil))
    (ss_cons (ss_fo rfl (si_en TX.b_enumerate (se_ix (hu_of hr) (se_v 0) se_int)) (sg_t rfl (sgs_cons (i := 3) sc_inner_parts.nd (sgs_cons (i := 4) sc_inner_parts.nd sgs_nil))) (ss_cons (ss_as (i := 5) sc_inner_parts.nd (se_ix (hu_of hr) (se_v 4) se_int))
    (ss_cons (ss_as (i := 6) sc_inner_parts.nd (se_lst sa_nil))
    (ss_cons (ss_if (st_w (sw_or (st_cmp (od_eq hr.units) (se_ix (hu_of hr) (se_v 5) se_int) se_str (nomark _)) (sw_or1 (st_cmp (od_eq hr.units) (se_ix (hu_of hr) (se_v 5) se_int) se_str (nomark _))))) (ss_one (ss_lc (j := 6) rfl (sw_true rfl rfl rfl (by decide +kernel)) sc_inner_parts.nd (si_a (se_ix (hu_of hr) (se_v 5) se_int)) (blkOk_by (N := NN_inner_parts) (sc := defScope s_inner_parts) (own := [(("name" : Str), 7)]) (by decide +kernel)) (fun _ _ _ _ _ => pg_name (i := 7) sc_inner_parts.nd rfl (by first | exact Or.inl rfl | exact Or.inr rfl)) (fun _ _ _ _ _ => sts_nil) (fun _ _ _ _ _ => (se_ix (hu_of hr) (se_v 1) (se_v 7))))) ss_nil)
    (ss_cons (ss_if (st_cmp (od_eq hr.units) (se_ix (hu_of hr) (se_v 5) se_int) se_str (nomark _)) (ss_one (ss_as (i := 6) sc_inner_parts.nd (se_lst (sa_cons (se_ix (hu_of hr) (se_v 1) (se_ix (hu_of hr) (se_v 5) se_int)) sa_nil)))) ss_nil)
    (ss_cons (ss_ex (se_bk PySem.F.plainAttrs_list PySem.F.slot_list_append PySem.F.type_list_append mt_append okL_ok md_append (se_v 2) (sa_cons (se_v 6) sa_nil)))
    (ss_one (ss_st (hu_of hr) (se_v 1) (se_ix (hu_of hr) (se_v 4) se_int) (se_v 3)))))))))
    (ss_one (ss_rt (se_v 2))))))
abbrev NN_look_at_beat : List Str := ["beat", "last"]
theorem sc_look_at_beat : FnScope NN_look_at_beat ["beat", "last"] (defScope s_look_at_beat) := ⟨rfl, rfl, rfl, by decide +kernel, rfl, by decide +kernel, by decide +kernel⟩
theorem w_look_at_beat {fa : Addr} {fd : FuncData} (TX : Txt K mg κ) (A : All P w K mg base κ n) (F : FunZ K "look_at_beat" "look_at_beat" s_look_at_beat [] fa fd) : FnOk P w K mg base CX0 (n + 1) fa fd ["beat", "last"] (spD K κ (List.length (["beat", "last"] : List Str)) (runFn (ctx T n) f_look_at_beat)) := by
  refine fnOk_of F sc_look_at_beat rfl rfl fun cdv Ar outer s H E hr => ?_
  exact
    (ss_one (ss_if (st_w (sw_or (st_cmp od_lt (se_v 0) se_int (nomark _)) (sw_or1 (st_cmp od_gt (se_v 0) (se_v 1) (nomark _))))) (ss_one ss_no) ss_nil))
abbrev NN_ring_count : List Str := ["book", "word", "beat"]
theorem sc_ring_count : FnScope NN_ring_count ["book", "word", "beat"] (defScope s_ring_count) := ⟨rfl, rfl, rfl, by decide +kernel, rfl, by decide +kernel, by decide +kernel⟩
theorem w_ring_count {fa : Addr} {fd : FuncData} (TX : Txt K mg κ) (A : All P w K mg base κ n) (F : FunZ K "ring_count" "ring_count" s_ring_count [] fa fd) : FnOk P w K mg base CX0 (n + 1) fa fd ["book", "word", "beat"] (spD K κ (List.length (["book", "word", "beat"] : List Str)) (runFn (ctx T n) f_ring_count)) := by
  refine fnOk_of F sc_ring_count rfl rfl fun cdv Ar outer s H E hr => ?_
  exact
    (ss_cons (ss_ex (se_call A.a_look_at_beat hr (sa_cons (se_v 2) (sa_cons (se_op od_add (se_ix (hu_of hr) (se_call A.a_lengths hr (sa_cons (se_v 0) sa_nil)) (se_un od_neg se_int)) se_int) sa_nil))))
    (ss_one (ss_rt (se_meth A.m_Rings_ahead hr (se_makeA A.k_Rings hr (sa_cons (se_v 0) (sa_cons (se_v 1) sa_nil))) (sa_cons (se_v 2) sa_nil)))))
abbrev NN_first_beyond : List Str := ["counted", "number", "low", "high", "middle"]
theorem sc_first_beyond : FnScope NN_first_beyond ["counted", "number", "low", "high"] (defScope s_first_beyond) := ⟨rfl, rfl, rfl, by decide +kernel, rfl, by decide +kernel, by decide +kernel⟩
theorem w_first_beyond {fa : Addr} {fd : FuncData} (TX : Txt K mg κ) (A : All P w K mg base κ n) (F : FunZ K "first_beyond" "first_beyond" s_first_beyond [] fa fd) : FnOk P w K mg base CX0 (n + 1) fa fd ["counted", "number", "low", "high"] (spD K κ (List.length (["counted", "number", "low", "high"] : List Str)) (runFn (ctx T n) f_first_beyond)) := by
  refine fnOk_of F sc_first_beyond rfl rfl fun cdv Ar outer s H E hr => ?_
  exact
    (ss_cons (ss_wh (st_cmp od_lt (se_v 2) (se_v 3) (nomark _)) (ss_cons (ss_as (i := 4) sc_first_beyond.nd (se_op od_div (se_op od_add (se_v 2) (se_v 3)) se_int))
    (ss_one (ss_if (st_cmp od_gt (se_meth A.m_Rings_ahead hr (se_v 0) (sa_cons (se_op od_add (se_v 4) se_int) sa_nil)) (se_v 1) (nomark _)) (ss_one (ss_as (i := 3) sc_first_beyond.nd (se_v 4))) (ss_one (ss_as (i := 2) sc_first_beyond.nd (se_op od_add (se_v 4) se_int)))))))
    (ss_one (ss_rt (se_v 2))))
abbrev NN_ring_beat : List Str := ["book", "word", "number", "last", "counted"]
theorem sc_ring_beat : FnScope NN_ring_beat ["book", "word", "number"] (defScope s_ring_beat) := ⟨rfl, rfl, rfl, by decide +kernel, rfl, by decide +kernel, by decide +kernel⟩
theorem w_ring_beat {fa : Addr} {fd : FuncData} (TX : Txt K mg κ) (A : All P w K mg base κ n) (F : FunZ K "ring_beat" "ring_beat" s_ring_beat [0] fa fd) : FnOk P w K mg base CX0 (n + 1) fa fd ["book", "word", "number"] (spD K κ (List.length (["book", "word", "number"] : List Str)) (runFn (ctx T n) f_ring_beat)) := by
  refine fnOk_of F sc_ring_beat rfl rfl fun cdv Ar outer s H E hr => ?_
  exact
    (ss_cons (ss_as (i := 3) sc_ring_beat.nd (se_ix (hu_of hr) (se_call A.a_lengths hr (sa_cons (se_v 0) sa_nil)) (se_un od_neg se_int)))
    (ss_cons (ss_as (i := 4) sc_ring_beat.nd (se_makeA A.k_Rings hr (sa_cons (se_v 0) (sa_cons (se_v 1) sa_nil))))
    (ss_cons (ss_if (st_cmp od_le (se_meth A.m_Rings_ahead hr (se_v 4) (sa_cons (se_op od_add (se_v 3) se_int) sa_nil)) (se_v 2) (nomark _)) (ss_one (ss_rt se_non)) ss_nil)
    (ss_one (ss_rt (se_call A.a_first_beyond hr (sa_cons (se_v 4) (sa_cons (se_v 2) (sa_cons se_int (sa_cons (se_v 3) sa_nil))))))))))
abbrev NN_whole_steps : List Str := ["one", "other", "times", "later", "share", "rest"]
theorem sc_whole_steps : FnScope NN_whole_steps ["one", "other"] (defScope s_whole_steps) := ⟨rfl, rfl, rfl, by decide +kernel, rfl, by decide +kernel, by decide +kernel⟩
theorem w_whole_steps {fa : Addr} {fd : FuncData} (TX : Txt K mg κ) (A : All P w K mg base κ n) (F : FunZ K "whole_steps" "whole_steps" s_whole_steps [] fa fd) : FnOk P w K mg base CX0 (n + 1) fa fd ["one", "other"] (spD K κ (List.length (["one", "other"] : List Str)) (runFn (ctx T n) f_whole_steps)) := by
  refine fnOk_of F sc_whole_steps rfl rfl fun cdv Ar outer s H E hr => ?_
  exact
    (ss_cons (ss_as (i := 2) sc_whole_steps.nd se_int)
    (ss_cons (ss_as (i := 3) sc_whole_steps.nd se_int)
    (ss_cons (ss_wh (st_cmp od_gt (se_v 1) se_int (nomark _)) (ss_cons (ss_at (sg_t rfl (sgs_cons (i := 4) sc_whole_steps.nd (sgs_cons (i := 5) sc_whole_steps.nd sgs_nil))) (se_bf cd_dvm TX.b_divmod boot_divmod_ (sa_cons (se_v 0) (sa_cons (se_v 1) sa_nil))))
    (ss_cons (ss_pr (i := 0) (j := 1) rfl sc_whole_steps.nd (se_v 1) (se_v 5))
    (ss_one (ss_pr (i := 2) (j := 3) rfl sc_whole_steps.nd (se_v 3) (se_op od_sub (se_v 2) (se_op od_mul (se_v 4) (se_v 3))))))))
    (ss_one (ss_rt (se_tup (sa_cons (se_v 0) (sa_cons (se_v 2) sa_nil))))))))
abbrev NN_joined : List Str := ["beat", "turn", "other", "other_turn", "common", "times", "share", "whole"]
theorem sc_joined : FnScope NN_joined ["beat", "turn", "other", "other_turn"] (defScope s_joined) := ⟨rfl, rfl, rfl, by decide +kernel, rfl, by decide +kernel, by decide +kernel⟩
theorem w_joined {fa : Addr} {fd : FuncData} (TX : Txt K mg κ) (A : All P w K mg base κ n) (F : FunZ K "joined" "joined" s_joined [] fa fd) : FnOk P w K mg base CX0 (n + 1) fa fd ["beat", "turn", "other", "other_turn"] (spD K κ (List.length (["beat", "turn", "other", "other_turn"] : List Str)) (runFn (ctx T n) f_joined)) := by
  refine fnOk_of F sc_joined rfl rfl fun cdv Ar outer s H E hr => ?_
  exact
    (ss_cons (ss_at (sg_t rfl (sgs_cons (i := 4) sc_joined.nd (sgs_cons (i := 5) sc_joined.nd sgs_nil))) (se_call A.a_whole_steps hr (sa_cons (se_v 1) (sa_cons (se_v 3) sa_nil))))
    (ss_cons (ss_if (st_cmp (od_ne hr.units) (se_op od_mod (se_op od_sub (se_v 2) (se_v 0)) (se_v 4)) se_int (nomark _)) (ss_one (ss_rt se_non)) ss_nil)
    (ss_cons (ss_as (i := 6) sc_joined.nd (se_op od_mod (se_op od_mul (se_op od_div (se_op od_sub (se_v 2) (se_v 0)) (se_v 4)) (se_v 5)) (se_op od_div (se_v 3) (se_v 4))))
    (ss_cons (ss_as (i := 7) sc_joined.nd (se_op od_mul (se_v 1) (se_op od_div (se_v 3) (se_v 4))))
    (ss_one (ss_rt (se_tup (sa_cons (se_op od_mod (se_op od_add (se_v 0) (se_op od_mul (se_v 1) (se_v 6))) (se_v 7)) (sa_cons (se_v 7) sa_nil)))))))))
abbrev NN_beats_of : List Str := ["book", "word", "many", "found", "number", "beat"]
theorem sc_beats_of : FnScope NN_beats_of ["book", "word"] (defScope s_beats_of) := ⟨rfl, rfl, rfl, by decide +kernel, rfl, by decide +kernel, by decide +kernel⟩
theorem w_beats_of {fa : Addr} {fd : FuncData} (TX : Txt K mg κ) (A : All P w K mg base κ n) (F : FunZ K "beats_of" "beats_of" s_beats_of [] fa fd) : FnOk P w K mg base CX0 (n + 1) fa fd ["book", "word"] (spD K κ (List.length (["book", "word"] : List Str)) (runFn (ctx T n) f_beats_of)) := by
  refine fnOk_of F sc_beats_of rfl rfl fun cdv Ar outer s H E hr => ?_
  exact
    (ss_cons (ss_as (i := 2) sc_beats_of.nd (se_call A.a_ring_count hr (sa_cons (se_v 0) (sa_cons (se_v 1) (sa_cons (se_ix (hu_of hr) (se_call A.a_lengths hr (sa_cons (se_v 0) sa_nil)) (se_un od_neg se_int)) sa_nil)))))
    (ss_cons (ss_if (st_cmp od_gt (se_v 2) (se_gi TX.c_MOST.choose_spec) (nomark _)) (ss_one ss_no) ss_nil)
    (ss_cons (ss_as (i := 3) sc_beats_of.nd (se_lst sa_nil))
    (ss_cons (ss_fo rfl (si_r1 TX.b_range (se_v 2)) (sg_n (i := 4) sc_beats_of.nd) (ss_cons (ss_as (i := 5) sc_beats_of.nd (se_call A.a_ring_beat hr (sa_cons (se_v 0) (sa_cons (se_v 1) (sa_cons (se_v 4) sa_nil)))))
    (ss_one (ss_if (st_cmp (od_nin (hu65 hr)) (se_v 5) (se_v 3) (by rfl)) (ss_one (ss_ex (se_bk PySem.F.plainAttrs_list PySem.F.slot_list_append PySem.F.type_list_append mt_append okL_ok md_append (se_v 3) (sa_cons (se_v 5) sa_nil)))) ss_nil))))
    (ss_one (ss_rt (se_v 3)))))))
abbrev NN_meeting : List Str := ["books", "words", "beat", "rung", "rows", "book", "some", "long", "both", "first", "whole", "found", "here", "word", "other", "row"]
theorem sc_meeting : FnScope NN_meeting ["books", "words", "beat"] (defScope s_meeting) := ⟨rfl, rfl, rfl, by decide +kernel, rfl, by decide +kernel, by decide +kernel⟩
theorem w_meeting {fa : Addr} {fd : FuncData} (TX : Txt K mg κ) (A : All P w K mg base κ n) (F : FunZ K "meeting" "meeting" s_meeting [0] fa fd) : FnOk P w K mg base CX0 (n + 1) fa fd ["books", "words", "beat"] (spD K κ (List.length (["books", "words", "beat"] : List Str)) (runFn (ctx T n) f_meeting)) := by
  refine fnOk_of F sc_meeting rfl rfl fun cdv Ar outer s H E hr => ?_
  exact
    (ss_cons (ss_lct (j := 3) rfl (sw_true rfl rfl rfl (by decide +kernel)) sc_meeting.nd (si_zp TX.b_zip (se_v 0) (se_v 1)) (blkOk_by (N := NN_meeting) (sc := defScope s_meeting) (own := [(("book" : Str), 5), (("word" : Str), 13)]) (by decide +kernel)) (fun _ _ _ _ _ => (sgs_cons (i := 5) sc_meeting.nd (sgs_cons (i := 13) sc_meeting.nd sgs_nil))) (fun _ _ _ _ _ => sts_nil) (fun _ _ _ _ _ => (se_call A.a_beats_of hr (sa_cons (se_v 5) (sa_cons (se_v 13) sa_nil)))))
    (ss_cons (ss_as (i := 4) sc_meeting.nd (se_lst (sa_cons (se_tup (sa_cons se_int (sa_cons se_int sa_nil))) sa_nil)))
    (ss_cons (ss_fo rfl (si_zp TX.b_zip (se_v 0) (se_v 3)) (sg_t rfl (sgs_cons (i := 5) sc_meeting.nd (sgs_cons (i := 6) sc_meeting.nd sgs_nil))) (ss_cons (ss_as (i := 7) sc_meeting.nd (se_ix (hu_of hr) (se_call A.a_lengths hr (sa_cons (se_v 5) sa_nil)) (se_un od_neg se_int)))
    (ss_cons (ss_as (i := 8) sc_meeting.nd (se_lst sa_nil))
    (ss_cons (ss_fo rfl (si_a (se_v 4)) (sg_t rfl (sgs_cons (i := 9) sc_meeting.nd (sgs_cons (i := 10) sc_meeting.nd sgs_nil))) (ss_one (ss_ex (se_bk PySem.F.plainAttrs_list PySem.F.slot_list_extend PySem.F.type_list_extend mt_extend okL_ok md_extend (se_v 8) (sa_cons (se_lc rfl sc_meeting.nd (si_a (se_v 6)) (blkOk_by (N := NN_meeting) (sc := defScope s_meeting) (own := [(("other" : Str), 14)]) (by decide +kernel)) (fun _ _ _ _ _ => pg_name (i := 14) sc_meeting.nd rfl (by first | exact Or.inl rfl | exact Or.inr rfl)) (fun _ _ _ _ _ => sts_nil) (fun _ _ _ _ _ => (se_call A.a_joined hr (sa_cons (se_v 9) (sa_cons (se_v 10) (sa_cons (se_v 14) (sa_cons (se_v 7) sa_nil))))))) sa_nil)))))
    (ss_one (ss_lc (j := 4) rfl (sw_true rfl rfl rfl (by decide +kernel)) sc_meeting.nd (si_a (se_v 8)) (blkOk_by (N := NN_meeting) (sc := defScope s_meeting) (own := [(("row" : Str), 15)]) (by decide +kernel)) (fun _ _ _ _ _ => pg_name (i := 15) sc_meeting.nd rfl (by first | exact Or.inl rfl | exact Or.inr rfl)) (fun _ _ _ _ _ => sts_one (st_cmp od_notN (se_v 15) se_non (nomark _))) (fun _ _ _ _ _ => (se_v 15))))))))
    (ss_cons (ss_as (i := 11) sc_meeting.nd se_non)
    (ss_cons (ss_fo rfl (si_a (se_v 4)) (sg_t rfl (sgs_cons (i := 9) sc_meeting.nd (sgs_cons (i := 10) sc_meeting.nd sgs_nil))) (ss_cons (ss_as (i := 12) sc_meeting.nd (se_op od_add (se_v 9) (se_op od_mul (se_bf (cd_max rfl) TX.b_max boot_max_ (sa_cons se_int (sa_cons (se_op od_div (se_op od_sub (se_op od_add (se_op od_sub (se_v 2) (se_v 9)) (se_v 10)) se_int) (se_v 10)) sa_nil))) (se_v 10))))
    (ss_one (ss_if (st_w (sw_or (st_cmp od_isN (se_v 11) se_non (nomark _)) (sw_or1 (st_cmp od_lt (se_v 12) (se_v 11) (nomark _))))) (ss_one (ss_as (i := 11) sc_meeting.nd (se_v 12))) ss_nil))))
    (ss_one (ss_rt (se_v 11))))))))
abbrev NN_rings : List Str := ["book", "beat", "guide"]
theorem sc_rings : FnScope NN_rings ["book", "beat"] (defScope s_rings) := ⟨rfl, rfl, rfl, by decide +kernel, rfl, by decide +kernel, by decide +kernel⟩
theorem w_rings {fa : Addr} {fd : FuncData} (TX : Txt K mg κ) (A : All P w K mg base κ n) (F : FunZ K "rings" "rings" s_rings [] fa fd) : FnOk P w K mg base CX0 (n + 1) fa fd ["book", "beat"] (spD K κ (List.length (["book", "beat"] : List Str)) (runFn (ctx T n) f_rings)) := by
  refine fnOk_of F sc_rings rfl rfl fun cdv Ar outer s H E hr => ?_
  exact
    (ss_cons (ss_as (i := 2) sc_rings.nd (se_makeA A.k_Guide hr (sa_cons (se_v 0) sa_nil)))
    (ss_cons (ss_if (st_v (se_meth A.m_Guide_look_at hr (se_v 2) (sa_cons (se_v 1) sa_nil))) (ss_one (ss_rt (se_lst sa_nil))) ss_nil)
    (ss_one (ss_rt (se_meth A.m_Guide_words hr (se_v 2) (sa_cons (se_op od_sub (se_bf cd_len TX.b_len boot_len_ (sa_cons (se_ix (hu_of hr) (se_v 0) se_int) sa_nil)) se_int) (sa_cons (se_v 1) sa_nil)))))))
abbrev NN_turn_of : List Str := ["book", "beat"]
theorem sc_turn_of : FnScope NN_turn_of ["book", "beat"] (defScope s_turn_of) := ⟨rfl, rfl, rfl, by decide +kernel, rfl, by decide +kernel, by decide +kernel⟩
theorem w_turn_of {fa : Addr} {fd : FuncData} (TX : Txt K mg κ) (A : All P w K mg base κ n) (F : FunZ K "turn_of" "turn_of" s_turn_of [] fa fd) : FnOk P w K mg base CX0 (n + 1) fa fd ["book", "beat"] (spD K κ (List.length (["book", "beat"] : List Str)) (runFn (ctx T n) f_turn_of)) := by
  refine fnOk_of F sc_turn_of rfl rfl fun cdv Ar outer s H E hr => ?_
  exact
    (ss_cons (ss_if (st_cmp od_lt (se_v 1) se_int (nomark _)) (ss_one ss_no) ss_nil)
    (ss_one (ss_rt (se_bf cd_dvm TX.b_divmod boot_divmod_ (sa_cons (se_v 1) (sa_cons (se_ix (hu_of hr) (se_call A.a_lengths hr (sa_cons (se_v 0) sa_nil)) (se_un od_neg se_int)) sa_nil))))))
abbrev NN_rings_ever : List Str := ["book", "beat"]
theorem sc_rings_ever : FnScope NN_rings_ever ["book", "beat"] (defScope s_rings_ever) := ⟨rfl, rfl, rfl, by decide +kernel, rfl, by decide +kernel, by decide +kernel⟩
theorem w_rings_ever {fa : Addr} {fd : FuncData} (TX : Txt K mg κ) (A : All P w K mg base κ n) (F : FunZ K "rings_ever" "rings_ever" s_rings_ever [] fa fd) : FnOk P w K mg base CX0 (n + 1) fa fd ["book", "beat"] (spD K κ (List.length (["book", "beat"] : List Str)) (runFn (ctx T n) f_rings_ever)) := by
  refine fnOk_of F sc_rings_ever rfl rfl fun cdv Ar outer s H E hr => ?_
  exact
    (ss_one (ss_rt (se_call A.a_rings hr (sa_cons (se_v 0) (sa_cons (se_ix (hu_of hr) (se_call A.a_turn_of hr (sa_cons (se_v 0) (sa_cons (se_v 1) sa_nil))) se_int) sa_nil)))))
abbrev NN_l_cell_at : List Str := ["script", "k"]
theorem sc_l_cell_at : FnScope NN_l_cell_at ["script", "k"] (defScope s_l_cell_at) := ⟨rfl, rfl, rfl, by decide +kernel, rfl, by decide +kernel, by decide +kernel⟩
theorem w_l_cell_at {fa : Addr} {fd : FuncData} (TX : Txt K mg κ) (A : All P w K mg base κ n) (F : FunZ K "_law_cell_at" "_law_cell_at" s_l_cell_at [] fa fd) : FnOk P w K mg base CX0 (n + 1) fa fd ["script", "k"] (spD K κ (List.length (["script", "k"] : List Str)) (runFn (ctx T n) f_l_cell_at)) := by
  refine fnOk_of F sc_l_cell_at rfl rfl fun cdv Ar outer s H E hr => ?_
  exact
    (ss_cons (ss_if (st_cmp od_lt (se_v 1) (se_bf cd_len TX.b_len boot_len_ (sa_cons (se_v 0) sa_nil)) (nomark _)) (ss_one (ss_rt (se_ix (hu_of hr) (se_v 0) (se_v 1)))) ss_nil)
    (ss_one (ss_rt se_int)))
abbrev NN_l_big : List Str := ["cell", "most"]
theorem sc_l_big : FnScope NN_l_big ["cell", "most"] (defScope s_l_big) := ⟨rfl, rfl, rfl, by decide +kernel, rfl, by decide +kernel, by decide +kernel⟩
theorem w_l_big {fa : Addr} {fd : FuncData} (TX : Txt K mg κ) (A : All P w K mg base κ n) (F : FunZ K "_law_big" "_law_big" s_l_big [] fa fd) : FnOk P w K mg base CX0 (n + 1) fa fd ["cell", "most"] (spD K κ (List.length (["cell", "most"] : List Str)) (runFn (ctx T n) f_l_big)) := by
  refine fnOk_of F sc_l_big rfl rfl fun cdv Ar outer s H E hr => ?_
  exact
    (ss_cons (ss_if (st_cmp (od_eq hr.units) (se_op od_mod (se_v 0) se_int) se_int (nomark _)) (ss_one (ss_rt (se_op od_mod (se_op od_mod (se_op od_div (se_v 0) se_int) se_int) (se_v 1)))) ss_nil)
    (ss_cons (ss_if (st_cmp (od_eq hr.units) (se_op od_mod (se_v 0) se_int) se_int (nomark _)) (ss_one (ss_rt (se_op od_mod (se_op od_mod (se_op od_div (se_v 0) se_int) se_int) (se_v 1)))) ss_nil)
    (ss_one (ss_rt (se_op od_mod (se_op od_mul (se_op od_div (se_v 0) se_int) se_int) (se_v 1))))))
abbrev NN_l_book : List Str := ["cells", "share", "keep", "waits", "rungs", "parts", "cell"]
theorem sc_l_book : FnScope NN_l_book ["cells", "share", "keep"] (defScope s_l_book) := ⟨rfl, rfl, rfl, by decide +kernel, rfl, by decide +kernel, by decide +kernel⟩
theorem w_l_book {fa : Addr} {fd : FuncData} (TX : Txt K mg κ) (A : All P w K mg base κ n) (F : FunZ K "_law_book" "_law_book" s_l_book [] fa fd) : FnOk P w K mg base CX0 (n + 1) fa fd ["cells", "share", "keep"] (spD K κ (List.length (["cells", "share", "keep"] : List Str)) (runFn (ctx T n) f_l_book)) := by
  refine fnOk_of F sc_l_book rfl rfl fun cdv Ar outer s H E hr => ?_
  exact
    (ss_cons (ss_lc (j := 3) rfl (sw_true rfl rfl rfl (by decide +kernel)) sc_l_book.nd (si_a (se_v 0)) (blkOk_by (N := NN_l_book) (sc := defScope s_l_book) (own := [(("cell" : Str), 6)]) (by decide +kernel)) (fun _ _ _ _ _ => pg_name (i := 6) sc_l_book.nd rfl (by first | exact Or.inl rfl | exact Or.inr rfl)) (fun _ _ _ _ _ => sts_nil) (fun _ _ _ _ _ => (se_op od_add se_int (se_call A.a__law_big hr (sa_cons (se_v 6) (sa_cons (se_op od_pow se_int se_int) sa_nil))))))
    (ss_cons (ss_st (hu_of hr) (se_v 3) se_int (se_op od_add (se_ix (hu_of hr) (se_v 3) se_int) (se_op od_mod (se_op od_sub (se_op od_sub se_int (se_bf (cd_sum rfl) TX.b_sum boot_sum_ (sa_cons (se_v 3) sa_nil))) se_int) (se_v 1))))
    (ss_cons (ss_as (i := 4) sc_l_book.nd (se_lst (sa_cons (se_tup (sa_cons se_str (sa_cons se_str (sa_cons se_int sa_nil)))) (sa_cons (se_tup (sa_cons se_str (sa_cons se_str (sa_cons se_int sa_nil)))) sa_nil))))
    (ss_cons (ss_if (st_cmp od_notN (se_v 2) se_non (nomark _)) (ss_one (ss_st (hu_of hr) (se_v 4) (se_op od_sub se_int (se_v 2)) (se_tup (sa_cons se_str (sa_cons se_int sa_nil))))) ss_nil)
    (ss_cons (ss_as (i := 5) sc_l_book.nd (se_lst (sa_cons (se_tup (sa_cons se_str (sa_cons (se_tup (sa_cons se_str (sa_cons (se_ix (hu_of hr) (se_v 3) se_int) sa_nil))) sa_nil))) (sa_cons (se_tup (sa_cons se_str (sa_cons (se_ix (hu_of hr) (se_v 4) se_int) sa_nil))) (sa_cons (se_tup (sa_cons se_str (sa_cons (se_tup (sa_cons se_str (sa_cons (se_ix (hu_of hr) (se_v 3) se_int) sa_nil))) sa_nil))) (sa_cons (se_tup (sa_cons se_str (sa_cons (se_ix (hu_of hr) (se_v 4) se_int) sa_nil))) sa_nil))))))
    (ss_cons (ss_as (i := 5) sc_l_book.nd (se_op od_add (se_v 5) (se_lst (sa_cons (se_tup (sa_cons se_str (sa_cons (se_tup (sa_cons se_str (sa_cons (se_ix (hu_of hr) (se_v 3) se_int) sa_nil))) sa_nil))) (sa_cons (se_tup (sa_cons se_str (sa_cons (se_tup (sa_cons se_str (sa_cons (se_tup (sa_cons se_str (sa_cons se_str (sa_cons se_str (sa_cons se_str (sa_cons se_str sa_nil)))))) sa_nil))) sa_nil))) sa_nil)))))
    (ss_one (ss_rt (se_tup (sa_cons (se_lst (sa_cons (se_tup (sa_cons se_str (sa_cons se_int sa_nil))) sa_nil)) (sa_cons (se_v 5) sa_nil)))))))))))
abbrev NN_l_books : List Str := ["script", "keeps", "books", "k", "cells", "share", "j"]
theorem sc_l_books : FnScope NN_l_books ["script", "keeps"] (defScope s_l_books) := ⟨rfl, rfl, rfl, by decide +kernel, rfl, by decide +kernel, by decide +kernel⟩
theorem w_l_books {fa : Addr} {fd : FuncData} (TX : Txt K mg κ) (A : All P w K mg base κ n) (F : FunZ K "_law_books" "_law_books" s_l_books [] fa fd) : FnOk P w K mg base CX0 (n + 1) fa fd ["script", "keeps"] (spD K κ (List.length (["script", "keeps"] : List Str)) (runFn (ctx T n) f_l_books)) := by
  refine fnOk_of F sc_l_books rfl rfl fun cdv Ar outer s H E hr => ?_
  exact
    (ss_cons (ss_as (i := 2) sc_l_books.nd (se_lst sa_nil))
    (ss_cons (ss_fo rfl (si_r1 TX.b_range (se_bf cd_len TX.b_len boot_len_ (sa_cons (se_v 1) sa_nil))) (sg_n (i := 3) sc_l_books.nd) (ss_cons (ss_lc (j := 4) rfl (sw_true rfl rfl rfl (by decide +kernel)) sc_l_books.nd (si_r1 TX.b_range se_int) (blkOk_by (N := NN_l_books) (sc := defScope s_l_books) (own := [(("j" : Str), 6)]) (by decide +kernel)) (fun _ _ _ _ _ => pg_name (i := 6) sc_l_books.nd rfl (by first | exact Or.inl rfl | exact Or.inr rfl)) (fun _ _ _ _ _ => sts_nil) (fun _ _ _ _ _ => (se_call A.a__law_cell_at hr (sa_cons (se_v 0) (sa_cons (se_op od_add (se_op od_add se_int (se_op od_mul se_int (se_v 3))) (se_v 6)) sa_nil)))))
    (ss_cons (ss_as (i := 5) sc_l_books.nd (se_ix (hu_of hr) (se_lst (sa_cons se_int (sa_cons se_int (sa_cons se_int (sa_cons se_int (sa_cons se_int sa_nil)))))) (se_op od_mod (se_call A.a__law_cell_at hr (sa_cons (se_v 0) (sa_cons (se_op od_add se_int (se_op od_mul se_int (se_v 3))) sa_nil))) se_int)))
    (ss_one (ss_ex (se_bk PySem.F.plainAttrs_list PySem.F.slot_list_append PySem.F.type_list_append mt_append okL_ok md_append (se_v 2) (sa_cons (se_call A.a__law_book hr (sa_cons (se_v 4) (sa_cons (se_v 5) (sa_cons (se_ix (hu_of hr) (se_v 1) (se_v 3)) sa_nil)))) sa_nil)))))))
    (ss_one (ss_rt (se_v 2)))))
abbrev NN_l_least : List Str := ["script", "many", "words", "beat", "found", "choice", "keeps", "here", "k"]
theorem sc_l_least : FnScope NN_l_least ["script", "many", "words", "beat"] (defScope s_l_least) := ⟨rfl, rfl, rfl, by decide +kernel, rfl, by decide +kernel, by decide +kernel⟩
theorem w_l_least {fa : Addr} {fd : FuncData} (TX : Txt K mg κ) (A : All P w K mg base κ n) (F : FunZ K "_law_least" "_law_least" s_l_least [] fa fd) : FnOk P w K mg base CX0 (n + 1) fa fd ["script", "many", "words", "beat"] (spD K κ (List.length (["script", "many", "words", "beat"] : List Str)) (runFn (ctx T n) f_l_least)) := by
  refine fnOk_of F sc_l_least rfl rfl fun cdv Ar outer s H E hr => ?_
  exact
    (ss_cons (ss_as (i := 4) sc_l_least.nd se_non)
    (ss_cons (ss_fo rfl (si_r1 TX.b_range (se_op od_pow se_int se_int)) (sg_n (i := 5) sc_l_least.nd) (ss_one (ss_if (st_cmp od_lt (se_v 5) (se_ix (hu_of hr) (se_lst (sa_cons se_int (sa_cons se_int (sa_cons se_int (sa_cons se_int sa_nil))))) (se_v 1)) (nomark _)) (ss_cons (ss_lc (j := 6) rfl (sw_true rfl rfl rfl (by decide +kernel)) sc_l_least.nd (si_r1 TX.b_range (se_v 1)) (blkOk_by (N := NN_l_least) (sc := defScope s_l_least) (own := [(("k" : Str), 8)]) (by decide +kernel)) (fun _ _ _ _ _ => pg_name (i := 8) sc_l_least.nd rfl (by first | exact Or.inl rfl | exact Or.inr rfl)) (fun _ _ _ _ _ => sts_nil) (fun _ _ _ _ _ => (se_op od_band (se_op od_shr (se_v 5) (se_v 8)) se_int)))
    (ss_cons (ss_as (i := 7) sc_l_least.nd (se_call A.a_meeting hr (sa_cons (se_call A.a__law_books hr (sa_cons (se_v 0) (sa_cons (se_v 6) sa_nil))) (sa_cons (se_v 2) (sa_cons (se_v 3) sa_nil)))))
    (ss_one (ss_if (st_w (sw_and (st_cmp od_notN (se_v 7) se_non (nomark _)) (sw_and1 (st_w (sw_or (st_cmp od_isN (se_v 4) se_non (nomark _)) (sw_or1 (st_cmp od_lt (se_v 7) (se_v 4) (nomark _)))))))) (ss_one (ss_as (i := 4) sc_l_least.nd (se_v 7))) ss_nil)))) ss_nil)))
    (ss_one (ss_rt (se_v 4)))))
abbrev NN_law : List Str := ["script", "many", "books", "words", "cell", "beat", "found", "due", "book"]
theorem sc_law : FnScope NN_law ["script"] (defScope s_law) := ⟨rfl, rfl, rfl, by decide +kernel, rfl, by decide +kernel, by decide +kernel⟩
theorem w_law {fa : Addr} {fd : FuncData} (TX : Txt K mg κ) (A : All P w K mg base κ n) (F : FunZ K "law" "law" s_law [] fa fd) : FnOk P w K mg base CX0 (n + 1) fa fd ["script"] (spD K κ (List.length (["script"] : List Str)) (runFn (ctx T n) f_law)) := by
  refine fnOk_of F sc_law rfl rfl fun cdv Ar outer s H E hr => ?_
  exact
    (ss_cons (ss_as (i := 1) sc_law.nd (se_op od_add se_int (se_op od_mod (se_call A.a__law_cell_at hr (sa_cons (se_v 0) (sa_cons se_int sa_nil))) se_int)))
    (ss_cons (ss_as (i := 2) sc_law.nd (se_call A.a__law_books hr (sa_cons (se_v 0) (sa_cons (se_op od_mul (se_lst (sa_cons se_non sa_nil)) (se_v 1)) sa_nil))))
    (ss_cons (ss_as (i := 3) sc_law.nd (se_op od_mul (se_lst (sa_cons se_str sa_nil)) (se_v 1)))
    (ss_cons (ss_fo rfl (si_a (se_op od_add (se_lst (sa_cons se_int sa_nil)) (se_sl (se_v 0) (so_s se_int) (so_s se_int)))) (sg_n (i := 4) sc_law.nd) (ss_cons (ss_as (i := 5) sc_law.nd (se_call A.a__law_big hr (sa_cons (se_op od_div (se_v 4) se_int) (sa_cons (se_ix (hu_of hr) (se_lst (sa_cons se_int (sa_cons (se_op od_pow se_int se_int) sa_nil))) (se_op od_mod (se_v 4) se_int)) sa_nil))))
    (ss_cons (ss_as (i := 6) sc_law.nd (se_call A.a_meeting hr (sa_cons (se_v 2) (sa_cons (se_v 3) (sa_cons (se_v 5) sa_nil)))))
    (ss_cons (ss_as (i := 7) sc_law.nd (se_call A.a__law_least hr (sa_cons (se_v 0) (sa_cons (se_v 1) (sa_cons (se_v 3) (sa_cons (se_v 5) sa_nil))))))
    (ss_cons (ss_if (st_w (sw_or (st_w (sw_and (st_cmp od_isN (se_v 7) se_non (nomark _)) (sw_and1 (st_cmp od_notN (se_v 6) se_non (nomark _))))) (sw_or1 (st_w (sw_and (st_cmp od_notN (se_v 7) se_non (nomark _)) (sw_and1 (st_w (sw_or (st_not (st_v (se_is (se_v 6) TX.b_isinstance TX.b_int boot_int_))) (sw_or1 (st_cmp (od_ne hr.units) (se_v 6) (se_v 7) (nomark _))))))))))) (ss_one (ss_rt se_bl)) ss_nil)
    (ss_one (ss_fo rfl (si_a (se_v 2)) (sg_n (i := 8) sc_law.nd) (ss_one (ss_if (st_w (sw_and (st_cmp od_notN (se_v 6) se_non (nomark _)) (sw_and1 (st_cmp (od_ne hr.units) (se_call A.a_rings_ever hr (sa_cons (se_v 8) (sa_cons (se_v 6) sa_nil))) (se_lst (sa_cons se_str sa_nil)) (nomark _))))) (ss_one (ss_rt se_bl)) ss_nil)))))))))
    (ss_one (ss_rt (se_cmp (od_eq hr.units) (se_calld A.a_meeting hr (sa_cons (se_v 2) (sa_cons (se_v 3) sa_nil))) (se_call A.a_meeting hr (sa_cons (se_v 2) (sa_cons (se_v 3) (sa_cons se_int sa_nil)))) (nomark _))))))))
theorem all_n (TX : Txt K mg κ) (Fs : Funs K mg κ) : ∀ n, All P w K mg base κ n
  | 0 => ⟨fnF_zero Fs.m__wall, fnF_zero Fs.m_numbers_of, fnF_zero Fs.m_named, fnF_zero Fs.m_moved, fnF_zero Fs.m_length_of, fnF_zero Fs.m_look_at_side, fnF_zero Fs.m_lengths, fnF_zero Fs.m_ends, fnF_zero Fs.m_inner_parts, fnF_zero Fs.m_look_at_beat, fnF_zero Fs.m_ring_count, fnF_zero Fs.m_first_beyond, fnF_zero Fs.m_ring_beat, fnF_zero Fs.m_whole_steps, fnF_zero Fs.m_joined, fnF_zero Fs.m_beats_of, fnF_zero Fs.m_meeting, fnF_zero Fs.m_rings, fnF_zero Fs.m_turn_of, fnF_zero Fs.m_rings_ever, fnF_zero Fs.m__law_cell_at, fnF_zero Fs.m__law_big, fnF_zero Fs.m__law_book, fnF_zero Fs.m__law_books, fnF_zero Fs.m__law_least, (mem1 (meF_zero Fs.t_Rings_ahead)), (mem1 (meF_zero Fs.t_Guide_look_at)), (mem1 (meF_zero Fs.t_Guide_words)), (mem1 (meF_zero Fs.t_Rings_part_rung)), mkF_zero Fs.j_Rings, ⟨.inl rfl⟩, mkF_zero Fs.j_Guide, ⟨.inl rfl⟩, trivial⟩
  | n + 1 =>
    let A := all_n TX Fs n
    ⟨fnF_succ Fs.m__wall rfl rfl fun fa fd F => w__wall TX A F,
    fnF_succ Fs.m_numbers_of rfl rfl fun fa fd F => w_numbers_of TX A F,
    fnF_succ Fs.m_named rfl rfl fun fa fd F => w_named TX A F,
    fnF_succ Fs.m_moved rfl rfl fun fa fd F => w_moved TX A F,
    fnF_succ Fs.m_length_of rfl rfl fun fa fd F => w_length_of TX A F,
    fnF_succ Fs.m_look_at_side rfl rfl fun fa fd F => w_look_at_side TX A F,
    fnF_succ Fs.m_lengths rfl rfl fun fa fd F => w_lengths TX A F,
    fnF_succ Fs.m_ends rfl rfl fun fa fd F => w_ends TX A F,
    fnF_succ Fs.m_inner_parts rfl rfl fun fa fd F => w_inner_parts TX A F,
    fnF_succ Fs.m_look_at_beat rfl rfl fun fa fd F => w_look_at_beat TX A F,
    fnF_succ Fs.m_ring_count rfl rfl fun fa fd F => w_ring_count TX A F,
    fnF_succ Fs.m_first_beyond rfl rfl fun fa fd F => w_first_beyond TX A F,
    fnF_succ Fs.m_ring_beat rfl rfl fun fa fd F => w_ring_beat TX A F,
    fnF_succ Fs.m_whole_steps rfl rfl fun fa fd F => w_whole_steps TX A F,
    fnF_succ Fs.m_joined rfl rfl fun fa fd F => w_joined TX A F,
    fnF_succ Fs.m_beats_of rfl rfl fun fa fd F => w_beats_of TX A F,
    fnF_succ Fs.m_meeting rfl rfl fun fa fd F => w_meeting TX A F,
    fnF_succ Fs.m_rings rfl rfl fun fa fd F => w_rings TX A F,
    fnF_succ Fs.m_turn_of rfl rfl fun fa fd F => w_turn_of TX A F,
    fnF_succ Fs.m_rings_ever rfl rfl fun fa fd F => w_rings_ever TX A F,
    fnF_succ Fs.m__law_cell_at rfl rfl fun fa fd F => w_l_cell_at TX A F,
    fnF_succ Fs.m__law_big rfl rfl fun fa fd F => w_l_big TX A F,
    fnF_succ Fs.m__law_book rfl rfl fun fa fd F => w_l_book TX A F,
    fnF_succ Fs.m__law_books rfl rfl fun fa fd F => w_l_books TX A F,
    fnF_succ Fs.m__law_least rfl rfl fun fa fd F => w_l_least TX A F,
    (mem1 (meF_succ Fs.t_Rings_ahead rfl rfl fun fa fd F => w_m_Rings_ahead TX A F)),
    (mem1 (meF_succ Fs.t_Guide_look_at rfl rfl fun fa fd F => w_m_Guide_look_at TX A F)),
    (mem1 (meF_succ Fs.t_Guide_words rfl rfl fun fa fd F => w_m_Guide_words TX A F)),
    (mem1 (meF_succ Fs.t_Rings_part_rung rfl rfl fun fa fd F => w_m_Rings_part_rung TX A F)),
    mkF_succ Fs.j_Rings rfl rfl fun fa fd F => w_m_Rings_init TX A F,
    ⟨.inr ⟨n, rfl, A.i_Rings⟩⟩,
    mkF_succ Fs.j_Guide rfl rfl fun fa fd F => w_m_Guide_init TX A F,
    ⟨.inr ⟨n, rfl, A.i_Guide⟩⟩,
    trivial⟩
end
abbrev kap (C_Rings C_Guide : Addr) : Nat → Addr := fun c => match c with
  | 6 => C_Rings
  | 1 => C_Guide
  | _ => 0
theorem all_mk {l : PySem.W.OpenLaw} {w : World} {K : PySem.W.Frag} {h : Heap} {mg : Str → Option Value} {fa f1 f2 f3 f4 f5 f6 f7 f8 f9 f10 f11 f12 f13 f14 f15 f16 f17 f18 f19 f20 f21 f22 f23 f24 f25 f26 f27 f28 f29 f30 f31 f32 f33 f34 f35 f36 C_Rings C_Guide : Addr} (X : K.In h) (G : h.Ns mainGlobals mg) (hfa : mg "law" = some (.ref fa))
    {od1 an1 od2 an2 od3 an3 od4 an4 od5 an5 od6 an6 od7 an7 od8 an8 od9 an9 od10 an10 od11 an11 od12 an12 od13 an13 od14 an14 od15 an15 od16 an16 od17 an17 od18 an18 od19 an19 od20 an20 od21 an21 od22 an22 od23 an23 od24 an24 od25 an25 od26 an26 od27 an27 od28 an28 od29 an29 od30 an30 od31 an31 od32 an32 od33 an33 od34 an34 od35 an35 od36 an36 : Option Addr} {sl1 sl2 sl3 sl4 sl5 sl6 sl7 sl8 sl9 sl10 sl11 sl12 sl13 sl14 sl15 sl16 sl17 sl18 sl19 sl20 sl21 sl22 sl23 sl24 sl25 sl26 sl27 sl28 sl29 sl30 sl31 sl32 sl33 sl34 sl35 sl36 : Array (Option Value)} {oc1 kV1 dc1 pm1 cd1 ct1 oc2 kV2 dc2 pm2 cd2 ct2 oc3 kV3 dc3 pm3 cd3 ct3 oc4 kV4 dc4 pm4 cd4 ct4 oc5 kV5 dc5 pm5 cd5 ct5 oc6 kV6 dc6 pm6 cd6 ct6 oc7 kV7 dc7 pm7 cd7 ct7 oc8 kV8 dc8 pm8 cd8 ct8 oc9 kV9 dc9 pm9 cd9 ct9 oc10 kV10 dc10 pm10 cd10 ct10 oc11 kV11 dc11 pm11 cd11 ct11 oc12 kV12 dc12 pm12 cd12 ct12 oc13 kV13 dc13 pm13 cd13 ct13 oc14 kV14 dc14 pm14 cd14 ct14 oc15 kV15 dc15 pm15 cd15 ct15 oc16 kV16 dc16 pm16 cd16 ct16 oc17 kV17 dc17 pm17 cd17 ct17 oc18 kV18 dc18 pm18 cd18 ct18 oc19 kV19 dc19 pm19 cd19 ct19 oc20 kV20 dc20 pm20 cd20 ct20 oc21 kV21 dc21 pm21 cd21 ct21 oc22 kV22 dc22 pm22 cd22 ct22 oc23 kV23 dc23 pm23 cd23 ct23 oc24 kV24 dc24 pm24 cd24 ct24 oc25 kV25 dc25 pm25 cd25 ct25 oc26 kV26 dc26 pm26 cd26 ct26 oc27 kV27 dc27 pm27 cd27 ct27 oc28 kV28 dc28 pm28 cd28 ct28 oc29 kV29 dc29 pm29 cd29 ct29 oc30 kV30 dc30 pm30 cd30 ct30 oc31 kV31 dc31 pm31 cd31 ct31 oc32 kV32 dc32 pm32 cd32 ct32 oc33 kV33 dc33 pm33 cd33 ct33 oc34 kV34 dc34 pm34 cd34 ct34 oc35 kV35 dc35 pm35 cd35 ct35 oc36 kV36 dc36 pm36 cd36 ct36 : Value}
    (a1 : PySem.W.nsIn K mainGlobals "_wall" = some (some (.ref f1))) (l1 : K.lookup f1 = some ⟨oc1, od1, .func (PySem.W.fnOf "_wall" "_wall" (defArgs s__wall) (defBody s__wall) (defScope s__wall) .none kV1 dc1 pm1 an1 cd1 ct1), sl1⟩) (c1 : PySem.W.codeIn K cd1 "_wall" = true) (k1 : PySem.W.keepIn K (.ref f1) = true)
    (a2 : PySem.W.nsIn K mainGlobals "numbers_of" = some (some (.ref f2))) (l2 : K.lookup f2 = some ⟨oc2, od2, .func (PySem.W.fnOf "numbers_of" "numbers_of" (defArgs s_numbers_of) (defBody s_numbers_of) (defScope s_numbers_of) .none kV2 dc2 pm2 an2 cd2 ct2), sl2⟩) (c2 : PySem.W.codeIn K cd2 "numbers_of" = true) (k2 : PySem.W.keepIn K (.ref f2) = true)
    (a3 : PySem.W.nsIn K mainGlobals "named" = some (some (.ref f3))) (l3 : K.lookup f3 = some ⟨oc3, od3, .func (PySem.W.fnOf "named" "named" (defArgs s_named) (defBody s_named) (defScope s_named) .none kV3 dc3 pm3 an3 cd3 ct3), sl3⟩) (c3 : PySem.W.codeIn K cd3 "named" = true) (k3 : PySem.W.keepIn K (.ref f3) = true)
    (a4 : PySem.W.nsIn K mainGlobals "moved" = some (some (.ref f4))) (l4 : K.lookup f4 = some ⟨oc4, od4, .func (PySem.W.fnOf "moved" "moved" (defArgs s_moved) (defBody s_moved) (defScope s_moved) .none kV4 dc4 pm4 an4 cd4 ct4), sl4⟩) (c4 : PySem.W.codeIn K cd4 "moved" = true) (k4 : PySem.W.keepIn K (.ref f4) = true)
    (a5 : PySem.W.nsIn K mainGlobals "length_of" = some (some (.ref f5))) (l5 : K.lookup f5 = some ⟨oc5, od5, .func (PySem.W.fnOf "length_of" "length_of" (defArgs s_length_of) (defBody s_length_of) (defScope s_length_of) .none kV5 dc5 pm5 an5 cd5 ct5), sl5⟩) (c5 : PySem.W.codeIn K cd5 "length_of" = true) (k5 : PySem.W.keepIn K (.ref f5) = true)
    (a6 : PySem.W.nsIn K mainGlobals "look_at_side" = some (some (.ref f6))) (l6 : K.lookup f6 = some ⟨oc6, od6, .func (PySem.W.fnOf "look_at_side" "look_at_side" (defArgs s_look_at_side) (defBody s_look_at_side) (defScope s_look_at_side) .none kV6 dc6 pm6 an6 cd6 ct6), sl6⟩) (c6 : PySem.W.codeIn K cd6 "look_at_side" = true) (k6 : PySem.W.keepIn K (.ref f6) = true)
    (a7 : PySem.W.nsIn K mainGlobals "lengths" = some (some (.ref f7))) (l7 : K.lookup f7 = some ⟨oc7, od7, .func (PySem.W.fnOf "lengths" "lengths" (defArgs s_lengths) (defBody s_lengths) (defScope s_lengths) .none kV7 dc7 pm7 an7 cd7 ct7), sl7⟩) (c7 : PySem.W.codeIn K cd7 "lengths" = true) (k7 : PySem.W.keepIn K (.ref f7) = true)
    (a8 : PySem.W.nsIn K mainGlobals "ends" = some (some (.ref f8))) (l8 : K.lookup f8 = some ⟨oc8, od8, .func (PySem.W.fnOf "ends" "ends" (defArgs s_ends) (defBody s_ends) (defScope s_ends) .none kV8 dc8 pm8 an8 cd8 ct8), sl8⟩) (c8 : PySem.W.codeIn K cd8 "ends" = true) (k8 : PySem.W.keepIn K (.ref f8) = true)
    (a9 : PySem.W.nsIn K mainGlobals "inner_parts" = some (some (.ref f9))) (l9 : K.lookup f9 = some ⟨oc9, od9, .func (PySem.W.fnOf "inner_parts" "inner_parts" (defArgs s_inner_parts) (defBody s_inner_parts) (defScope s_inner_parts) .none kV9 dc9 pm9 an9 cd9 ct9), sl9⟩) (c9 : PySem.W.codeIn K cd9 "inner_parts" = true) (k9 : PySem.W.keepIn K (.ref f9) = true)
    (a10 : PySem.W.nsIn K mainGlobals "look_at_beat" = some (some (.ref f10))) (l10 : K.lookup f10 = some ⟨oc10, od10, .func (PySem.W.fnOf "look_at_beat" "look_at_beat" (defArgs s_look_at_beat) (defBody s_look_at_beat) (defScope s_look_at_beat) .none kV10 dc10 pm10 an10 cd10 ct10), sl10⟩) (c10 : PySem.W.codeIn K cd10 "look_at_beat" = true) (k10 : PySem.W.keepIn K (.ref f10) = true)
    (a11 : PySem.W.nsIn K mainGlobals "ring_count" = some (some (.ref f11))) (l11 : K.lookup f11 = some ⟨oc11, od11, .func (PySem.W.fnOf "ring_count" "ring_count" (defArgs s_ring_count) (defBody s_ring_count) (defScope s_ring_count) .none kV11 dc11 pm11 an11 cd11 ct11), sl11⟩) (c11 : PySem.W.codeIn K cd11 "ring_count" = true) (k11 : PySem.W.keepIn K (.ref f11) = true)
    (a12 : PySem.W.nsIn K mainGlobals "first_beyond" = some (some (.ref f12))) (l12 : K.lookup f12 = some ⟨oc12, od12, .func (PySem.W.fnOf "first_beyond" "first_beyond" (defArgs s_first_beyond) (defBody s_first_beyond) (defScope s_first_beyond) .none kV12 dc12 pm12 an12 cd12 ct12), sl12⟩) (c12 : PySem.W.codeIn K cd12 "first_beyond" = true) (k12 : PySem.W.keepIn K (.ref f12) = true)
    {T13 : Addr} {to13 : Value} {td13 : Option Addr} {tn13 : Nat} {ts13 : Array (Option Value)} {tt13_0 : Tok}
    (a13 : PySem.W.nsIn K mainGlobals "ring_beat" = some (some (.ref f13))) (l13 : K.lookup f13 = some ⟨oc13, od13, .func (PySem.W.fnOf "ring_beat" "ring_beat" (defArgs s_ring_beat) (defBody s_ring_beat) (defScope s_ring_beat) (.ref T13) kV13 dc13 pm13 an13 cd13 ct13), sl13⟩) (c13 : PySem.W.codeIn K cd13 "ring_beat" = true) (k13 : PySem.W.keepIn K (.ref f13) = true)
    (t13 : K.lookup T13 = some ⟨to13, td13, .seq #[.int 0 tt13_0] tn13, ts13⟩)
    (a14 : PySem.W.nsIn K mainGlobals "whole_steps" = some (some (.ref f14))) (l14 : K.lookup f14 = some ⟨oc14, od14, .func (PySem.W.fnOf "whole_steps" "whole_steps" (defArgs s_whole_steps) (defBody s_whole_steps) (defScope s_whole_steps) .none kV14 dc14 pm14 an14 cd14 ct14), sl14⟩) (c14 : PySem.W.codeIn K cd14 "whole_steps" = true) (k14 : PySem.W.keepIn K (.ref f14) = true)
    (a15 : PySem.W.nsIn K mainGlobals "joined" = some (some (.ref f15))) (l15 : K.lookup f15 = some ⟨oc15, od15, .func (PySem.W.fnOf "joined" "joined" (defArgs s_joined) (defBody s_joined) (defScope s_joined) .none kV15 dc15 pm15 an15 cd15 ct15), sl15⟩) (c15 : PySem.W.codeIn K cd15 "joined" = true) (k15 : PySem.W.keepIn K (.ref f15) = true)
    (a16 : PySem.W.nsIn K mainGlobals "beats_of" = some (some (.ref f16))) (l16 : K.lookup f16 = some ⟨oc16, od16, .func (PySem.W.fnOf "beats_of" "beats_of" (defArgs s_beats_of) (defBody s_beats_of) (defScope s_beats_of) .none kV16 dc16 pm16 an16 cd16 ct16), sl16⟩) (c16 : PySem.W.codeIn K cd16 "beats_of" = true) (k16 : PySem.W.keepIn K (.ref f16) = true)
    {T17 : Addr} {to17 : Value} {td17 : Option Addr} {tn17 : Nat} {ts17 : Array (Option Value)} {tt17_0 : Tok}
    (a17 : PySem.W.nsIn K mainGlobals "meeting" = some (some (.ref f17))) (l17 : K.lookup f17 = some ⟨oc17, od17, .func (PySem.W.fnOf "meeting" "meeting" (defArgs s_meeting) (defBody s_meeting) (defScope s_meeting) (.ref T17) kV17 dc17 pm17 an17 cd17 ct17), sl17⟩) (c17 : PySem.W.codeIn K cd17 "meeting" = true) (k17 : PySem.W.keepIn K (.ref f17) = true)
    (t17 : K.lookup T17 = some ⟨to17, td17, .seq #[.int 0 tt17_0] tn17, ts17⟩)
    (a18 : PySem.W.nsIn K mainGlobals "rings" = some (some (.ref f18))) (l18 : K.lookup f18 = some ⟨oc18, od18, .func (PySem.W.fnOf "rings" "rings" (defArgs s_rings) (defBody s_rings) (defScope s_rings) .none kV18 dc18 pm18 an18 cd18 ct18), sl18⟩) (c18 : PySem.W.codeIn K cd18 "rings" = true) (k18 : PySem.W.keepIn K (.ref f18) = true)
    (a19 : PySem.W.nsIn K mainGlobals "turn_of" = some (some (.ref f19))) (l19 : K.lookup f19 = some ⟨oc19, od19, .func (PySem.W.fnOf "turn_of" "turn_of" (defArgs s_turn_of) (defBody s_turn_of) (defScope s_turn_of) .none kV19 dc19 pm19 an19 cd19 ct19), sl19⟩) (c19 : PySem.W.codeIn K cd19 "turn_of" = true) (k19 : PySem.W.keepIn K (.ref f19) = true)
    (a20 : PySem.W.nsIn K mainGlobals "rings_ever" = some (some (.ref f20))) (l20 : K.lookup f20 = some ⟨oc20, od20, .func (PySem.W.fnOf "rings_ever" "rings_ever" (defArgs s_rings_ever) (defBody s_rings_ever) (defScope s_rings_ever) .none kV20 dc20 pm20 an20 cd20 ct20), sl20⟩) (c20 : PySem.W.codeIn K cd20 "rings_ever" = true) (k20 : PySem.W.keepIn K (.ref f20) = true)
    (a21 : PySem.W.nsIn K mainGlobals "_law_cell_at" = some (some (.ref f21))) (l21 : K.lookup f21 = some ⟨oc21, od21, .func (PySem.W.fnOf "_law_cell_at" "_law_cell_at" (defArgs s_l_cell_at) (defBody s_l_cell_at) (defScope s_l_cell_at) .none kV21 dc21 pm21 an21 cd21 ct21), sl21⟩) (c21 : PySem.W.codeIn K cd21 "_law_cell_at" = true) (k21 : PySem.W.keepIn K (.ref f21) = true)
    (a22 : PySem.W.nsIn K mainGlobals "_law_big" = some (some (.ref f22))) (l22 : K.lookup f22 = some ⟨oc22, od22, .func (PySem.W.fnOf "_law_big" "_law_big" (defArgs s_l_big) (defBody s_l_big) (defScope s_l_big) .none kV22 dc22 pm22 an22 cd22 ct22), sl22⟩) (c22 : PySem.W.codeIn K cd22 "_law_big" = true) (k22 : PySem.W.keepIn K (.ref f22) = true)
    (a23 : PySem.W.nsIn K mainGlobals "_law_book" = some (some (.ref f23))) (l23 : K.lookup f23 = some ⟨oc23, od23, .func (PySem.W.fnOf "_law_book" "_law_book" (defArgs s_l_book) (defBody s_l_book) (defScope s_l_book) .none kV23 dc23 pm23 an23 cd23 ct23), sl23⟩) (c23 : PySem.W.codeIn K cd23 "_law_book" = true) (k23 : PySem.W.keepIn K (.ref f23) = true)
    (a24 : PySem.W.nsIn K mainGlobals "_law_books" = some (some (.ref f24))) (l24 : K.lookup f24 = some ⟨oc24, od24, .func (PySem.W.fnOf "_law_books" "_law_books" (defArgs s_l_books) (defBody s_l_books) (defScope s_l_books) .none kV24 dc24 pm24 an24 cd24 ct24), sl24⟩) (c24 : PySem.W.codeIn K cd24 "_law_books" = true) (k24 : PySem.W.keepIn K (.ref f24) = true)
    (a25 : PySem.W.nsIn K mainGlobals "_law_least" = some (some (.ref f25))) (l25 : K.lookup f25 = some ⟨oc25, od25, .func (PySem.W.fnOf "_law_least" "_law_least" (defArgs s_l_least) (defBody s_l_least) (defScope s_l_least) .none kV25 dc25 pm25 an25 cd25 ct25), sl25⟩) (c25 : PySem.W.codeIn K cd25 "_law_least" = true) (k25 : PySem.W.keepIn K (.ref f25) = true)
    (a26 : PySem.W.nsIn K mainGlobals "law" = some (some (.ref f26))) (l26 : K.lookup f26 = some ⟨oc26, od26, .func (PySem.W.fnOf "law" "law" (defArgs s_law) (defBody s_law) (defScope s_law) .none kV26 dc26 pm26 an26 cd26 ct26), sl26⟩) (c26 : PySem.W.codeIn K cd26 "law" = true) (k26 : PySem.W.keepIn K (.ref f26) = true)
    (aC_Rings : PySem.W.nsIn K mainGlobals "Rings" = some (some (.ref C_Rings))) (pg_Rings : PySem.W.plainGet K C_Rings Str.empty = true) (hd_Rings : PySem.W.hasDictIn K C_Rings = true) (po_Rings : PySem.W.plainOver K C_Rings = true) (sa_Rings : PySem.W.findIn K (.ref C_Rings) "__setattr__" = some (some (.builtin "object.__setattr__")))
    (mk_Rings : PySem.W.makesIn K C_Rings = true) (kc_Rings : PySem.W.keepIn K (.ref C_Rings) = true)
    (n_Rings_forms : PySem.W.findIn K (.ref C_Rings) "forms" = some none)
    (n_Rings_named : PySem.W.findIn K (.ref C_Rings) "named" = some none)
    (n_Rings_long : PySem.W.findIn K (.ref C_Rings) "long" = some none)
    (n_Rings_counts : PySem.W.findIn K (.ref C_Rings) "counts" = some none)
    (aC_Guide : PySem.W.nsIn K mainGlobals "Guide" = some (some (.ref C_Guide))) (pg_Guide : PySem.W.plainGet K C_Guide Str.empty = true) (hd_Guide : PySem.W.hasDictIn K C_Guide = true) (po_Guide : PySem.W.plainOver K C_Guide = true) (sa_Guide : PySem.W.findIn K (.ref C_Guide) "__setattr__" = some (some (.builtin "object.__setattr__")))
    (mk_Guide : PySem.W.makesIn K C_Guide = true) (kc_Guide : PySem.W.keepIn K (.ref C_Guide) = true)
    (n_Guide_forms : PySem.W.findIn K (.ref C_Guide) "forms" = some none)
    (n_Guide_numbers : PySem.W.findIn K (.ref C_Guide) "numbers" = some none)
    (n_Guide_limbs : PySem.W.findIn K (.ref C_Guide) "limbs" = some none)
    (n_Guide_lengths : PySem.W.findIn K (.ref C_Guide) "lengths" = some none)
    (n_Guide_ends : PySem.W.findIn K (.ref C_Guide) "ends" = some none)
    (a_Rings___init__ : PySem.W.findIn K (.ref C_Rings) "__init__" = some (some (.ref f27)))
    (a_Rings_part_rung : PySem.W.findIn K (.ref C_Rings) "part_rung" = some (some (.ref f28)))
    (a_Rings_ahead : PySem.W.findIn K (.ref C_Rings) "ahead" = some (some (.ref f29)))
    (a_Guide___init__ : PySem.W.findIn K (.ref C_Guide) "__init__" = some (some (.ref f30)))
    (a_Guide_look_at : PySem.W.findIn K (.ref C_Guide) "look_at" = some (some (.ref f31)))
    (a_Guide_leave : PySem.W.findIn K (.ref C_Guide) "leave" = some (some (.ref f32)))
    (a_Guide_put : PySem.W.findIn K (.ref C_Guide) "put" = some (some (.ref f33)))
    (a_Guide_put_beside : PySem.W.findIn K (.ref C_Guide) "put_beside" = some (some (.ref f34)))
    (a_Guide_put_in_row : PySem.W.findIn K (.ref C_Guide) "put_in_row" = some (some (.ref f35)))
    (a_Guide_words : PySem.W.findIn K (.ref C_Guide) "words" = some (some (.ref f36)))
    (i27 : PySem.W.isFn K (.ref f27) = true) (l27 : K.lookup f27 = some ⟨oc27, od27, .func (PySem.W.fnOf "__init__" "Rings.__init__" (defArgs s_m_Rings_init) (defBody s_m_Rings_init) (defScope s_m_Rings_init) .none kV27 dc27 pm27 an27 cd27 ct27), sl27⟩) (c27 : PySem.W.codeIn K cd27 "Rings.__init__" = true) (k27 : PySem.W.keepIn K (.ref f27) = true)
    (i28 : PySem.W.isFn K (.ref f28) = true) (l28 : K.lookup f28 = some ⟨oc28, od28, .func (PySem.W.fnOf "part_rung" "Rings.part_rung" (defArgs s_m_Rings_part_rung) (defBody s_m_Rings_part_rung) (defScope s_m_Rings_part_rung) .none kV28 dc28 pm28 an28 cd28 ct28), sl28⟩) (c28 : PySem.W.codeIn K cd28 "Rings.part_rung" = true) (k28 : PySem.W.keepIn K (.ref f28) = true)
    (i29 : PySem.W.isFn K (.ref f29) = true) (l29 : K.lookup f29 = some ⟨oc29, od29, .func (PySem.W.fnOf "ahead" "Rings.ahead" (defArgs s_m_Rings_ahead) (defBody s_m_Rings_ahead) (defScope s_m_Rings_ahead) .none kV29 dc29 pm29 an29 cd29 ct29), sl29⟩) (c29 : PySem.W.codeIn K cd29 "Rings.ahead" = true) (k29 : PySem.W.keepIn K (.ref f29) = true)
    (i30 : PySem.W.isFn K (.ref f30) = true) (l30 : K.lookup f30 = some ⟨oc30, od30, .func (PySem.W.fnOf "__init__" "Guide.__init__" (defArgs s_m_Guide_init) (defBody s_m_Guide_init) (defScope s_m_Guide_init) .none kV30 dc30 pm30 an30 cd30 ct30), sl30⟩) (c30 : PySem.W.codeIn K cd30 "Guide.__init__" = true) (k30 : PySem.W.keepIn K (.ref f30) = true)
    (i31 : PySem.W.isFn K (.ref f31) = true) (l31 : K.lookup f31 = some ⟨oc31, od31, .func (PySem.W.fnOf "look_at" "Guide.look_at" (defArgs s_m_Guide_look_at) (defBody s_m_Guide_look_at) (defScope s_m_Guide_look_at) .none kV31 dc31 pm31 an31 cd31 ct31), sl31⟩) (c31 : PySem.W.codeIn K cd31 "Guide.look_at" = true) (k31 : PySem.W.keepIn K (.ref f31) = true)
    (i32 : PySem.W.isFn K (.ref f32) = true) (l32 : K.lookup f32 = some ⟨oc32, od32, .func (PySem.W.fnOf "leave" "Guide.leave" (defArgs s_m_Guide_leave) (defBody s_m_Guide_leave) (defScope s_m_Guide_leave) .none kV32 dc32 pm32 an32 cd32 ct32), sl32⟩) (c32 : PySem.W.codeIn K cd32 "Guide.leave" = true) (k32 : PySem.W.keepIn K (.ref f32) = true)
    (i33 : PySem.W.isFn K (.ref f33) = true) (l33 : K.lookup f33 = some ⟨oc33, od33, .func (PySem.W.fnOf "put" "Guide.put" (defArgs s_m_Guide_put) (defBody s_m_Guide_put) (defScope s_m_Guide_put) .none kV33 dc33 pm33 an33 cd33 ct33), sl33⟩) (c33 : PySem.W.codeIn K cd33 "Guide.put" = true) (k33 : PySem.W.keepIn K (.ref f33) = true)
    (i34 : PySem.W.isFn K (.ref f34) = true) (l34 : K.lookup f34 = some ⟨oc34, od34, .func (PySem.W.fnOf "put_beside" "Guide.put_beside" (defArgs s_m_Guide_put_beside) (defBody s_m_Guide_put_beside) (defScope s_m_Guide_put_beside) .none kV34 dc34 pm34 an34 cd34 ct34), sl34⟩) (c34 : PySem.W.codeIn K cd34 "Guide.put_beside" = true) (k34 : PySem.W.keepIn K (.ref f34) = true)
    (i35 : PySem.W.isFn K (.ref f35) = true) (l35 : K.lookup f35 = some ⟨oc35, od35, .func (PySem.W.fnOf "put_in_row" "Guide.put_in_row" (defArgs s_m_Guide_put_in_row) (defBody s_m_Guide_put_in_row) (defScope s_m_Guide_put_in_row) .none kV35 dc35 pm35 an35 cd35 ct35), sl35⟩) (c35 : PySem.W.codeIn K cd35 "Guide.put_in_row" = true) (k35 : PySem.W.keepIn K (.ref f35) = true)
    (i36 : PySem.W.isFn K (.ref f36) = true) (l36 : K.lookup f36 = some ⟨oc36, od36, .func (PySem.W.fnOf "words" "Guide.words" (defArgs s_m_Guide_words) (defBody s_m_Guide_words) (defScope s_m_Guide_words) .none kV36 dc36 pm36 an36 cd36 ct36), sl36⟩) (c36 : PySem.W.codeIn K cd36 "Guide.words" = true) (k36 : PySem.W.keepIn K (.ref f36) = true)
    (z_divmod : PySem.W.nsIn K mainGlobals "divmod" = some none)
    (z_enumerate : PySem.W.nsIn K mainGlobals "enumerate" = some none)
    (z_int : PySem.W.nsIn K mainGlobals "int" = some none)
    (z_isinstance : PySem.W.nsIn K mainGlobals "isinstance" = some none)
    (z_len : PySem.W.nsIn K mainGlobals "len" = some none)
    (z_max : PySem.W.nsIn K mainGlobals "max" = some none)
    (z_range : PySem.W.nsIn K mainGlobals "range" = some none)
    (z_set : PySem.W.nsIn K mainGlobals "set" = some none)
    (z_sorted : PySem.W.nsIn K mainGlobals "sorted" = some none)
    (z_sum : PySem.W.nsIn K mainGlobals "sum" = some none)
    (z_zip : PySem.W.nsIn K mainGlobals "zip" = some none)
    {tk_LONGEST : Tok} (g_LONGEST : PySem.W.nsIn K mainGlobals "LONGEST" = some (some (.int 1000000000000000000000000000000000000000000000000000000000000 tk_LONGEST)))
    {tk_MOST : Tok} (g_MOST : PySem.W.nsIn K mainGlobals "MOST" = some (some (.int 12 tk_MOST))) :
    ∃ fd : FuncData, (∀ (s : Shared) (v : Value), BindsTo s fd ⟨[v], []⟩ [("script", v)]) ∧ ∀ base : Heap, K.In base → base.Ns mainGlobals mg → FnOk l.prog w K mg base CX0 201 fa fd ["script"] (spL K (runFn (ctx T 200) f_law)) := by
  have e := hfa.symm.trans (PySem.W.mg_of X G a26)
  cases e
  have TX : Txt K mg (kap C_Rings C_Guide) := ⟨(memc ⟨⟨pg_Rings, hd_Rings, po_Rings, sa_Rings⟩, n_Rings_forms⟩ (mem1 ⟨⟨pg_Guide, hd_Guide, po_Guide, sa_Guide⟩, n_Guide_forms⟩)), (mem1 ⟨⟨pg_Rings, hd_Rings, po_Rings, sa_Rings⟩, n_Rings_named⟩), (mem1 ⟨⟨pg_Rings, hd_Rings, po_Rings, sa_Rings⟩, n_Rings_long⟩), (mem1 ⟨⟨pg_Rings, hd_Rings, po_Rings, sa_Rings⟩, n_Rings_counts⟩), (mem1 ⟨⟨pg_Guide, hd_Guide, po_Guide, sa_Guide⟩, n_Guide_numbers⟩), (mem1 ⟨⟨pg_Guide, hd_Guide, po_Guide, sa_Guide⟩, n_Guide_limbs⟩), (mem1 ⟨⟨pg_Guide, hd_Guide, po_Guide, sa_Guide⟩, n_Guide_lengths⟩), (mem1 ⟨⟨pg_Guide, hd_Guide, po_Guide, sa_Guide⟩, n_Guide_ends⟩), PySem.W.mg_none_of X G z_divmod, PySem.W.mg_none_of X G z_enumerate, PySem.W.mg_none_of X G z_int, PySem.W.mg_none_of X G z_isinstance, PySem.W.mg_none_of X G z_len, PySem.W.mg_none_of X G z_max, PySem.W.mg_none_of X G z_range, PySem.W.mg_none_of X G z_set, PySem.W.mg_none_of X G z_sorted, PySem.W.mg_none_of X G z_sum, PySem.W.mg_none_of X G z_zip, ⟨_, PySem.W.mg_of X G g_LONGEST⟩, ⟨_, PySem.W.mg_of X G g_MOST⟩, trivial⟩
  have Fs : Funs K mg (kap C_Rings C_Guide) := ⟨⟨f27, _, (funZ_mk (st := s_m_Rings_init) l27 c27 k27), ⟨pg_Rings, hd_Rings, po_Rings, sa_Rings⟩, ⟨a_Rings___init__, i27, k27⟩, (FunD.bindsN (funZ_mk (st := s_m_Rings_init) l27 c27 k27) (ps := ["self", "book", "word"]) fun _ _ _ _ _ _ us hl => match us, hl with | [_, _, _], _ => rfl)⟩,
    ⟨f28, _, (funZ_mk (st := s_m_Rings_part_rung) l28 c28 k28), ⟨pg_Rings, hd_Rings, po_Rings, sa_Rings⟩, ⟨a_Rings_part_rung, i28, k28⟩, (FunD.bindsN (funZ_mk (st := s_m_Rings_part_rung) l28 c28 k28) (ps := ["self", "k", "many"]) fun _ _ _ _ _ _ us hl => match us, hl with | [_, _, _], _ => rfl)⟩,
    ⟨f29, _, (funZ_mk (st := s_m_Rings_ahead) l29 c29 k29), ⟨pg_Rings, hd_Rings, po_Rings, sa_Rings⟩, ⟨a_Rings_ahead, i29, k29⟩, (FunD.bindsN (funZ_mk (st := s_m_Rings_ahead) l29 c29 k29) (ps := ["self", "beat"]) fun _ _ _ _ _ _ us hl => match us, hl with | [_, _], _ => rfl)⟩,
    ⟨f30, _, (funZ_mk (st := s_m_Guide_init) l30 c30 k30), ⟨pg_Guide, hd_Guide, po_Guide, sa_Guide⟩, ⟨a_Guide___init__, i30, k30⟩, (FunD.bindsN (funZ_mk (st := s_m_Guide_init) l30 c30 k30) (ps := ["self", "book"]) fun _ _ _ _ _ _ us hl => match us, hl with | [_, _], _ => rfl)⟩,
    ⟨f31, _, (funZ_mk (st := s_m_Guide_look_at) l31 c31 k31), ⟨pg_Guide, hd_Guide, po_Guide, sa_Guide⟩, ⟨a_Guide_look_at, i31, k31⟩, (FunD.bindsN (funZ_mk (st := s_m_Guide_look_at) l31 c31 k31) (ps := ["self", "beat"]) fun _ _ _ _ _ _ us hl => match us, hl with | [_, _], _ => rfl)⟩,
    ⟨f32, _, (funZ_mk (st := s_m_Guide_leave) l32 c32 k32), ⟨pg_Guide, hd_Guide, po_Guide, sa_Guide⟩, ⟨a_Guide_leave, i32, k32⟩, (FunD.bindsN (funZ_mk (st := s_m_Guide_leave) l32 c32 k32) (ps := ["self", "number", "heights"]) fun _ _ _ _ _ _ us hl => match us, hl with | [_, _, _], _ => rfl)⟩,
    ⟨f33, _, (funZ_mk (st := s_m_Guide_put) l33 c33 k33), ⟨pg_Guide, hd_Guide, po_Guide, sa_Guide⟩, ⟨a_Guide_put, i33, k33⟩, (FunD.bindsN (funZ_mk (st := s_m_Guide_put) l33 c33 k33) (ps := ["self", "number", "beat", "heights"]) fun _ _ _ _ _ _ us hl => match us, hl with | [_, _, _, _], _ => rfl)⟩,
    ⟨f34, _, (funZ_mk (st := s_m_Guide_put_beside) l34 c34 k34), ⟨pg_Guide, hd_Guide, po_Guide, sa_Guide⟩, ⟨a_Guide_put_beside, i34, k34⟩, (FunD.bindsN (funZ_mk (st := s_m_Guide_put_beside) l34 c34 k34) (ps := ["self", "number", "beat", "heights"]) fun _ _ _ _ _ _ us hl => match us, hl with | [_, _, _, _], _ => rfl)⟩,
    ⟨f35, _, (funZ_mk (st := s_m_Guide_put_in_row) l35 c35 k35), ⟨pg_Guide, hd_Guide, po_Guide, sa_Guide⟩, ⟨a_Guide_put_in_row, i35, k35⟩, (FunD.bindsN (funZ_mk (st := s_m_Guide_put_in_row) l35 c35 k35) (ps := ["self", "numbers", "beat", "heights"]) fun _ _ _ _ _ _ us hl => match us, hl with | [_, _, _, _], _ => rfl)⟩,
    ⟨f36, _, (funZ_mk (st := s_m_Guide_words) l36 c36 k36), ⟨pg_Guide, hd_Guide, po_Guide, sa_Guide⟩, ⟨a_Guide_words, i36, k36⟩, (FunD.bindsN (funZ_mk (st := s_m_Guide_words) l36 c36 k36) (ps := ["self", "number", "beat"]) fun _ _ _ _ _ _ us hl => match us, hl with | [_, _, _], _ => rfl)⟩,
    ⟨f27, _, (funZ_mk (st := s_m_Rings_init) l27 c27 k27), PySem.W.mg_of X G aC_Rings, ⟨mk_Rings, a_Rings___init__, i27, kc_Rings⟩, (FunD.bindsN (funZ_mk (st := s_m_Rings_init) l27 c27 k27) (ps := ["self", "book", "word"]) fun _ _ _ _ _ _ us hl => match us, hl with | [_, _, _], _ => rfl)⟩,
    ⟨f30, _, (funZ_mk (st := s_m_Guide_init) l30 c30 k30), PySem.W.mg_of X G aC_Guide, ⟨mk_Guide, a_Guide___init__, i30, kc_Guide⟩, (FunD.bindsN (funZ_mk (st := s_m_Guide_init) l30 c30 k30) (ps := ["self", "book"]) fun _ _ _ _ _ _ us hl => match us, hl with | [_, _], _ => rfl)⟩,
    (by
      have F := funZ_mk (st := s__wall) l1 c1 k1
      have b := FunD.bindsN F (ps := ["k"]) fun _ _ _ _ _ _ us hl => match us, hl with | [_], _ => rfl
      exact ⟨f1, _, [], F, PySem.W.mg_of X G a1, b, b, .nil⟩),
    (by
      have F := funZ_mk (st := s_numbers_of) l2 c2 k2
      have b := FunD.bindsN F (ps := ["rows"]) fun _ _ _ _ _ _ us hl => match us, hl with | [_], _ => rfl
      exact ⟨f2, _, [], F, PySem.W.mg_of X G a2, b, b, .nil⟩),
    (by
      have F := funZ_mk (st := s_named) l3 c3 k3
      have b := FunD.bindsN F (ps := ["form", "numbers"]) fun _ _ _ _ _ _ us hl => match us, hl with | [_, _], _ => rfl
      exact ⟨f3, _, [], F, PySem.W.mg_of X G a3, b, b, .nil⟩),
    (by
      have F := funZ_mk (st := s_moved) l4 c4 k4
      have b := FunD.bindsN F (ps := ["book"]) fun _ _ _ _ _ _ us hl => match us, hl with | [_], _ => rfl
      exact ⟨f4, _, [], F, PySem.W.mg_of X G a4, b, b, .nil⟩),
    (by
      have F := funZ_mk (st := s_length_of) l5 c5 k5
      have b := FunD.bindsN F (ps := ["form", "below"]) fun _ _ _ _ _ _ us hl => match us, hl with | [_, _], _ => rfl
      exact ⟨f5, _, [], F, PySem.W.mg_of X G a5, b, b, .nil⟩),
    (by
      have F := funZ_mk (st := s_look_at_side) l6 c6 k6
      have b := FunD.bindsN F (ps := ["book", "number", "limbs"]) fun _ _ _ _ _ _ us hl => match us, hl with | [_, _, _], _ => rfl
      exact ⟨f6, _, [], F, PySem.W.mg_of X G a6, b, b, .nil⟩),
    (by
      have F := funZ_mk (st := s_lengths) l7 c7 k7
      have b := FunD.bindsN F (ps := ["book"]) fun _ _ _ _ _ _ us hl => match us, hl with | [_], _ => rfl
      exact ⟨f7, _, [], F, PySem.W.mg_of X G a7, b, b, .nil⟩),
    (by
      have F := funZ_mk (st := s_ends) l8 c8 k8
      have b := FunD.bindsN F (ps := ["book"]) fun _ _ _ _ _ _ us hl => match us, hl with | [_], _ => rfl
      exact ⟨f8, _, [], F, PySem.W.mg_of X G a8, b, b, .nil⟩),
    (by
      have F := funZ_mk (st := s_inner_parts) l9 c9 k9
      have b := FunD.bindsN F (ps := ["book"]) fun _ _ _ _ _ _ us hl => match us, hl with | [_], _ => rfl
      exact ⟨f9, _, [], F, PySem.W.mg_of X G a9, b, b, .nil⟩),
    (by
      have F := funZ_mk (st := s_look_at_beat) l10 c10 k10
      have b := FunD.bindsN F (ps := ["beat", "last"]) fun _ _ _ _ _ _ us hl => match us, hl with | [_, _], _ => rfl
      exact ⟨f10, _, [], F, PySem.W.mg_of X G a10, b, b, .nil⟩),
    (by
      have F := funZ_mk (st := s_ring_count) l11 c11 k11
      have b := FunD.bindsN F (ps := ["book", "word", "beat"]) fun _ _ _ _ _ _ us hl => match us, hl with | [_, _, _], _ => rfl
      exact ⟨f11, _, [], F, PySem.W.mg_of X G a11, b, b, .nil⟩),
    (by
      have F := funZ_mk (st := s_first_beyond) l12 c12 k12
      have b := FunD.bindsN F (ps := ["counted", "number", "low", "high"]) fun _ _ _ _ _ _ us hl => match us, hl with | [_, _, _, _], _ => rfl
      exact ⟨f12, _, [], F, PySem.W.mg_of X G a12, b, b, .nil⟩),
    (by
      have F := funZ_mkd (st := s_ring_beat) (dfs := [0]) (its := [.int 0 tt13_0]) (fun h => nomatch h) l13 c13 k13 t13 (.cons ⟨_, rfl⟩ .nil)
      obtain ⟨us0, v0, b0⟩ := FunD.binds1 F (ps := ["book", "word", "number"]) 2 0 (fun h => nomatch h) rfl fun _ _ _ _ _ _ _ us its hl hl2 => match us, hl, its, hl2 with | [_, _], _, [_], _ => ⟨_, rfl, rfl⟩
      obtain ⟨us1, v1, b1⟩ := FunD.binds1 F (ps := ["book", "word", "number"]) 3 1 (fun h => nomatch h) rfl fun _ _ _ _ _ _ _ us its hl hl2 => match us, hl, its, hl2 with | [_, _, _], _, [_], _ => ⟨_, rfl, rfl⟩
      cases v1
      exact ⟨f13, _, us0, F, PySem.W.mg_of X G a13, b1, b0, v0⟩),
    (by
      have F := funZ_mk (st := s_whole_steps) l14 c14 k14
      have b := FunD.bindsN F (ps := ["one", "other"]) fun _ _ _ _ _ _ us hl => match us, hl with | [_, _], _ => rfl
      exact ⟨f14, _, [], F, PySem.W.mg_of X G a14, b, b, .nil⟩),
    (by
      have F := funZ_mk (st := s_joined) l15 c15 k15
      have b := FunD.bindsN F (ps := ["beat", "turn", "other", "other_turn"]) fun _ _ _ _ _ _ us hl => match us, hl with | [_, _, _, _], _ => rfl
      exact ⟨f15, _, [], F, PySem.W.mg_of X G a15, b, b, .nil⟩),
    (by
      have F := funZ_mk (st := s_beats_of) l16 c16 k16
      have b := FunD.bindsN F (ps := ["book", "word"]) fun _ _ _ _ _ _ us hl => match us, hl with | [_, _], _ => rfl
      exact ⟨f16, _, [], F, PySem.W.mg_of X G a16, b, b, .nil⟩),
    (by
      have F := funZ_mkd (st := s_meeting) (dfs := [0]) (its := [.int 0 tt17_0]) (fun h => nomatch h) l17 c17 k17 t17 (.cons ⟨_, rfl⟩ .nil)
      obtain ⟨us0, v0, b0⟩ := FunD.binds1 F (ps := ["books", "words", "beat"]) 2 0 (fun h => nomatch h) rfl fun _ _ _ _ _ _ _ us its hl hl2 => match us, hl, its, hl2 with | [_, _], _, [_], _ => ⟨_, rfl, rfl⟩
      obtain ⟨us1, v1, b1⟩ := FunD.binds1 F (ps := ["books", "words", "beat"]) 3 1 (fun h => nomatch h) rfl fun _ _ _ _ _ _ _ us its hl hl2 => match us, hl, its, hl2 with | [_, _, _], _, [_], _ => ⟨_, rfl, rfl⟩
      cases v1
      exact ⟨f17, _, us0, F, PySem.W.mg_of X G a17, b1, b0, v0⟩),
    (by
      have F := funZ_mk (st := s_rings) l18 c18 k18
      have b := FunD.bindsN F (ps := ["book", "beat"]) fun _ _ _ _ _ _ us hl => match us, hl with | [_, _], _ => rfl
      exact ⟨f18, _, [], F, PySem.W.mg_of X G a18, b, b, .nil⟩),
    (by
      have F := funZ_mk (st := s_turn_of) l19 c19 k19
      have b := FunD.bindsN F (ps := ["book", "beat"]) fun _ _ _ _ _ _ us hl => match us, hl with | [_, _], _ => rfl
      exact ⟨f19, _, [], F, PySem.W.mg_of X G a19, b, b, .nil⟩),
    (by
      have F := funZ_mk (st := s_rings_ever) l20 c20 k20
      have b := FunD.bindsN F (ps := ["book", "beat"]) fun _ _ _ _ _ _ us hl => match us, hl with | [_, _], _ => rfl
      exact ⟨f20, _, [], F, PySem.W.mg_of X G a20, b, b, .nil⟩),
    (by
      have F := funZ_mk (st := s_l_cell_at) l21 c21 k21
      have b := FunD.bindsN F (ps := ["script", "k"]) fun _ _ _ _ _ _ us hl => match us, hl with | [_, _], _ => rfl
      exact ⟨f21, _, [], F, PySem.W.mg_of X G a21, b, b, .nil⟩),
    (by
      have F := funZ_mk (st := s_l_big) l22 c22 k22
      have b := FunD.bindsN F (ps := ["cell", "most"]) fun _ _ _ _ _ _ us hl => match us, hl with | [_, _], _ => rfl
      exact ⟨f22, _, [], F, PySem.W.mg_of X G a22, b, b, .nil⟩),
    (by
      have F := funZ_mk (st := s_l_book) l23 c23 k23
      have b := FunD.bindsN F (ps := ["cells", "share", "keep"]) fun _ _ _ _ _ _ us hl => match us, hl with | [_, _, _], _ => rfl
      exact ⟨f23, _, [], F, PySem.W.mg_of X G a23, b, b, .nil⟩),
    (by
      have F := funZ_mk (st := s_l_books) l24 c24 k24
      have b := FunD.bindsN F (ps := ["script", "keeps"]) fun _ _ _ _ _ _ us hl => match us, hl with | [_, _], _ => rfl
      exact ⟨f24, _, [], F, PySem.W.mg_of X G a24, b, b, .nil⟩),
    (by
      have F := funZ_mk (st := s_l_least) l25 c25 k25
      have b := FunD.bindsN F (ps := ["script", "many", "words", "beat"]) fun _ _ _ _ _ _ us hl => match us, hl with | [_, _, _, _], _ => rfl
      exact ⟨f25, _, [], F, PySem.W.mg_of X G a25, b, b, .nil⟩),
    trivial⟩
  have F := funZ_mk (st := s_law) l26 c26 k26
  exact ⟨_, fun s v => .of_eq rfl, fun base _ _ => spL_of (κ := (kap C_Rings C_Guide)) rfl (w_law TX (all_n TX Fs 200) F)⟩
end Z.k58
open PySem PySem.W PyProof.Rows
set_option maxRecDepth 100000 in
set_option maxHeartbeats 0 in
theorem PySem.Challenge.cw_camplay_k58_whole_far_books_of_two_rings_holds : PySem.Challenge.rw_camplay_k58_whole_far_books_of_two_rings.Holds := by
  w_on; o_law; k_head; (case hw => w_witness2)
  k_fill
  refine Z.law_end (l := PySem.Challenge.rw_camplay_k58_whole_far_books_of_two_rings) (k := 201) rfl rfl ⟨rfl, by decide, by decide⟩ (fun w h Y => PySem.W.kIn_of Y) ?F Z.k58.law_true
  case F =>
    intro w mg fa h KX G hmg
    refine' Z.k58.all_mk KX G hmg ?a1 ?l1 ?c1 ?k1 ?a2 ?l2 ?c2 ?k2 ?a3 ?l3 ?c3 ?k3 ?a4 ?l4 ?c4 ?k4 ?a5 ?l5 ?c5 ?k5 ?a6 ?l6 ?c6 ?k6 ?a7 ?l7 ?c7 ?k7 ?a8 ?l8 ?c8 ?k8 ?a9 ?l9 ?c9 ?k9 ?a10 ?l10 ?c10 ?k10 ?a11 ?l11 ?c11 ?k11 ?a12 ?l12 ?c12 ?k12 ?a13 ?l13 ?c13 ?k13 ?t13 ?a14 ?l14 ?c14 ?k14 ?a15 ?l15 ?c15 ?k15 ?a16 ?l16 ?c16 ?k16 ?a17 ?l17 ?c17 ?k17 ?t17 ?a18 ?l18 ?c18 ?k18 ?a19 ?l19 ?c19 ?k19 ?a20 ?l20 ?c20 ?k20 ?a21 ?l21 ?c21 ?k21 ?a22 ?l22 ?c22 ?k22 ?a23 ?l23 ?c23 ?k23 ?a24 ?l24 ?c24 ?k24 ?a25 ?l25 ?c25 ?k25 ?a26 ?l26 ?c26 ?k26 ?aC_Rings ?pg_Rings ?hd_Rings ?po_Rings ?sa_Rings ?mk_Rings ?kc_Rings ?n_Rings_forms ?n_Rings_named ?n_Rings_long ?n_Rings_counts ?aC_Guide ?pg_Guide ?hd_Guide ?po_Guide ?sa_Guide ?mk_Guide ?kc_Guide ?n_Guide_forms ?n_Guide_numbers ?n_Guide_limbs ?n_Guide_lengths ?n_Guide_ends ?a_Rings___init__ ?a_Rings_part_rung ?a_Rings_ahead ?a_Guide___init__ ?a_Guide_look_at ?a_Guide_leave ?a_Guide_put ?a_Guide_put_beside ?a_Guide_put_in_row ?a_Guide_words ?i27 ?l27 ?c27 ?k27 ?i28 ?l28 ?c28 ?k28 ?i29 ?l29 ?c29 ?k29 ?i30 ?l30 ?c30 ?k30 ?i31 ?l31 ?c31 ?k31 ?i32 ?l32 ?c32 ?k32 ?i33 ?l33 ?c33 ?k33 ?i34 ?l34 ?c34 ?k34 ?i35 ?l35 ?c35 ?k35 ?i36 ?l36 ?c36 ?k36 ?z_divmod ?z_enumerate ?z_int ?z_isinstance ?z_len ?z_max ?z_range ?z_set ?z_sorted ?z_sum ?z_zip ?g_LONGEST ?g_MOST
    (case a1 => k_is)
    (case l1 => k_is)
    (case c1 => k_is)
    (case k1 => k_is)
    (case a2 => k_is)
    (case l2 => k_is)
    (case c2 => k_is)
    (case k2 => k_is)
    (case a3 => k_is)
    (case l3 => k_is)
    (case c3 => k_is)
    (case k3 => k_is)
    (case a4 => k_is)
    (case l4 => k_is)
    (case c4 => k_is)
    (case k4 => k_is)
    (case a5 => k_is)
    (case l5 => k_is)
    (case c5 => k_is)
    (case k5 => k_is)
    (case a6 => k_is)
    (case l6 => k_is)
    (case c6 => k_is)
    (case k6 => k_is)
    (case a7 => k_is)
    (case l7 => k_is)
    (case c7 => k_is)
    (case k7 => k_is)
    (case a8 => k_is)
    (case l8 => k_is)
    (case c8 => k_is)
    (case k8 => k_is)
    (case a9 => k_is)
    (case l9 => k_is)
    (case c9 => k_is)
    (case k9 => k_is)
    (case a10 => k_is)
    (case l10 => k_is)
    (case c10 => k_is)
    (case k10 => k_is)
    (case a11 => k_is)
    (case l11 => k_is)
    (case c11 => k_is)
    (case k11 => k_is)
    (case a12 => k_is)
    (case l12 => k_is)
    (case c12 => k_is)
    (case k12 => k_is)
    (case a13 => k_is)
    (case l13 => k_is)
    (case c13 => k_is)
    (case k13 => k_is)
    (case t13 => k_is)
    (case a14 => k_is)
    (case l14 => k_is)
    (case c14 => k_is)
    (case k14 => k_is)
    (case a15 => k_is)
    (case l15 => k_is)
    (case c15 => k_is)
    (case k15 => k_is)
    (case a16 => k_is)
    (case l16 => k_is)
    (case c16 => k_is)
    (case k16 => k_is)
    (case a17 => k_is)
    (case l17 => k_is)
    (case c17 => k_is)
    (case k17 => k_is)
    (case t17 => k_is)
    (case a18 => k_is)
    (case l18 => k_is)
    (case c18 => k_is)
    (case k18 => k_is)
    (case a19 => k_is)
    (case l19 => k_is)
    (case c19 => k_is)
    (case k19 => k_is)
    (case a20 => k_is)
    (case l20 => k_is)
    (case c20 => k_is)
    (case k20 => k_is)
    (case a21 => k_is)
    (case l21 => k_is)
    (case c21 => k_is)
    (case k21 => k_is)
    (case a22 => k_is)
    (case l22 => k_is)
    (case c22 => k_is)
    (case k22 => k_is)
    (case a23 => k_is)
    (case l23 => k_is)
    (case c23 => k_is)
    (case k23 => k_is)
    (case a24 => k_is)
    (case l24 => k_is)
    (case c24 => k_is)
    (case k24 => k_is)
    (case a25 => k_is)
    (case l25 => k_is)
    (case c25 => k_is)
    (case k25 => k_is)
    (case a26 => k_is)
    (case l26 => k_is)
    (case c26 => k_is)
    (case k26 => k_is)
    (case aC_Rings => k_is)
    (case pg_Rings => k_is)
    (case hd_Rings => k_is)
    (case po_Rings => k_is)
    (case sa_Rings => k_is)
    (case mk_Rings => k_is)
    (case kc_Rings => k_is)
    (case n_Rings_forms => k_is)
    (case n_Rings_named => k_is)
    (case n_Rings_long => k_is)
    (case n_Rings_counts => k_is)
    (case aC_Guide => k_is)
    (case pg_Guide => k_is)
    (case hd_Guide => k_is)
    (case po_Guide => k_is)
    (case sa_Guide => k_is)
    (case mk_Guide => k_is)
    (case kc_Guide => k_is)
    (case n_Guide_forms => k_is)
    (case n_Guide_numbers => k_is)
    (case n_Guide_limbs => k_is)
    (case n_Guide_lengths => k_is)
    (case n_Guide_ends => k_is)
    (case a_Rings___init__ => k_is)
    (case a_Rings_part_rung => k_is)
    (case a_Rings_ahead => k_is)
    (case a_Guide___init__ => k_is)
    (case a_Guide_look_at => k_is)
    (case a_Guide_leave => k_is)
    (case a_Guide_put => k_is)
    (case a_Guide_put_beside => k_is)
    (case a_Guide_put_in_row => k_is)
    (case a_Guide_words => k_is)
    (case i27 => k_is)
    (case l27 => k_is)
    (case c27 => k_is)
    (case k27 => k_is)
    (case i28 => k_is)
    (case l28 => k_is)
    (case c28 => k_is)
    (case k28 => k_is)
    (case i29 => k_is)
    (case l29 => k_is)
    (case c29 => k_is)
    (case k29 => k_is)
    (case i30 => k_is)
    (case l30 => k_is)
    (case c30 => k_is)
    (case k30 => k_is)
    (case i31 => k_is)
    (case l31 => k_is)
    (case c31 => k_is)
    (case k31 => k_is)
    (case i32 => k_is)
    (case l32 => k_is)
    (case c32 => k_is)
    (case k32 => k_is)
    (case i33 => k_is)
    (case l33 => k_is)
    (case c33 => k_is)
    (case k33 => k_is)
    (case i34 => k_is)
    (case l34 => k_is)
    (case c34 => k_is)
    (case k34 => k_is)
    (case i35 => k_is)
    (case l35 => k_is)
    (case c35 => k_is)
    (case k35 => k_is)
    (case i36 => k_is)
    (case l36 => k_is)
    (case c36 => k_is)
    (case k36 => k_is)
    (case z_divmod => k_is)
    (case z_enumerate => k_is)
    (case z_int => k_is)
    (case z_isinstance => k_is)
    (case z_len => k_is)
    (case z_max => k_is)
    (case z_range => k_is)
    (case z_set => k_is)
    (case z_sorted => k_is)
    (case z_sum => k_is)
    (case z_zip => k_is)
    (case g_LONGEST => k_is)
    (case g_MOST => k_is)
